import PyProof.Rows.All
import Wide.All
import OpenK.AllK
import Wide.FinOn
import HandS.ForMost
import HandS.Exc
import HandS.TupAny
import HandS.Style
import KE.KEqNest
import PyProof.NeKinds
import HandS.More
import HandS.Flow
import HandS.RaiseMore
import HandS.IsInst
import KE.KExcIs
import HandS.Small
import HandS.Defaults
import HandS.Star
import HandS.Property
import HandS.ClsMeth
import HandS.MakeKw
import HandS.OwnEq
import HandS.FStr
import HandS.Text
import KE.KDictPairs
import KE.KOpsOwn
import HandS.SetTxt0
import HandS.Strs
import HandS.ExcInit
import HandS.ExcIs
import HandS.ExcField
import HandS.TryMany
import KE.KExcInit
import HandS.HeadWalk
import HandS.HeadEnd
import HandS.HeadHook2
import HandS.Codes
import HandS.HeadHook3
import HandS.Head0
import HandS.Head1
import HandS.Head2
import HandS.Words
import PySem.Challenge.RW_duedeeds_k01_errors_made
set_option Elab.async false
set_option linter.all false
set_option maxRecDepth 100000
set_option maxHeartbeats 4000000
/-! En0: data, mobile objects, the ghost heap, how they lie in the layer's heap. -/
namespace En
open PySem PySem.Spec PyProof.Rows L2

/-- plain data, and names of what is stored -/
inductive Dat where
  | non | bl (b : Bool) | int (i : Int) | str (x : Str)
  | tup (xs : List Dat) | lst (xs : List Dat) | dct (kvs : List (Key × Dat))
  | obj (c : Nat) (fs : List (Str × Dat)) | err (c : Nat) (fs : List (Str × Dat))
  | ref (n : Nat) | fn (f : Nat) | cls (c : Nat) | ty (n : String)
  /- a list that is not ours (the script) -/
  | scr (xs : List Dat)
  /- a tuple of which no more is known (of enumerate, zip) -/
  | tpl (xs : List Dat)
/-- what may change: an own object of one name, or one of the store -/
inductive Mob where
  | lst (xs : List Dat) | dct (kvs : List (Key × Dat)) | ins (c : Nat) (fs : List (Str × Dat))
def Mob.dat : Mob → Dat
  | .lst xs => .lst xs
  | .dct k => .dct k
  | .ins c fs => .obj c fs
inductive Slt where
  | no | val (d : Dat) | own (o : Mob)
/-- a result: data; an own object that no name has; the own object of a name -/
inductive Rv where
  | val (d : Dat) | own (o : Mob) | bor (i : Nat)
structure Stt where
  env : List Slt
  sto : List Mob
inductive Out (α : Type) where
  | ok (a : α) (s : Stt) | exc (x : Dat) (s : Stt) | stuck
abbrev Ac (α : Type) := Stt → Out α
def Ac.ret {α : Type} (a : α) : Ac α := fun s => .ok a s
def Ac.stk {α : Type} : Ac α := fun _ => .stuck
def Out.bind {α β : Type} (o : Out α) (f : α → Ac β) : Out β := match o with
  | .ok a s => f a s
  | .exc x s => .exc x s
  | .stuck => .stuck
def Ac.bind {α β : Type} (m : Ac α) (f : α → Ac β) : Ac β := fun s => (m s).bind f
instance : Monad Ac where
  pure := Ac.ret
  bind := Ac.bind
def Ac.get : Ac Stt := fun s => .ok s s
def Ac.opt {α : Type} : Option α → Ac α
  | some a => Ac.ret a
  | none => Ac.stk

/-! ### the world: what the top has left; the ghost: what is frozen, where the store's objects lie -/
structure Wd where
  K : PySem.W.Frag
  ca : Nat → Addr
  fa : Nat → Addr
structure Gh where
  F : Hp
  ρ : Nat → Addr
  n : Nat
structure Gh.Le (g g' : Gh) : Prop where
  F : ∀ b o, g.F b = some o → g'.F b = some o
  n : g.n ≤ g'.n
  ρ : ∀ k, k < g.n → g'.ρ k = g.ρ k
theorem Gh.Le.refl (g : Gh) : g.Le g := ⟨fun _ _ h => h, Nat.le_refl _, fun _ _ => rfl⟩
theorem Gh.Le.trans {a b c : Gh} (h : a.Le b) (h' : b.Le c) : a.Le c :=
  ⟨fun _ _ e => h'.F _ _ (h.F _ _ e), Nat.le_trans h.n h'.n, fun k hk => (h'.ρ k (Nat.lt_of_lt_of_le hk h.n)).trans (h.ρ k hk)⟩

/-- a tuple without a dict of its own -/
def SqZ (K : PySem.W.Frag) (F : Hp) (a : Addr) (xs : List V) : Prop := (∃ o : Obj, F a = some (.frz o (.tup xs)) ∧ o.dict = none) ∨
  ∃ (o : Obj) (its : Array Value) (n : Nat), K.lookup a = some o ∧ o.cls = .type "tuple" ∧ o.dict = none ∧ o.data = .seq its n ∧ its.size ≤ sizeLine ∧ Vals xs its.toList
theorem SqZ.sq {K : PySem.W.Frag} {F : Hp} {a : Addr} {xs : List V} (h : SqZ K F a xs) : SqT K F a xs := by
  rcases h with ⟨o, h, _⟩ | ⟨o, its, n, h1, h2, _, h3⟩
  · exact .inl (.inr ⟨o, h⟩)
  · exact .inr ⟨o, its, n, h1, h2, h3⟩
theorem sqZ_mono {K : PySem.W.Frag} {H H' : Hp} {a : Addr} {xs : List V} (e : ∀ b o, H b = some o → H' b = some o) (h : SqZ K H a xs) : SqZ K H' a xs := by
  rcases h with ⟨o, h, d⟩ | h
  · exact .inl ⟨o, e _ _ h, d⟩
  · exact .inr h
/-- at a: an error of the class at C, its dict at dx -/
def exK (a C dx : Addr) : HO := .ext fun h => ∃ (o : Obj) (vs : Array Value), h.get? a = some o ∧ o.cls = .ref C ∧ o.dict = some dx ∧ o.data = .fields vs
mutual
inductive R (W : Wd) (g : Gh) : Dat → V → Prop
  | non : R W g .non .non
  | bl (b : Bool) : R W g (.bl b) (.bl b)
  | int (i : Int) : R W g (.int i) (.int i)
  | str (x : Str) : R W g (.str x) (.str x)
  | tup {a : Addr} {xs : List V} {ds : List Dat} : SqZ W.K g.F a xs → Rs W g ds xs → R W g (.tup ds) (.ref a)
  | tpl {a : Addr} {xs : List V} {ds : List Dat} : SqT W.K g.F a xs → Rs W g ds xs → R W g (.tpl ds) (.ref a)
  | lst {a : Addr} {xs : List V} {ds : List Dat} : g.F a = some (.lst xs) → Rs W g ds xs → R W g (.lst ds) (.ref a)
  | dct {a : Addr} {xs : List (Key × V)} {ds : List (Key × Dat)} : g.F a = some (.dK xs) → Rk W g ds xs → R W g (.dct ds) (.ref a)
  | obj {a dx : Addr} {c : Nat} {fs : List (Str × V)} {ds : List (Str × Dat)} : g.F a = some (.ins (W.ca c) dx fs) → Rf W g ds fs → R W g (.obj c ds) (.ref a)
  | ref {n : Nat} : n < g.n → R W g (.ref n) (.ref (g.ρ n))
  | fn (f : Nat) : R W g (.fn f) (.ref (W.fa f))
  | cls (c : Nat) : R W g (.cls c) (.ref (W.ca c))
  | ty (n : String) : R W g (.ty n) (.ty n)
  | scr {a : Addr} {xs : List V} {ds : List Dat} : SqL W.K g.F a xs → Rs W g ds xs → R W g (.scr ds) (.ref a)
  | err {a dx : Addr} {c : Nat} {fs : List (Str × V)} {ds : List (Str × Dat)} : g.F a = some (exK a (W.ca c) dx) → g.F dx = some (.xd fs) → Rf W g ds fs → R W g (.err c ds) (.ref a)
inductive Rs (W : Wd) (g : Gh) : List Dat → List V → Prop
  | nil : Rs W g [] []
  | cons {d : Dat} {v : V} {ds : List Dat} {vs : List V} : R W g d v → Rs W g ds vs → Rs W g (d :: ds) (v :: vs)
inductive Rk (W : Wd) (g : Gh) : List (Key × Dat) → List (Key × V) → Prop
  | nil : Rk W g [] []
  | cons {k : Key} {d : Dat} {v : V} {ds : List (Key × Dat)} {vs : List (Key × V)} : R W g d v → Rk W g ds vs → Rk W g ((k, d) :: ds) ((k, v) :: vs)
inductive Rf (W : Wd) (g : Gh) : List (Str × Dat) → List (Str × V) → Prop
  | nil : Rf W g [] []
  | cons {k : Str} {d : Dat} {v : V} {ds : List (Str × Dat)} {vs : List (Str × V)} : R W g d v → Rf W g ds vs → Rf W g ((k, d) :: ds) ((k, v) :: vs)
end
theorem sqT_mono {K : PySem.W.Frag} {H H' : Hp} {a : Addr} {xs : List V} (e : ∀ b o, H b = some o → H' b = some o) (h : SqT K H a xs) : SqT K H' a xs := by
  rcases h with (h | ⟨o, h⟩) | h
  · exact .inl (.inl (e _ _ h))
  · exact .inl (.inr ⟨o, e _ _ h⟩)
  · exact .inr h
theorem sqL_mono {K : PySem.W.Frag} {H H' : Hp} {a : Addr} {xs : List V} (e : ∀ b o, H b = some o → H' b = some o) (h : SqL K H a xs) : SqL K H' a xs := by
  rcases h with (h | ⟨o, h⟩) | h
  · exact .inl (.inl (e _ _ h))
  · exact .inl (.inr ⟨o, e _ _ h⟩)
  · exact .inr h
section
variable {W : Wd} {g g' : Gh} (l : g.Le g')
include l
mutual
theorem R.mono : ∀ {d : Dat} {v : V}, R W g d v → R W g' d v
  | _, _, .non => .non
  | _, _, .bl b => .bl b
  | _, _, .int i => .int i
  | _, _, .str x => .str x
  | _, _, .tup h r => .tup (sqZ_mono l.F h) (Rs.mono r)
  | _, _, .tpl h r => .tpl (sqT_mono l.F h) (Rs.mono r)
  | _, _, .lst h r => .lst (l.F _ _ h) (Rs.mono r)
  | _, _, .dct h r => .dct (l.F _ _ h) (Rk.mono r)
  | _, _, .obj h r => .obj (l.F _ _ h) (Rf.mono r)
  | _, _, .ref h => by
    rw [← l.ρ _ h]
    exact .ref (Nat.lt_of_lt_of_le h l.n)
  | _, _, .fn f => .fn f
  | _, _, .cls c => .cls c
  | _, _, .ty n => .ty n
  | _, _, .scr h r => .scr (sqL_mono l.F h) (Rs.mono r)
  | _, _, .err h1 h2 r => .err (l.F _ _ h1) (l.F _ _ h2) (Rf.mono r)
theorem Rs.mono : ∀ {ds : List Dat} {vs : List V}, Rs W g ds vs → Rs W g' ds vs
  | _, _, .nil => .nil
  | _, _, .cons r t => .cons (R.mono r) (Rs.mono t)
theorem Rk.mono : ∀ {ds : List (Key × Dat)} {vs : List (Key × V)}, Rk W g ds vs → Rk W g' ds vs
  | _, _, .nil => .nil
  | _, _, .cons r t => .cons (R.mono r) (Rk.mono t)
theorem Rf.mono : ∀ {ds : List (Str × Dat)} {vs : List (Str × V)}, Rf W g ds vs → Rf W g' ds vs
  | _, _, .nil => .nil
  | _, _, .cons r t => .cons (R.mono r) (Rf.mono t)
end
end
section
variable {W : Wd} {g : Gh}
theorem Rs.length : ∀ {ds : List Dat} {vs : List V}, Rs W g ds vs → ds.length = vs.length
  | _, _, .nil => rfl
  | _, _, .cons _ t => congrArg Nat.succ (Rs.length t)
theorem Rk.length : ∀ {ds : List (Key × Dat)} {vs : List (Key × V)}, Rk W g ds vs → ds.length = vs.length
  | _, _, .nil => rfl
  | _, _, .cons _ t => congrArg Nat.succ (Rk.length t)
theorem Rf.length : ∀ {ds : List (Str × Dat)} {vs : List (Str × V)}, Rf W g ds vs → ds.length = vs.length
  | _, _, .nil => rfl
  | _, _, .cons _ t => congrArg Nat.succ (Rf.length t)
theorem Rs.get : ∀ {ds : List Dat} {vs : List V} {i : Nat} {d : Dat}, Rs W g ds vs → ds[i]? = some d → ∃ v, vs[i]? = some v ∧ R W g d v
  | _, _, _, _, .nil, e => by simp at e
  | _, _, 0, _, .cons r _, e => by simp at e; subst e; exact ⟨_, rfl, r⟩
  | _, _, i + 1, d, .cons _ t, e => by
    obtain ⟨v, h1, h2⟩ := Rs.get (i := i) (d := d) t (by simpa using e)
    exact ⟨v, by simpa using h1, h2⟩
theorem Rs.getV : ∀ {ds : List Dat} {vs : List V} {i : Nat} {v : V}, Rs W g ds vs → vs[i]? = some v → ∃ d, ds[i]? = some d ∧ R W g d v
  | _, _, _, _, .nil, e => by simp at e
  | _, _, 0, _, .cons r _, e => by simp at e; subst e; exact ⟨_, rfl, r⟩
  | _, _, i + 1, d, .cons _ t, e => by
    obtain ⟨v, h1, h2⟩ := Rs.getV (i := i) (v := d) t (by simpa using e)
    exact ⟨v, by simpa using h1, h2⟩
theorem Rs.append : ∀ {ds es : List Dat} {vs us : List V}, Rs W g ds vs → Rs W g es us → Rs W g (ds ++ es) (vs ++ us)
  | _, _, _, _, .nil, s => s
  | _, _, _, _, .cons r t, s => .cons r (Rs.append t s)
theorem Rs.take : ∀ {ds : List Dat} {vs : List V} (n : Nat), Rs W g ds vs → Rs W g (ds.take n) (vs.take n)
  | _, _, 0, _ => .nil
  | _, _, _ + 1, .nil => .nil
  | _, _, n + 1, .cons r t => .cons r (Rs.take n t)
theorem Rs.drop : ∀ {ds : List Dat} {vs : List V} (n : Nat), Rs W g ds vs → Rs W g (ds.drop n) (vs.drop n)
  | _, _, 0, r => r
  | _, _, _ + 1, .nil => .nil
  | _, _, n + 1, .cons _ t => Rs.drop n t
theorem Rs.set {d : Dat} {v : V} (r : R W g d v) : ∀ {ds : List Dat} {vs : List V} (i : Nat), Rs W g ds vs → Rs W g (ds.set i d) (vs.set i v)
  | _, _, _, .nil => .nil
  | _, _, 0, .cons _ t => .cons r t
  | _, _, i + 1, .cons q t => .cons q (Rs.set r i t)
theorem Rs.reverse : ∀ {ds : List Dat} {vs : List V}, Rs W g ds vs → Rs W g ds.reverse vs.reverse
  | _, _, .nil => .nil
  | _, _, .cons r t => by
    rw [List.reverse_cons, List.reverse_cons]
    exact (Rs.reverse t).append (.cons r .nil)
theorem Rs.rep {ds : List Dat} {vs : List V} (h : Rs W g ds vs) : ∀ k : Nat, Rs W g (List.replicate k ds).flatten (List.replicate k vs).flatten
  | 0 => .nil
  | k + 1 => h.append (Rs.rep h k)
theorem Rs.dropLast {ds : List Dat} {vs : List V} (h : Rs W g ds vs) : Rs W g ds.dropLast vs.dropLast := by
  rw [List.dropLast_eq_take, List.dropLast_eq_take, h.length]
  exact h.take _
theorem Rs.eraseIdx : ∀ {ds : List Dat} {vs : List V} (i : Nat), Rs W g ds vs → Rs W g (ds.eraseIdx i) (vs.eraseIdx i)
  | _, _, _, .nil => .nil
  | _, _, 0, .cons _ t => t
  | _, _, i + 1, .cons q t => .cons q (Rs.eraseIdx i t)
theorem Rf.lookup : ∀ {ds : List (Str × Dat)} {vs : List (Str × V)} {f : Str} {d : Dat}, Rf W g ds vs → ds.lookup f = some d → ∃ v, vs.lookup f = some v ∧ R W g d v
  | _, _, _, _, .nil, e => by simp at e
  | _, _, f, d, .cons (k := k) r t, e => by
    rw [List.lookup_cons] at e ⊢
    by_cases h : (f == k) = true
    · rw [h] at e ⊢
      cases e
      exact ⟨_, rfl, r⟩
    · rw [Bool.not_eq_true] at h
      rw [h] at e ⊢
      exact Rf.lookup t e
theorem Rf.none : ∀ {ds : List (Str × Dat)} {vs : List (Str × V)} {f : Str}, Rf W g ds vs → ds.lookup f = Option.none → vs.lookup f = Option.none
  | _, _, _, .nil, _ => rfl
  | _, _, f, .cons (k := k) r t, e => by
    rw [List.lookup_cons] at e ⊢
    by_cases h : (f == k) = true
    · rw [h] at e
      cases e
    · rw [Bool.not_eq_true] at h
      rw [h] at e ⊢
      exact Rf.none t e
/-- a field is put -/
def putFd (f : Str) (v : Dat) : List (Str × Dat) → List (Str × Dat)
  | [] => [(f, v)]
  | p :: r => if p.1 = f then (f, v) :: r else p :: putFd f v r
end
end En
set_option maxHeartbeats 4000000
/-! Et0: tuples that are made have no dict of their own: what makes one, told so. -/
namespace En
open PySem PySem.Spec PyProof.Rows L2
/-- a new tuple, known to be plain -/
def NewZ (xs : List V) (H : Hp) (Q : VK) : Prop := ∀ (p : Addr) (o : Obj), H p = none → o.dict = none → Q (.ref p) (upd H p (.frz o (.tup xs)))
section
variable {X : Cx} {pins : List (Addr × Obj)} {σ : L2.St} {H : Hp} {s : Shared}
theorem laidZ {xs : List V} {us : List Value} {Q : VK} (I : L2.Inv X pins σ H s) (hz : xs.length ≤ sizeLine) (r : Vals xs us) (q : NewZ xs H Q) :
    EP X pins σ Q (.ref s.heap.objs.size) { s with heap := s.heap.push { cls := .type "tuple", data := .seq us.toArray } } := by
  have hn : H s.heap.objs.size = none := I.hok.fresh (Nat.le_refl _)
  refine ⟨.ref s.heap.objs.size, _, I.laid (t' := s.toks) (o := .frz { cls := .type "tuple", data := .seq us.toArray } (.tup xs)) (fun b ob e => Heap.get?_push_of_some _ e) (Nat.le_refl _) ?_, rfl, q _ _ hn rfl⟩
  exact ⟨Heap.get?_push_size _ rfl, hz, us, r, IsTup.new _ _⟩
theorem pe_tupZ {es : List Expr} {t : TA} {x1 : Nat} {pos : Pos} (h : PA X es t) : PE X (.Tuple es x1 pos) (fun σ H Q => t σ H fun vs H1 => vs.length ≤ sizeLine ∧ NewZ vs H1 Q) := ⟨fun pins s σ H Q I hq =>
  wpAny_Tuple_spliced (thn (h.run pos pins s σ H _ I hq) fun us s1 ⟨xs, H1, I1, r, z, q⟩ => ⟨by rw [← r.length]; exact z, laidZ I1 z r q⟩)⟩
/-- t + u -/
def rCatZ (K : PySem.W.Frag) : R2 := fun x y H Q => ∃ a b xs ys, x = .ref a ∧ y = .ref b ∧ SqT K H a xs ∧ SqT K H b ys ∧ xs.length + ys.length ≤ sizeLine ∧
  (xs = [] → Q (.ref b) H) ∧ (xs ≠ [] → ys = [] → Q (.ref a) H) ∧ (xs ≠ [] → ys ≠ [] → NewZ (xs ++ ys) H Q)
theorem op_catZ : OpR X (binaryOp .Add) (rCatZ X.K) := by
  rintro pins s σ H x y v u Q I rx ry ⟨a, b, xs, ys, rfl, rfl, ta, tb, le, c0, c1, c2⟩
  cases rx
  cases ry
  obtain ⟨is, ra, pa, _⟩ := I.tuple ta
  obtain ⟨js, rb, pb, _⟩ := I.tuple tb
  cases xs with
  | nil =>
    cases ra
    exact cat_tup0 pa pb ⟨.ref b, H, I, rfl, c0 rfl⟩
  | cons x0 xr =>
    have nx : x0 :: xr ≠ [] := by intro z; cases z
    refine HT.cat_tup pa pb (fun z => nx (ra.nil_iff.mp z)) (fun z => ⟨.ref a, H, I, rfl, c1 nx (rb.nil_iff.mp z)⟩) (fun z => laidZ I (by rw [List.length_append]; exact le) (ra.append rb) (c2 nx fun e => z (rb.nil_iff.mpr e))) (by rw [← ra.length, ← rb.length]; exact le)
/-- t[lo:hi] -/
def rSlZ (K : PySem.W.Frag) : V → Option Int → Option Int → Hp → VK → Prop := fun x lo hi H Q => ∃ a xs, x = .ref a ∧ SqT K H a xs ∧
  (HT.sIx xs.length 0 lo = 0 ∧ HT.sIx xs.length xs.length hi = xs.length → Q (.ref a) H) ∧ (¬ (HT.sIx xs.length 0 lo = 0 ∧ HT.sIx xs.length xs.length hi = xs.length) → NewZ (cutV xs lo hi) H Q)
theorem sl_tupZ : SlR X (rSlZ X.K) := by
  rintro pins s σ H x v vl vu lo hi sl Q I rx hs pl pu ⟨a, xs, rfl, ta, c1, c2⟩
  cases rx
  obtain ⟨is, ra, pa, le⟩ := I.tuple ta
  have en : is.toArray.size = xs.length := by rw [List.size_toArray]; exact ra.length.symm
  refine ⟨"tuple", _, PyProof.Rows.slot_tuple_getitem.lookup, pa.typeIs, ?_⟩
  by_cases hw : HT.sIx xs.length 0 lo = 0 ∧ HT.sIx xs.length xs.length hi = xs.length
  · exact getItem_tuple_whole pa hs pl pu (by rw [en]; exact hw) ⟨.ref a, H, I, rfl, c1 hw⟩
  · refine HT.getItem_tuple_cut pa hs pl pu (by rw [en]; exact hw) ?_ (by rw [en]; exact le)
    rw [en]
    exact laidZ I (Nat.le_trans (cutV_length xs lo hi) le) ((ra.drop (HT.sIx xs.length 0 lo)).take (HT.sIx xs.length xs.length hi - HT.sIx xs.length 0 lo)) (c2 hw)
/-- tuple(l), l a list -/
theorem call_tupleZ : CallR X (.type "tuple") (fun xs H Q => ∃ p ys, xs = [.ref p] ∧ SqL X.K H p ys ∧ NewZ ys H Q) := by
  rintro pins s σ H xs us Q I r ⟨p, ys, rfl, tl, c⟩
  obtain ⟨u, rfl, ru⟩ := vals1 r
  cases ru
  obtain ⟨is, ra, pa, le⟩ := I.list tl
  exact call_tuple_list pa.isList (fun h' kp => laidZ (s := { s with heap := h' }) (I.kept (t' := s.toks) kp) le ra c) (by rw [List.size_toArray, ← ra.length]; exact le)
end
end En
set_option maxHeartbeats 4000000
/-! En1: the relation of a state of ours with the layer's heap and slots, and how it goes on. -/
namespace En
open PySem PySem.Spec PyProof.Rows L2

def RO (W : Wd) (g : Gh) : Mob → HO → Prop
  | .lst ds, .lst vs => Rs W g ds vs
  | .dct ds, .dK vs => Rk W g ds vs
  | .ins c ds, .ins C _ vs => C = W.ca c ∧ Rf W g ds vs
  | _, _ => False
theorem RO.mono {W : Wd} {g g' : Gh} (l : g.Le g') {o : Mob} {ho : HO} (h : RO W g o ho) : RO W g' o ho := by
  cases o <;> cases ho <;> first | exact False.elim h | skip
  · exact Rs.mono l h
  · exact Rk.mono l h
  · exact ⟨h.1, Rf.mono l h.2⟩
/-- the slot's own object -/
def OwnAt (env : List Slt) (i : Nat) : Prop := ∃ o, env[i]? = some (.own o)
structure Rel (W : Wd) (g : Gh) (P : Hp) (s : Stt) (σ : L2.St) (H : Hp) : Prop where
  fz : ∀ b o, g.F b = some o → H b = some o
  pr : ∀ b o, P b = some o → H b = some o ∧ g.F b = none ∧ ∀ k, k < g.n → g.ρ k ≠ b
  len : s.env.length = σ.length
  n : s.sto.length = g.n
  sto : ∀ (k : Nat) (o : Mob), s.sto[k]? = some o → ∃ ho, H (g.ρ k) = some ho ∧ RO W g o ho
  inj : ∀ j k, j < g.n → k < g.n → g.ρ j = g.ρ k → j = k
  stf : ∀ k, k < g.n → g.F (g.ρ k) = none
  slv : ∀ (i : Nat) (d : Dat), s.env[i]? = some (.val d) → ∃ v, σ[i]? = some (some v) ∧ R W g d v
  slo : ∀ (i : Nat) (o : Mob), s.env[i]? = some (.own o) → ∃ a ho, σ[i]? = some (some (.ref a)) ∧ H a = some ho ∧ RO W g o ho ∧ g.F a = none ∧ P a = none ∧ ∀ k, k < g.n → g.ρ k ≠ a
  sld : ∀ (i j : Nat) (a : Addr), OwnAt s.env i → OwnAt s.env j → σ[i]? = some (some (.ref a)) → σ[j]? = some (some (.ref a)) → i = j

/-- a result's value -/
def RvR (W : Wd) (g : Gh) (P : Hp) (s : Stt) (σ : L2.St) (H : Hp) : Rv → V → Prop
  | .val d, v => R W g d v
  | .own o, v => ∃ a ho, v = .ref a ∧ H a = some ho ∧ RO W g o ho ∧ g.F a = none ∧ P a = none ∧ (∀ k, k < g.n → g.ρ k ≠ a) ∧ ∀ (i : Nat), OwnAt s.env i → σ[i]? ≠ some (some (.ref a))
  | .bor i, v => σ[i]? = some (some v)
section
variable {W : Wd} {g : Gh} {P : Hp} {s : Stt} {σ : L2.St} {H : Hp}
/-- less is protected -/
theorem Rel.weak {P' : Hp} (r : Rel W g P s σ H) (h : ∀ b o, P' b = some o → P b = some o) (h0 : ∀ b, P b = none → P' b = none) : Rel W g P' s σ H :=
  ⟨r.fz, fun b o e => r.pr b o (h b o e), r.len, r.n, r.sto, r.inj, r.stf, r.slv, fun i o e => by
    obtain ⟨a, ho, e1, e2, e3, e4, e5, e6⟩ := r.slo i o e
    exact ⟨a, ho, e1, e2, e3, e4, h0 a e5, e6⟩, r.sld⟩
theorem up_le {P : Hp} {a : Addr} {ho : HO} (h : P a = none) : ∀ b o, P b = some o → (upd P a ho) b = some o := fun b o e => by
  rw [upd_ne (ne_of_none e h)]
  exact e
theorem up_none {P : Hp} {a : Addr} {ho : HO} : ∀ b, (upd P a ho) b = none → P b = none := fun b e => by
  by_cases h : b = a
  · rw [h, upd_same] at e
    cases e
  · rw [upd_ne h] at e
    exact e
theorem Rel.unprot {a : Addr} {ho : HO} (h : P a = none) (r : Rel W g (upd P a ho) s σ H) : Rel W g P s σ H := r.weak (up_le h) up_none
/-- an own result is protected -/
theorem Rel.prot {o : Mob} {a : Addr} {ho : HO} (r : Rel W g P s σ H) (hH : H a = some ho) (hF : g.F a = none) (hP : P a = none) (hn : ∀ k, k < g.n → g.ρ k ≠ a) (hs : ∀ (i : Nat), OwnAt s.env i → σ[i]? ≠ some (some (.ref a))) : Rel W g (upd P a ho) s σ H :=
  ⟨r.fz, fun b o e => by
    by_cases hb : b = a
    · rw [hb, upd_same] at e
      rw [hb]
      cases e
      exact ⟨hH, hF, hn⟩
    · rw [upd_ne hb] at e
      exact r.pr b o e, r.len, r.n, r.sto, r.inj, r.stf, r.slv, fun i o e => by
    obtain ⟨b, hb, e1, e2, e3, e4, e5, e6⟩ := r.slo i o e
    refine ⟨b, hb, e1, e2, e3, e4, ?_, e6⟩
    rw [upd_ne]
    · exact e5
    · intro z
      rw [z] at e1
      exact hs i ⟨o, e⟩ e1, r.sld⟩
/-- what is protected of a result -/
def prt (P H : Hp) : Rv → V → Hp
  | .own _, .ref a => (match H a with
    | some ho => upd P a ho
    | none => P)
  | _, _ => P
theorem Rel.prot' {rv : Rv} {v : V} (r : Rel W g P s σ H) (q : RvR W g P s σ H rv v) : Rel W g (prt P H rv v) s σ H := by
  cases rv with
  | val d => exact r
  | bor i => exact r
  | own o =>
    obtain ⟨a, ho, rfl, hH, _, hF, hP, hn, hs⟩ := q
    unfold prt
    simp only [hH]
    exact r.prot (o := o) hH hF hP hn hs
/-- behind another evaluation the protected result is as it was -/
theorem RvR.go {g' : Gh} {s' : Stt} {H' : Hp} {rv : Rv} {v : V} (q : RvR W g P s σ H rv v) (l : g.Le g') (r : Rel W g' (prt P H rv v) s' σ H') : RvR W g' P s' σ H' rv v ∧ Rel W g' P s' σ H' := by
  cases rv with
  | val d => exact ⟨R.mono l q, r⟩
  | bor i => exact ⟨q, r⟩
  | own o =>
    obtain ⟨a, ho, rfl, hH, hR, hF, hP, hn, hs⟩ := q
    unfold prt at r
    simp only [hH] at r
    obtain ⟨h1, h2, h3⟩ := r.pr a ho upd_same
    refine ⟨⟨a, ho, rfl, h1, RO.mono l hR, h2, hP, h3, fun i hi z => ?_⟩, r.unprot hP⟩
    obtain ⟨o', ho'⟩ := hi
    obtain ⟨b, hb, e1, e2, e3, e4, e5, e6⟩ := r.slo i o' ho'
    rw [z] at e1
    cases e1
    rw [upd_same] at e5
    cases e5
/-! new objects -/
theorem Rel.newF {p : Addr} (r : Rel W g P s σ H) (h : H p = none) : g.F p = none ∧ P p = none ∧ (∀ k, k < g.n → g.ρ k ≠ p) ∧ ∀ (i : Nat), OwnAt s.env i → σ[i]? ≠ some (some (.ref p)) := by
  refine ⟨?_, ?_, fun k hk z => ?_, fun i ⟨o, e⟩ z => ?_⟩
  · cases q : g.F p with
    | none => rfl
    | some o =>
      rw [r.fz p o q] at h
      cases h
  · cases q : P p with
    | none => rfl
    | some o =>
      rw [(r.pr p o q).1] at h
      cases h
  · have hk' : k < s.sto.length := by
      rw [r.n]
      exact hk
    obtain ⟨ho, e, _⟩ := r.sto k s.sto[k] (List.getElem?_eq_getElem hk')
    rw [z, h] at e
    cases e
  · obtain ⟨a, ho, e1, e2, _⟩ := r.slo i o e
    rw [z] at e1
    cases e1
    rw [h] at e2
    cases e2
theorem Rel.laid {p : Addr} {ho : HO} (r : Rel W g P s σ H) (h : H p = none) : Rel W g P s σ (upd H p ho) := by
  have up : ∀ b o, H b = some o → (upd H p ho) b = some o := fun b o e => by
    rw [upd_ne (ne_of_none e h)]
    exact e
  refine ⟨fun b o e => up b o (r.fz b o e), fun b o e => ⟨up b o (r.pr b o e).1, (r.pr b o e).2⟩, r.len, r.n, fun k o e => ?_, r.inj, r.stf, r.slv, fun i o e => ?_, r.sld⟩
  · obtain ⟨q, e1, e2⟩ := r.sto k o e
    exact ⟨q, up _ _ e1, e2⟩
  · obtain ⟨a, q, e1, e2, e3⟩ := r.slo i o e
    exact ⟨a, q, e1, up _ _ e2, e3⟩
/-- a new own object -/
theorem Rel.newOwn {p : Addr} {ho : HO} {o : Mob} (r : Rel W g P s σ H) (h : H p = none) (q : RO W g o ho) : Rel W g P s σ (upd H p ho) ∧ RvR W g P s σ (upd H p ho) (.own o) (.ref p) := by
  obtain ⟨h1, h2, h3, h4⟩ := r.newF h
  exact ⟨r.laid h, p, ho, rfl, upd_same, q, h1, h2, h3, h4⟩
/-- the frozen grows -/
def Gh.fz (g : Gh) (p : Addr) (o : HO) : Gh := { g with F := upd g.F p o }
theorem Gh.le_fz {g : Gh} {p : Addr} {o : HO} (h : g.F p = none) : g.Le (g.fz p o) :=
  ⟨fun b u e => by
    show upd g.F p o b = some u
    rw [upd_ne (ne_of_none e h)]
    exact e, Nat.le_refl _, fun _ _ => rfl⟩
/-- an object that nothing of ours holds is frozen -/
theorem Rel.freeze {a : Addr} {ho : HO} (r : Rel W g P s σ H) (hH : H a = some ho) (hF : g.F a = none) (hP : P a = none) (hn : ∀ k, k < g.n → g.ρ k ≠ a) (hs : ∀ (i : Nat), OwnAt s.env i → σ[i]? ≠ some (some (.ref a))) : Rel W (g.fz a ho) P s σ H := by
  have l : g.Le (g.fz a ho) := Gh.le_fz hF
  refine ⟨fun b o e => ?_, fun b o e => ?_, r.len, r.n, fun k o e => ?_, r.inj, fun k hk => ?_, fun i d e => ?_, fun i o e => ?_, r.sld⟩
  · have e' : upd g.F a ho b = some o := e
    by_cases hb : b = a
    · rw [hb, upd_same] at e'
      cases e'
      rw [hb]
      exact hH
    · rw [upd_ne hb] at e'
      exact r.fz b o e'
  · obtain ⟨h1, h2, h3⟩ := r.pr b o e
    refine ⟨h1, ?_, h3⟩
    show upd g.F a ho b = none
    rw [upd_ne (ne_of_none e hP)]
    exact h2
  · obtain ⟨q, e1, e2⟩ := r.sto k o e
    exact ⟨q, e1, RO.mono l e2⟩
  · show upd g.F a ho (g.ρ k) = none
    rw [upd_ne (hn k hk)]
    exact r.stf k hk
  · obtain ⟨v, e1, e2⟩ := r.slv i d e
    exact ⟨v, e1, R.mono l e2⟩
  · obtain ⟨b, q, e1, e2, e3, e4, e5, e6⟩ := r.slo i o e
    refine ⟨b, q, e1, e2, RO.mono l e3, ?_, e5, e6⟩
    show upd g.F a ho b = none
    rw [upd_ne]
    · exact e4
    · intro z
      rw [z] at e1
      exact hs i ⟨o, e⟩ e1
theorem RO.frz {a : Addr} {ho : HO} {o : Mob} (hF : g.F a = none) (q : RO W g o ho) : R W (g.fz a ho) o.dat (.ref a) := by
  have l : g.Le (g.fz a ho) := Gh.le_fz hF
  have e : (g.fz a ho).F a = some ho := upd_same
  cases o <;> cases ho <;> first | exact False.elim q | skip
  · exact .lst e (Rs.mono l q)
  · exact .dct e (Rk.mono l q)
  · obtain ⟨rfl, h2⟩ := q
    exact .obj e (Rf.mono l h2)
/-- a new tuple -/
theorem Rel.newTup {p : Addr} {ds : List Dat} {vs : List V} (r : Rel W g P s σ H) (h : H p = none) (q : Rs W g ds vs) :
    g.Le (g.fz p (.tup vs)) ∧ Rel W (g.fz p (.tup vs)) P s σ (upd H p (.tup vs)) ∧ R W (g.fz p (.tup vs)) (.tpl ds) (.ref p) := by
  obtain ⟨h1, h2, h3, h4⟩ := r.newF h
  have l : g.Le (g.fz p (.tup vs)) := Gh.le_fz h1
  have e : (g.fz p (.tup vs)).F p = some (.tup vs) := upd_same
  exact ⟨l, (r.laid h).freeze upd_same h1 h2 h3 h4, .tpl (.inl (.inl e)) (Rs.mono l q)⟩
theorem Rel.newZ {p : Addr} {o : Obj} {ds : List Dat} {vs : List V} (r : Rel W g P s σ H) (h : H p = none) (hd : o.dict = none) (q : Rs W g ds vs) :
    g.Le (g.fz p (.frz o (.tup vs))) ∧ Rel W (g.fz p (.frz o (.tup vs))) P s σ (upd H p (.frz o (.tup vs))) ∧ R W (g.fz p (.frz o (.tup vs))) (.tup ds) (.ref p) := by
  obtain ⟨h1, h2, h3, h4⟩ := r.newF h
  have l : g.Le (g.fz p (.frz o (.tup vs))) := Gh.le_fz h1
  have e : (g.fz p (.frz o (.tup vs))).F p = some (.frz o (.tup vs)) := upd_same
  exact ⟨l, (r.laid h).freeze upd_same h1 h2 h3 h4, .tup (.inl ⟨o, e, hd⟩) (Rs.mono l q)⟩

/-! an own slot becomes data -/
theorem getE_set {α : Type} {l : List α} {i j : Nat} {x y : α} (h : (l.set i x)[j]? = some y) : (i = j ∧ y = x) ∨ (i ≠ j ∧ l[j]? = some y) := by
  by_cases e : i = j
  · subst e
    by_cases hl : i < l.length
    · rw [List.getElem?_set_self hl] at h
      cases h
      exact .inl ⟨rfl, rfl⟩
    · rw [List.getElem?_eq_none (by simpa using hl)] at h
      cases h
  · rw [List.getElem?_set_ne e] at h
    exact .inr ⟨e, h⟩
theorem Rel.slotVal {i : Nat} {d : Dat} {v : V} (r : Rel W g P s σ H) (hv : σ[i]? = some (some v)) (q : R W g d v) : Rel W g P { s with env := s.env.set i (.val d) } σ H := by
  have ow : ∀ {j : Nat} {o : Mob}, (s.env.set i (.val d))[j]? = some (.own o) → s.env[j]? = some (.own o) := fun {j o} e => by
    rcases getE_set e with ⟨_, e2⟩ | ⟨_, e2⟩
    · cases e2
    · exact e2
  refine ⟨r.fz, r.pr, by simpa using r.len, r.n, r.sto, r.inj, r.stf, fun j d' e => ?_, fun j o e => r.slo j o (ow e), fun j k a ⟨o, e⟩ ⟨o', e'⟩ => r.sld j k a ⟨o, ow e⟩ ⟨o', ow e'⟩⟩
  rcases getE_set e with ⟨e1, e2⟩ | ⟨_, e2⟩
  · cases e2
    rw [← e1]
    exact ⟨v, hv, q⟩
  · exact r.slv j d' e2
/-- a slot is forgotten -/
theorem Rel.slotNo {i : Nat} (r : Rel W g P s σ H) : Rel W g P { s with env := s.env.set i .no } σ H := by
  have ow : ∀ {j : Nat} {x : Slt}, (s.env.set i .no)[j]? = some x → x ≠ .no → s.env[j]? = some x := fun {j x} e h => by
    rcases getE_set e with ⟨_, e2⟩ | ⟨_, e2⟩
    · exact absurd e2 h
    · exact e2
  exact ⟨r.fz, r.pr, by simpa using r.len, r.n, r.sto, r.inj, r.stf, fun j d' e => r.slv j d' (ow e (fun z => nomatch z)), fun j o e => r.slo j o (ow e (fun z => nomatch z)), fun j k a ⟨o, e⟩ ⟨o', e'⟩ => r.sld j k a ⟨o, ow e (fun z => nomatch z)⟩ ⟨o', ow e' (fun z => nomatch z)⟩⟩

/-! data of a result -/
def toVal (rv : Rv) : Ac Dat := fun s => match rv with
  | .val d => .ok d s
  | .own o => .ok o.dat s
  | .bor i => match s.env[i]? with
    | some (.own o) => .ok o.dat { s with env := s.env.set i (.val o.dat) }
    | some (.val d) => .ok d s
    | _ => .stuck
theorem toVal_ok {rv : Rv} {v : V} {d : Dat} {s' : Stt} (r : Rel W g P s σ H) (q : RvR W g P s σ H rv v) (e : toVal rv s = .ok d s') : ∃ g', g.Le g' ∧ Rel W g' P s' σ H ∧ R W g' d v := by
  cases rv with
  | val d' =>
    cases e
    exact ⟨g, .refl g, r, q⟩
  | own o =>
    cases e
    obtain ⟨a, ho, rfl, hH, hR, hF, hP, hn, hs⟩ := q
    exact ⟨_, Gh.le_fz hF, r.freeze hH hF hP hn hs, hR.frz hF⟩
  | bor i =>
    have q' : σ[i]? = some (some v) := q
    unfold toVal at e
    cases h : s.env[i]? with
    | none =>
      simp only [h] at e
      cases e
    | some x =>
      cases x with
      | no =>
        simp only [h] at e
        cases e
      | val d' =>
        simp only [h] at e
        cases e
        obtain ⟨v', e1, e2⟩ := r.slv i d h
        rw [q'] at e1
        cases e1
        exact ⟨g, .refl g, r, e2⟩
      | own o =>
        simp only [h] at e
        cases e
        obtain ⟨a, ho, e1, e2, e3, e4, e5, e6⟩ := r.slo i o h
        rw [q'] at e1
        cases e1
        have r1 : Rel W g P { s with env := s.env.set i .no } σ H := r.slotNo
        have r2 := r1.freeze e2 e4 e5 e6 fun j ⟨o', ho'⟩ z => by
          rcases getE_set ho' with ⟨_, z2⟩ | ⟨z1, z2⟩
          · cases z2
          · exact z1 (r.sld i j a ⟨o, h⟩ ⟨o', z2⟩ q' z)
        refine ⟨_, Gh.le_fz e4, ?_, e3.frz e4⟩
        have r3 := r2.slotVal (i := i) q' (e3.frz e4)
        simpa using r3
theorem toVal_ne {rv : Rv} {s s' : Stt} {x : Dat} : toVal rv s ≠ .exc x s' := by
  unfold toVal
  intro e
  split at e
  · cases e
  · cases e
  · split at e <;> cases e

/-! looking at a result -/
inductive Vw where
  | dt (d : Dat) | mb (o : Mob)
def Vw.of (s : Stt) : Dat → Option Vw
  | .ref n => (s.sto[n]?).map .mb
  | d => some (.dt d)
def look (s : Stt) : Rv → Option Vw
  | .val d => Vw.of s d
  | .own o => some (.mb o)
  | .bor i => match s.env[i]? with
    | some (.own o) => some (.mb o)
    | some (.val d) => Vw.of s d
    | _ => none
/-- what a look says of the value -/
def VwR (W : Wd) (g : Gh) (H : Hp) : Vw → V → Prop
  | .dt d, v => R W g d v
  | .mb o, v => ∃ a ho, v = .ref a ∧ H a = some ho ∧ RO W g o ho
theorem Vw.of_ok {d : Dat} {v : V} {w : Vw} (r : Rel W g P s σ H) (q : R W g d v) (e : Vw.of s d = some w) : VwR W g H w v := by
  cases d with
  | ref n =>
    cases q with
    | ref hn =>
      have e' : (s.sto[n]?).map Vw.mb = some w := e
      cases h : s.sto[n]? with
      | none =>
        rw [h] at e'
        cases e'
      | some o =>
        rw [h] at e'
        cases e'
        obtain ⟨ho, e1, e2⟩ := r.sto n o h
        exact ⟨_, ho, rfl, e1, e2⟩
  | _ =>
    cases e
    exact q
theorem look_ok {rv : Rv} {v : V} {w : Vw} (r : Rel W g P s σ H) (q : RvR W g P s σ H rv v) (e : look s rv = some w) : VwR W g H w v := by
  cases rv with
  | val d => exact Vw.of_ok r q e
  | own o =>
    cases e
    obtain ⟨a, ho, rfl, hH, hR, _⟩ := q
    exact ⟨a, ho, rfl, hH, hR⟩
  | bor i =>
    have q' : σ[i]? = some (some v) := q
    unfold look at e
    cases h : s.env[i]? with
    | none =>
      simp only [h] at e
      cases e
    | some x =>
      cases x with
      | no =>
        simp only [h] at e
        cases e
      | val d =>
        simp only [h] at e
        obtain ⟨v', e1, e2⟩ := r.slv i d h
        rw [q'] at e1
        cases e1
        exact Vw.of_ok r e2 e
      | own o =>
        simp only [h] at e
        cases e
        obtain ⟨a, ho, e1, e2, e3, _⟩ := r.slo i o h
        rw [q'] at e1
        cases e1
        exact ⟨a, ho, rfl, e2, e3⟩
/-- what lists are read of -/
def Vw.lst : Vw → Option (List Dat)
  | .dt (.lst xs) => some xs
  | .mb (.lst xs) => some xs
  | _ => none
def Vw.tup : Vw → Option (List Dat)
  | .dt (.tup xs) => some xs
  | _ => none
/-- what a tuple of names is filled from -/
def Vw.unp : Vw → Option (List Dat)
  | .dt (.tup xs) => some xs
  | .dt (.tpl xs) => some xs
  | _ => none
def Vw.dct : Vw → Option (List (Key × Dat))
  | .dt (.dct xs) => some xs
  | .mb (.dct xs) => some xs
  | _ => none
theorem VwR.lst {w : Vw} {v : V} {xs : List Dat} (r : Rel W g P s σ H) (q : VwR W g H w v) (e : w.lst = some xs) : ∃ a vs, v = .ref a ∧ H a = some (.lst vs) ∧ Rs W g xs vs := by
  cases w with
  | dt d =>
    cases d <;> first | cases e | skip
    cases q with
    | lst h1 h2 => exact ⟨_, _, rfl, r.fz _ _ h1, h2⟩
  | mb o =>
    cases o <;> first | cases e | skip
    obtain ⟨a, ho, rfl, h1, h2⟩ := q
    cases ho <;> first | exact False.elim h2 | skip
    exact ⟨a, _, rfl, h1, h2⟩
theorem VwR.dct {w : Vw} {v : V} {xs : List (Key × Dat)} (r : Rel W g P s σ H) (q : VwR W g H w v) (e : w.dct = some xs) : ∃ a vs, v = .ref a ∧ H a = some (.dK vs) ∧ Rk W g xs vs := by
  cases w with
  | dt d =>
    cases d <;> first | cases e | skip
    cases q with
    | dct h1 h2 => exact ⟨_, _, rfl, r.fz _ _ h1, h2⟩
  | mb o =>
    cases o <;> first | cases e | skip
    obtain ⟨a, ho, rfl, h1, h2⟩ := q
    cases ho <;> first | exact False.elim h2 | skip
    exact ⟨a, _, rfl, h1, h2⟩
theorem R.tupH {v : V} {xs : List Dat} (r : Rel W g P s σ H) (q : R W g (.tup xs) v) : ∃ a vs, v = .ref a ∧ SqT W.K H a vs ∧ Rs W g xs vs := by
  cases q with
  | tup h1 h2 => exact ⟨_, _, rfl, sqT_mono r.fz h1.sq, h2⟩
theorem VwR.tup {w : Vw} {v : V} {xs : List Dat} (r : Rel W g P s σ H) (q : VwR W g H w v) (e : w.tup = some xs) : ∃ a vs, v = .ref a ∧ SqT W.K H a vs ∧ Rs W g xs vs := by
  cases w with
  | dt d =>
    cases d <;> first | cases e | skip
    exact R.tupH r q
  | mb o => cases o <;> cases e
theorem VwR.unp {w : Vw} {v : V} {xs : List Dat} (r : Rel W g P s σ H) (q : VwR W g H w v) (e : w.unp = some xs) : ∃ a vs, v = .ref a ∧ SqT W.K H a vs ∧ Rs W g xs vs := by
  cases w with
  | dt d =>
    cases d <;> first | cases e | skip
    · exact R.tupH r q
    · cases q with
      | tpl h1 h2 => exact ⟨_, _, rfl, sqT_mono r.fz h1, h2⟩
  | mb o => cases o <;> cases e
end
end En
set_option maxHeartbeats 4000000
/-! En2: the small language, what it does. -/
namespace En
open PySem PySem.Spec PyProof.Rows L2

inductive BOp where
  | add | sub | mul | fdiv | mod | pow
  deriving DecidableEq
inductive COp where
  | eq | ne | lt | le | gt | ge | isin | notin | is | isnot
  deriving DecidableEq
/-- methods of built-in types -/
inductive Mt where
  | append | pop | extend | upper | split | join | get | replace | update
  deriving DecidableEq
/-- built-in functions and classes that are called -/
inductive Bi where
  | len | tuple | list | str | int | repr | all | any | isi | max | min | sum
  deriving DecidableEq
inductive Flw where
  | nx | rt (r : Rv) | bk | ct

/-- what isinstance says of classes -/
structure Tab where
  isaC : Nat → Nat → Option Bool
  isaT : Nat → String → Option Bool
  isaN : String → Nat → Option Bool
  /- of errors -/
  isaX : Nat → Nat → Option Bool
  isaXT : Nat → String → Option Bool
inductive Cou where
  | ok (r : Rv) (sto : List Mob) | exc (x : Dat) (sto : List Mob) | stuck

/-! ### operations -/
def Ac.guard (b : Bool) : Ac Unit := if b then Ac.ret () else Ac.stk
/- == -/
mutual
def eqD : Dat → Dat → Option Bool
  | .non, d => (match d with | .non => some true | .bl _ => some false | .int _ => some false | .str _ => some false | .tup _ => some false | .lst _ => some false | _ => none)
  | .bl a, d => (match d with | .bl b => some (a == b) | .int j => some ((if a then 1 else 0) == j) | .non => some false | .str _ => some false | .tup _ => some false | .lst _ => some false | _ => none)
  | .int i, d => (match d with | .int j => some (i == j) | .bl b => some (i == (if b then 1 else 0)) | .non => some false | .str _ => some false | .tup _ => some false | .lst _ => some false | _ => none)
  | .str x, d => (match d with | .str y => some (x == y) | .non => some false | .bl _ => some false | .int _ => some false | .tup _ => some false | .lst _ => some false | _ => none)
  | .tup xs, d => (match d with | .tup ys => eqL xs ys | .non => some false | .bl _ => some false | .int _ => some false | .str _ => some false | .lst _ => some false | _ => none)
  | .lst xs, d => (match d with | .lst ys => (if xs.length = ys.length then eqL xs ys else some false) | .non => some false | .bl _ => some false | .int _ => some false | .str _ => some false | .tup _ => some false | _ => none)
  | _, _ => none
def eqL : List Dat → List Dat → Option Bool
  | [], [] => some true
  | [], _ :: _ => some false
  | _ :: _, [] => some false
  | x :: xs, y :: ys => match eqD x y, eqL xs ys with
    | some a, some b => some (a && b)
    | _, _ => none
end
/- how deep -/
mutual
def depD : Dat → Nat
  | .tup xs => depL xs + 1
  | .lst xs => depL xs + 1
  | _ => 0
def depL : List Dat → Nat
  | [] => 0
  | x :: xs => max (depD x) (depL xs)
end
def Vw.dat : Vw → Option Dat
  | .dt d => some d
  | .mb (.lst xs) => some (.lst xs)
  | _ => none
def Vw.eq (w w' : Vw) : Option Bool := match w.dat, w'.dat with
  | some d, some e => if depD d ≤ 60 then eqD d e else none
  | _, _ => none
def Vw.seq (w : Vw) : Option (List Dat) := match w.lst with
  | some xs => some xs
  | none => w.tup
/-- x in (items) -/
def inL (x : Dat) : List Dat → Option Bool
  | [] => some false
  | y :: r => match eqD y x, inL x r with
    | some a, some b => some (a || b)
    | _, _ => none
def kyD : Dat → Option Key
  | .int i => some (.inl i)
  | .str x => some (.inr x)
  | _ => none
def keyD : Key → Dat
  | .inl i => .int i
  | .inr x => .str x
def getK (kvs : List (Key × Dat)) (k : Key) : Option Dat := (kvs.find? fun kv => decide (kv.1 = k)).map (·.2)
def putD (kvs : List (Key × Dat)) (k : Key) (v : Dat) : List (Key × Dat) :=
  if (kvs.any fun kv => decide (kv.1 = k)) then kvs.map fun kv => if kv.1 = k then (kv.1, v) else kv else kvs ++ [(k, v)]
def Vw.isin (w x : Vw) : Option Bool := match w.seq, x with
  | some xs, .dt d => if depL xs ≤ 60 then inL d xs else none
  | none, .dt (.str c) => (match w with
    | .dt (.str z) => (match c.cps.toList with
      | [k] => some (decide (k ∈ z.cps.toList))
      | _ => none)
    | _ => (match w.dct with
      | some kvs => some (getK kvs (.inr c)).isSome
      | none => none))
  | none, .dt (.int i) => (match w.dct with
      | some kvs => some (getK kvs (.inl i)).isSome
      | none => none)
  | _, _ => none
def Vw.truth : Vw → Option Bool
  | .dt .non => some false
  | .dt (.bl b) => some b
  | .dt (.int i) => some (i != 0)
  | .dt (.str x) => if x.length ≤ sizeLine then some ((x.length : Int) != 0) else none
  | w => match w.seq with
    | some xs => some (!xs.isEmpty)
    | none => match w.dct with
      | some kvs => some (!kvs.isEmpty)
      | none => none
def Vw.len : Vw → Option Nat
  | .dt (.str x) => if x.length ≤ sizeLine then some x.length else none
  | w => match w.seq with
    | some xs => some xs.length
    | none => match w.dct with
      | some kvs => some kvs.length
      | none => none
def mulOk (i j : Int) : Bool := (decide (-(2 ^ 64) < i) && decide (i < 2 ^ 64)) || (decide (-(2 ^ 64) < j) && decide (j < 2 ^ 64))
def binI : BOp → Int → Int → Option Int
  | .add, i, j => some (i + j)
  | .sub, i, j => some (i - j)
  | .mul, i, j => if mulOk i j then some (i * j) else none
  | .fdiv, i, j => if 0 < j ∧ j < 1073741824 then some (i / j) else none
  | .mod, i, j => if 0 < j then some (i % j) else none
  | .pow, i, j => if 0 ≤ j ∧ j ≤ 1000000 ∧ i.natAbs < 2 ^ 64 then some (i ^ j.toNat) else none
def repOk (n : Nat) (k : Int) : Bool := decide (-(2 ^ 63) ≤ k) && (decide (k < 2 ^ 63) && decide (n * k.toNat ≤ sizeLine))
def Vw.bin (op : BOp) (w w' : Vw) : Option Rv := match op, w, w' with
  | op, .dt (.int i), .dt (.int j) => (binI op i j).map fun k => .val (.int k)
  | .add, .dt (.str a), .dt (.str b) => if a.length + b.length ≤ sizeLine then some (.val (.str (a ++ b))) else none
  | .add, .dt (.tup a), .dt (.tup b) => if a.length + b.length ≤ sizeLine then some (.val (.tup (a ++ b))) else none
  | .add, .dt (.scr a), .mb (.lst b) => if a.length + b.length ≤ sizeLine then some (.own (.lst (a ++ b))) else none
  | .add, w, w' => (match w.lst, w'.lst with
    | some a, some b => if a.length + b.length ≤ sizeLine then some (.own (.lst (a ++ b))) else none
    | _, _ => none)
  | .mul, w, .dt (.int k) => (match w.lst with
    | some a => if repOk a.length k then some (.own (.lst (List.replicate k.toNat a).flatten)) else none
    | none => none)
  | _, _, _ => none
def Vw.isNon : Vw → Bool
  | .dt .non => true
  | _ => false
def Vw.cmp (op : COp) (w w' : Vw) : Option Bool := match op, w, w' with
  | .eq, w, w' => w.eq w'
  | .ne, w, w' => (w.eq w').map not
  | .lt, .dt (.int i), .dt (.int j) => some (decide (i < j))
  | .le, .dt (.int i), .dt (.int j) => some (decide (i ≤ j))
  | .gt, .dt (.int i), .dt (.int j) => some (decide (j < i))
  | .ge, .dt (.int i), .dt (.int j) => some (decide (j ≤ i))
  | .lt, .dt (.str i), .dt (.str j) => some (decide (i.cps.toList < j.cps.toList))
  | .le, .dt (.str i), .dt (.str j) => some (!decide (j.cps.toList < i.cps.toList))
  | .isin, w, w' => w'.isin w
  | .notin, w, w' => (w'.isin w).map not
  | .is, .dt (.bl a), .dt (.bl b) => some (decide (a = b))
  | .is, w, .dt .non => some w.isNon
  | .isnot, .dt (.bl a), .dt (.bl b) => some (!decide (a = b))
  | .isnot, w, .dt .non => some (!w.isNon)
  | _, _, _ => none
def cutD (xs : List Dat) (lo hi : Option Int) : List Dat := (xs.drop (HT.sIx xs.length 0 lo)).take (HT.sIx xs.length xs.length hi - HT.sIx xs.length 0 lo)
def Vw.slc (w : Vw) (lo hi : Option Int) : Option Rv := match w with
  | .dt (.str x) => if x.length ≤ sizeLine then some (.val (.str (cutS x lo hi))) else none
  | .dt (.tup xs) => some (.val (.tup (cutD xs lo hi)))
  | w => (match w.lst with
    | some xs => some (.own (.lst (cutD xs lo hi)))
    | none => none)
def Vw.sub (w i : Vw) : Option Dat := match w, i with
  | .dt (.str x), .dt (.int k) => if x.length ≤ sizeLine then (atI x.cps.toList k).map fun c => .str ⟨#[c]⟩ else none
  | w, .dt (.int k) => (match w.seq with
    | some xs => atI xs k
    | none => (match w.dct with
      | some kvs => getK kvs (.inl k)
      | none => none))
  | w, .dt (.str k) => (match w.dct with
      | some kvs => getK kvs (.inr k)
      | none => none)
  | _, _ => none
/- data as the library's own pure data, for repr -/
def pdY : Key → PyData
  | .inl i => .int i
  | .inr x => .str x
mutual
def pdD : Dat → Option PyData
  | .non => some .none
  | .bl b => some (.bool b)
  | .int i => some (.int i)
  | .str x => some (.str x)
  | .tup xs => (pdL xs).map .tuple
  | .lst xs => (pdL xs).map .list
  | .dct kvs => (pdK kvs).map .dict
  | _ => none
def pdL : List Dat → Option (List PyData)
  | [] => some []
  | x :: xs => match pdD x, pdL xs with
    | some a, some b => some (a :: b)
    | _, _ => none
def pdK : List (Key × Dat) → Option (List (PyData × PyData))
  | [] => some []
  | (k, x) :: xs => match pdD x, pdK xs with
    | some a, some b => some ((pdY k, a) :: b)
    | _, _ => none
end
def Vw.pd : Vw → Option PyData
  | .dt d => pdD d
  | .mb (.lst xs) => (pdL xs).map .list
  | .mb (.dct kvs) => (pdK kvs).map .dict
  | _ => none
/-- repr: of what is showable, no deeper than 64 -/
def reprOf (p : PyData) : Option Str := if p.showable && (decide (p.depth ≤ 64) && decide (p.shown.length ≤ sizeLine)) then some p.shown else none
def strsOf : List Dat → Option (List Str)
  | [] => some []
  | .str x :: r => (strsOf r).map (x :: ·)
  | _ => none
def blsOf : List Dat → Option (List Bool)
  | [] => some []
  | .bl x :: r => (blsOf r).map (x :: ·)
  | _ => none
def intsOf : List Dat → Option (List Int)
  | [] => some []
  | .int x :: r => (intsOf r).map (x :: ·)
  | _ => none
/-- the built-in type of a value -/
def Vw.tyn : Vw → Option String
  | .dt .non => some "NoneType"
  | .dt (.bl _) => some "bool"
  | .dt (.int _) => some "int"
  | .dt (.str _) => some "str"
  | .dt (.tup _) => some "tuple"
  | .dt (.lst _) => some "list"
  | .dt (.dct _) => some "dict"
  | .mb (.lst _) => some "list"
  | .mb (.dct _) => some "dict"
  | _ => none
def Vw.cls : Vw → Option Nat
  | .dt (.obj c _) => some c
  | .mb (.ins c _) => some c
  | _ => none
def tyNames : List String := ["bool", "int", "str", "tuple", "list", "dict"]
/-- isinstance of built-in types -/
def tyIs (a b : String) : Option Bool := if a = "bool" ∧ b = "int" then some true else if b ∈ tyNames then some (decide (a = b)) else none
def isaV (T : Tab) (w : Vw) : Dat → Option Bool
  | .ty n => (match w.tyn with
    | some t => tyIs t n
    | none => w.cls.bind fun c => T.isaT c n)
  | .cls c' => (match w.tyn with
    | some t => T.isaN t c'
    | none => w.cls.bind fun c => T.isaC c c')
  | _ => none
def isaXD (T : Tab) (c : Nat) : Dat → Option Bool
  | .ty n => T.isaXT c n
  | .cls c' => T.isaX c c'
  | _ => none
def Vw.bi (T : Tab) : Bi → Vw → List Dat → Option Rv
  | .len, w, [] => w.len.map fun n => .val (.int n)
  | .tuple, w, [] => (match w.lst with
    | some xs => some (.val (.tup xs))
    | none => w.tup.map fun xs => .val (.tup xs))
  | .list, w, [] => w.seq.map fun xs => .own (.lst xs)
  | .str, .dt (.str x), [] => some (.val (.str x))
  | .str, .dt (.int i), [] => if i.natAbs.log2 < 1920 then some (.val (.str (toString i))) else none
  | .repr, w, [] => (w.pd.bind reprOf).map fun x => .val (.str x)
  | .all, w, [] => (w.lst.bind blsOf).map fun bs => .val (.bl (bs.all id))
  | .any, w, [] => (w.lst.bind blsOf).map fun bs => .val (.bl (bs.any id))
  | .isi, .dt (.err c _), [d] => (isaXD T c d).map fun b => .val (.bl b)
  | .isi, w, [c] => (isaV T w c).map fun b => .val (.bl b)
  | .max, w, [] => ((w.lst.bind intsOf).bind List.max?).map fun n => .val (.int n)
  | .min, w, [] => ((w.lst.bind intsOf).bind List.min?).map fun n => .val (.int n)
  | .sum, w, [] => (w.lst.bind intsOf).map fun ns => .val (.int ns.sum)
  | _, _, _ => none
/-- methods of built-in types: the receiver's type; what it is then (if it changes), the answer -/
def joinLen (a : Str) (ys : List Str) : Nat := (ys.map (·.length)).sum + ys.length * a.length
def Vw.kind : Vw → Option String
  | .dt (.str _) => some "str"
  | .mb (.lst _) => some "list"
  | .mb (.dct _) => some "dict"
  | .dt (.dct _) => some "dict"
  | _ => none
def mtTy : Mt → String
  | .append => "list"
  | .pop => "list"
  | .extend => "list"
  | .upper => "str"
  | .split => "str"
  | .join => "str"
  | .replace => "str"
  | .get => "dict"
  | .update => "dict"
def Dat.seq : Dat → Option (List Dat)
  | .lst xs => some xs
  | .tup xs => some xs
  | _ => none
abbrev MtV := Vw → List Dat → Option (Option Mob × Rv)
def mAppend : MtV
  | .mb (.lst xs), [d] => if xs.length < sizeLine then some (some (.lst (xs ++ [d])), .val .non) else none
  | _, _ => none
def mPop : MtV
  | .mb (.lst xs), [] => (xs[xs.length - 1]?).map fun y => (some (.lst xs.dropLast), .val y)
  | _, _ => none
def mExtend : MtV
  | .mb (.lst xs), [.lst ys] => if xs.length + ys.length ≤ sizeLine then some (some (.lst (xs ++ ys)), .val .non) else none
  | _, _ => none
def mUpper : MtV
  | .dt (.str x), [] => if x.length ≤ 5592405 then some (none, .val (.str (Txt.upper x))) else none
  | _, _ => none
def mSplit : MtV
  | .dt (.str x), [.str y] => if (y.length == 0) = false ∧ x.length + 2 ≤ sizeLine then some (none, .own (.lst ((Txt.split x y).map .str))) else none
  | _, _ => none
def mJoin : MtV
  | .dt (.str x), [d] => (match d.seq.bind strsOf with
    | some ys => if joinLen x ys ≤ 16777216 then some (none, .val (.str (Txt.join x ys))) else none
    | none => none)
  | _, _ => none
def mReplace : MtV
  | _, _ => none
def mGet : MtV
  | w, [k] => (match w.dct, kyD k with
    | some kvs, some ky => some (none, .val ((getK kvs ky).getD .non))
    | _, _ => none)
  | w, [k, d] => (match w.dct, kyD k with
    | some kvs, some ky => some (none, .val ((getK kvs ky).getD d))
    | _, _ => none)
  | _, _ => none
def mergeD (kvs : List (Key × Dat)) : List (Key × Dat) → List (Key × Dat)
  | [] => kvs
  | p :: r => mergeD (putD kvs p.1 p.2) r
def mUpdate : MtV
  | .mb (.dct xs), [.dct ys] => if xs.length + ys.length ≤ sizeLine then some (some (.dct (mergeD xs ys)), .val .non) else none
  | _, _ => none
def mthV : Mt → MtV
  | .append => mAppend
  | .pop => mPop
  | .extend => mExtend
  | .upper => mUpper
  | .split => mSplit
  | .join => mJoin
  | .replace => mReplace
  | .get => mGet
  | .update => mUpdate

/-! ### the state's changes -/
def setSlot (i : Nat) (x : Slt) : Ac Unit := fun s => .ok () { s with env := s.env.set i x }
/-- the object of a result becomes o -/
def setMob (r : Rv) (o : Mob) : Ac Unit := fun s => match r with
  | .bor i => (match s.env[i]? with
    | some (.own _) => .ok () { s with env := s.env.set i (.own o) }
    | some (.val (.ref n)) => if n < s.sto.length then .ok () { s with sto := s.sto.set n o } else .stuck
    | _ => .stuck)
  | .val (.ref n) => if n < s.sto.length then .ok () { s with sto := s.sto.set n o } else .stuck
  | _ => .stuck
def lookA (r : Rv) : Ac Vw := fun s => match look s r with
  | some w => .ok w s
  | none => .stuck
def seqA {α β : Type} (f : α → Ac β) : List α → Ac (List β)
  | [] => Ac.ret []
  | a :: r => (f a).bind fun b => (seqA f r).bind fun bs => Ac.ret (b :: bs)
def Vw.fld (w : Vw) (f : Str) : Option Dat := match w with
  | .dt (.obj _ fs) => fs.lookup f
  | .dt (.err _ fs) => fs.lookup f
  | .mb (.ins _ fs) => fs.lookup f
  | _ => none
def signs (x : Str) : List Dat := x.cps.toList.map fun c => .str ⟨#[c]⟩
def intsD (lo : Int) (n : Nat) : List Dat := (List.range n).map fun (i : Nat) => .int (lo + i)
def rngOk (i : Int) : Bool := Nat.ble i.natAbs 4611686018427387903
def rngD : List Dat → Option (List Dat)
  | [.int j] => if rngOk j then some (intsD 0 j.toNat) else none
  | [.int i, .int j] => if rngOk i && rngOk j then some (intsD i (j - i).toNat) else none
  | _ => none
def enumD (k : Nat) : List Dat → List Dat
  | [] => []
  | d :: r => .tpl [.int k, d] :: enumD (k + 1) r
def walkD : Dat → Option (List Dat)
  | .lst xs => some xs
  | .tup xs => some xs
  | .str x => some (signs x)
  | _ => none
def optA {α β : Type} (f : α → Ac β) : Option α → Ac (Option β)
  | none => Ac.ret none
  | some a => (f a).bind fun b => Ac.ret (some b)
def intA : Rv → Ac Int := fun r => (lookA r).bind fun w => match w with
  | .dt (.int i) => Ac.ret i
  | _ => Ac.stk
def mthK (m : Mt) (x : Rv) (ds : List Dat) : Ac Rv := (lookA x).bind fun w => (Ac.opt (mthV m w ds)).bind fun p => match p.1 with
  | some o => (setMob x o).bind fun _ => Ac.ret p.2
  | none => Ac.ret p.2
end En
set_option maxHeartbeats 4000000
/-! En3: readings of actions, one behind another. -/
namespace En
open PySem PySem.Spec PyProof.Rows L2

theorem peDyn {X : Cx} {e : Expr} {t : TE} (h : ∀ σ H Q, t σ H Q → ∃ u, PE X e u ∧ u σ H Q) : PE X e t := ⟨fun pins s σ H Q I q => by
  obtain ⟨u, p, r⟩ := h σ H Q q
  exact p.run pins s σ H Q I r⟩
theorem peImp {X : Cx} {e : Expr} {t u : TE} (p : PE X e u) (h : ∀ σ H Q, t σ H Q → u σ H Q) : PE X e t   := peDyn fun σ H Q q => ⟨u, p, h σ H Q q⟩
theorem paImp {X : Cx} {e : List Expr} {t u : TA} (p : PA X e u) (h : ∀ σ H Q, t σ H Q → u σ H Q) : PA X e t := ⟨fun pos pins s σ H Q I q => p.run pos pins s σ H Q I (h σ H Q q)⟩
theorem ptImp {X : Cx} {e : Expr} {t u : TT} (p : PT X e u) (h : ∀ σ H Q, t σ H Q → u σ H Q) : PT X e t := ⟨fun pins s σ H Q I q => p.run pins s σ H Q I (h σ H Q q)⟩
theorem pwImp {X : Cx} {e : Expr} {t u : TT} (p : PW X e u) (h : ∀ σ H Q, t σ H Q → u σ H Q) : PW X e t := ⟨fun wh pins s σ H Q I q => p.run wh pins s σ H Q I (h σ H Q q)⟩
theorem psDyn {X : Cx} {e : Stmt} {t : TS} (h : ∀ D σ H, t D σ H → ∃ u, PS X e u ∧ u D σ H) : PS X e t := ⟨fun pins s σ H D I q => by
  obtain ⟨u, p, r⟩ := h D σ H q
  exact p.run pins s σ H D I r⟩
theorem psImp {X : Cx} {e : Stmt} {t u : TS} (p : PS X e u) (h : ∀ D σ H, t D σ H → u D σ H) : PS X e t := psDyn fun D σ H q => ⟨u, p, h D σ H q⟩
theorem pssImp {X : Cx} {e : List Stmt} {t u : TS} (p : PSs X e u) (h : ∀ D σ H, t D σ H → u D σ H) : PSs X e t := ⟨fun pins s σ H D I q => p.run pins s σ H D I (h D σ H q)⟩

/-- an exception's value: its class, its own dict, frozen -/
def XR (W : Wd) (g : Gh) (x : Dat) (cls : Value) (d : Option Addr) : Prop := ∃ c fs dx vs, x = .err c fs ∧ cls = .ref (W.ca c) ∧ d = some dx ∧ g.F dx = some (.xd vs) ∧ Rf W g fs vs
section
variable (W : Wd) (wx : WX)
/-- behind an action: σ stands -/
def Post {α : Type} (g : Gh) (P : Hp) (σ : L2.St) (o : Out α) (K : α → Stt → Gh → Hp → Prop) : Prop := match o with
  | .ok a s => ∀ g' H', g.Le g' → Rel W g' P s σ H' → K a s g' H'
  | .exc x s => ∀ g' H' cls d, g.Le g' → Rel W g' P s σ H' → XR W g' x cls d → wx cls d σ H'
  | .stuck => False
/-- a kind of results: how they lie, what of them is protected -/
structure RR (β γ : Type) where
  rel : Gh → Hp → Stt → L2.St → Hp → β → γ → Prop
  prt : Hp → Hp → β → γ → Hp
  up : ∀ {g : Gh} {P : Hp} {s : Stt} {σ : L2.St} {H : Hp} {b : β} {v : γ}, Rel W g P s σ H → rel g P s σ H b v → Rel W g (prt P H b v) s σ H ∧ (∀ a o, P a = some o → prt P H b v a = some o) ∧ ∀ a, prt P H b v a = none → P a = none
  go : ∀ {g g' : Gh} {P : Hp} {s s' : Stt} {σ : L2.St} {H H' : Hp} {b : β} {v : γ}, rel g P s σ H b v → g.Le g' → Rel W g' (prt P H b v) s' σ H' → rel g' P s' σ H' b v
  weak : ∀ {g : Gh} {P P' : Hp} {s : Stt} {σ : L2.St} {H : Hp} {b : β} {v : γ}, rel g P' s σ H b v → (∀ a, P' a = none → P a = none) → rel g P s σ H b v
/-- the reading of an action -/
def tX {β γ : Type} (B : RR W β γ) (m : Ac β) : L2.St → Hp → (γ → Hp → Prop) → Prop := fun σ H Q =>
  ∃ g P s, Rel W g P s σ H ∧ Post W wx g P σ (m s) fun b s' g' H' => ∀ v, B.rel g' P s' σ H' b v → Q v H'
end
section
variable {W : Wd} {wx : WX} {g g' : Gh} {P P' : Hp} {s : Stt} {σ : L2.St} {H : Hp}
theorem Post.mono {α : Type} {o : Out α} {K K' : α → Stt → Gh → Hp → Prop} (h : Post W wx g P σ o K) (hK : ∀ a s g' H', g.Le g' → Rel W g' P s σ H' → K a s g' H' → K' a s g' H') : Post W wx g P σ o K' := by
  cases o with
  | ok a s => exact fun g' H' l r => hK a s g' H' l r (h g' H' l r)
  | exc x s => exact h
  | stuck => exact h
theorem Post.le {α : Type} {o : Out α} {K : α → Stt → Gh → Hp → Prop} (h : Post W wx g P σ o K) (l : g.Le g') : Post W wx g' P σ o K := by
  cases o with
  | ok a s => exact fun g2 H' l2 r => h g2 H' (l.trans l2) r
  | exc x s => exact fun g2 H' cls d l2 r x => h g2 H' cls d (l.trans l2) r x
  | stuck => exact h
theorem Post.under {α : Type} {o : Out α} {K : α → Stt → Gh → Hp → Prop} (h : Post W wx g P σ o K) (h1 : ∀ a o, P a = some o → P' a = some o) (h2 : ∀ a, P' a = none → P a = none) : Post W wx g P' σ o K := by
  cases o with
  | ok a s => exact fun g2 H' l r => h g2 H' l (r.weak h1 h2)
  | exc x s => exact fun g2 H' cls d l r x => h g2 H' cls d l (r.weak h1 h2) x
  | stuck => exact h
theorem Post.bindE {α β : Type} {m : Ac α} {f : α → Ac β} {K : β → Stt → Gh → Hp → Prop} (h : Post W wx g P σ (m.bind f s) K) : Post W wx g P σ (m s) fun a s1 g1 H1 => Post W wx g1 P σ (f a s1) K := by
  unfold Ac.bind at h
  cases e : m s with
  | ok a s1 =>
    rw [e] at h
    exact fun g1 H1 l r => Post.le h l
  | exc x s1 =>
    rw [e] at h
    exact h
  | stuck =>
    rw [e] at h
    exact h
/-- an end at once -/
theorem Post.now {α : Type} {o : Out α} {a : α} {K : α → Stt → Gh → Hp → Prop} (h : Post W wx g P σ o K) (r : Rel W g P s σ H) (e : o = .ok a s) : K a s g H := by
  subst e
  exact h g H (.refl g) r
end
section
variable {W : Wd}
def rvK : RR W Rv V where
  rel := RvR W
  prt := prt
  up := fun {g P s σ H b v} r q => by
    refine ⟨r.prot' q, ?_⟩
    cases b with
    | val d => exact ⟨fun _ _ h => h, fun _ h => h⟩
    | bor i => exact ⟨fun _ _ h => h, fun _ h => h⟩
    | own o =>
      obtain ⟨a, ho, rfl, hH, hR, hF, hP, hn, hs⟩ := q
      unfold prt
      simp only [hH]
      exact ⟨up_le hP, up_none⟩
  go := fun q l r => (q.go l r).1
  weak := fun {g P P' s σ H b v} q h => by
    cases b with
    | val d => exact q
    | bor i => exact q
    | own o =>
      obtain ⟨a, ho, e, hH, hR, hF, hP, hn, hs⟩ := q
      exact ⟨a, ho, e, hH, hR, hF, h a hP, hn, hs⟩
def dtK : RR W Dat V where
  rel := fun g _ _ _ _ d v => R W g d v
  prt := fun P _ _ _ => P
  up := fun r _ => ⟨r, fun _ _ h => h, fun _ h => h⟩
  go := fun q l _ => R.mono l q
  weak := fun q _ => q
def dsK : RR W (List Dat) (List V) where
  rel := fun g _ _ _ _ d v => Rs W g d v
  prt := fun P _ _ _ => P
  up := fun r _ => ⟨r, fun _ _ h => h, fun _ h => h⟩
  go := fun q l _ => Rs.mono l q
  weak := fun q _ => q
/-- a plain answer -/
def eqK (α : Type) : RR W α α where
  rel := fun _ _ _ _ _ a b => a = b
  prt := fun P _ _ _ => P
  up := fun r _ => ⟨r, fun _ _ h => h, fun _ h => h⟩
  go := fun q _ _ => q
  weak := fun q _ => q
end
end En
set_option maxHeartbeats 4000000
/-! En4: operators, comparisons, by values. -/
namespace En
open PySem PySem.Spec PyProof.Rows L2
section
variable {W : Wd} {wx : WX}
/-- two actions, then a third that knows both answers -/
def fin2 {β γ β' γ' δ ε : Type} (W : Wd) (wx : WX) (A : RR W β γ) (B : RR W β' γ') (C : RR W δ ε) (k : β → β' → Ac δ) (σ : L2.St) (v : γ) (u : γ') (H : Hp) (Q : ε → Hp → Prop) : Prop :=
  ∃ g P s x y, Rel W g P s σ H ∧ A.rel g P s σ H x v ∧ B.rel g P s σ H y u ∧ Post W wx g P σ (k x y s) fun c s' g' H' => ∀ w, C.rel g' P s' σ H' c w → Q w H'
def fin1 {β γ δ ε : Type} (W : Wd) (wx : WX) (A : RR W β γ) (C : RR W δ ε) (k : β → Ac δ) (σ : L2.St) (v : γ) (H : Hp) (Q : ε → Hp → Prop) : Prop :=
  ∃ g P s x, Rel W g P s σ H ∧ A.rel g P s σ H x v ∧ Post W wx g P σ (k x s) fun c s' g' H' => ∀ w, C.rel g' P s' σ H' c w → Q w H'
theorem tX_bind2 {β γ β' γ' δ ε : Type} {A : RR W β γ} {B : RR W β' γ'} {C : RR W δ ε} {ma : Ac β} {mb : Ac β'} {k : β → β' → Ac δ} {σ : L2.St} {H : Hp} {Q : ε → Hp → Prop}
    (h : tX W wx C (ma.bind fun x => mb.bind fun y => k x y) σ H Q) : tX W wx A ma σ H fun v H1 => tX W wx B mb σ H1 fun u H2 => fin2 W wx A B C k σ v u H2 Q := by
  obtain ⟨g, P, s, r, p⟩ := h
  refine ⟨g, P, s, r, (Post.bindE p).mono fun x s1 g1 H1 l1 r1 p1 v hv => ?_⟩
  obtain ⟨r2, u2, w2⟩ := A.up r1 hv
  refine ⟨g1, A.prt P H1 x v, s1, r2, ((Post.bindE p1).under u2 w2).mono fun y s2 g2 H2 l2 r3 p2 u hu => ?_⟩
  exact ⟨g2, P, s2, x, y, r3.weak u2 w2, A.go hv l2 r3, B.weak hu w2, p2⟩
theorem tX_bind1 {β γ δ ε : Type} {A : RR W β γ} {C : RR W δ ε} {ma : Ac β} {k : β → Ac δ} {σ : L2.St} {H : Hp} {Q : ε → Hp → Prop}
    (h : tX W wx C (ma.bind k) σ H Q) : tX W wx A ma σ H fun v H1 => fin1 W wx A C k σ v H1 Q := by
  obtain ⟨g, P, s, r, p⟩ := h
  refine ⟨g, P, s, r, (Post.bindE p).mono fun x s1 g1 H1 l1 r1 p1 v hv => ?_⟩
  exact ⟨g1, P, s1, x, r1, hv, p1⟩
/-- a look -/
theorem Post.lookE {g : Gh} {P : Hp} {σ : L2.St} {s : Stt} {β : Type} {x : Rv} {k : Vw → Ac β} {K : β → Stt → Gh → Hp → Prop} (h : Post W wx g P σ ((lookA x).bind k s) K) : ∃ w, look s x = some w ∧ Post W wx g P σ (k w s) K := by
  unfold Ac.bind lookA at h
  cases e : look s x with
  | none =>
    simp only [e] at h
    exact h.elim
  | some w =>
    simp only [e] at h
    exact ⟨w, rfl, h⟩
theorem Post.optE {g : Gh} {P : Hp} {σ : L2.St} {s : Stt} {β : Type} {o : Option β} {K : β → Stt → Gh → Hp → Prop} (h : Post W wx g P σ (Ac.opt o s) K) : ∃ b, o = some b ∧ Post W wx g P σ (.ok b s) K := by
  cases o with
  | none => exact h.elim
  | some b => exact ⟨b, rfl, h⟩

/-! inversions -/
section
variable {g : Gh} {v : V}
theorem R.intE {i : Int} (h : R W g (.int i) v) : v = .int i := by cases h; rfl
theorem R.strE {i : Str} (h : R W g (.str i) v) : v = .str i := by cases h; rfl
theorem R.blE {i : Bool} (h : R W g (.bl i) v) : v = .bl i := by cases h; rfl
theorem R.nonE (h : R W g .non v) : v = .non := by cases h; rfl
end
def BOp.py : BOp → Operator
  | .add => .Add
  | .sub => .Sub
  | .mul => .Mult
  | .fdiv => .FloorDiv
  | .mod => .Mod
  | .pow => .Pow
theorem mulOk_ok {i j : Int} (h : mulOk i j = true) : CMul i j := by
  unfold mulOk at h
  simp only [Bool.or_eq_true, Bool.and_eq_true, decide_eq_true_eq] at h
  exact h
theorem repOk_ok {n : Nat} {k : Int} (h : repOk n k = true) : -(2 ^ 63) ≤ k ∧ k < 2 ^ 63 ∧ n * k.toNat ≤ sizeLine := by
  unfold repOk at h
  simp only [Bool.and_eq_true, decide_eq_true_eq] at h
  exact h
/-- two lists, whoever holds them -/
def rCatS (K : PySem.W.Frag) : R2 := fun x y H Q => ∃ l b xs zs, x = .ref l ∧ y = .ref b ∧ SqL K H l xs ∧ SqL K H b zs ∧ xs.length + zs.length ≤ sizeLine ∧ ∀ p, H p = none → Q (.ref p) (upd H p (.lst (xs ++ zs)))
theorem op_catS {X : Cx} : OpR X (binaryOp .Add) (rCatS X.K) := by
  intro pins s σ H x y v u Q I rx ry h
  obtain ⟨l, b, xs, zs, rfl, rfl, hH, hB, hz, q⟩ := h
  cases rx
  cases ry
  obtain ⟨its, r, pl, z⟩ := I.list hH
  obtain ⟨its2, r2, pl2, z2⟩ := I.list hB
  obtain ⟨⟨cls, dd, data, sl⟩, ho, hc, n, hd⟩ := pl.isList
  obtain ⟨⟨cls2, dd2, data2, sl2⟩, ho2, hc2, n2, hd2⟩ := pl2.isList
  simp only at hc hd hc2 hd2
  subst hc hd hc2 hd2
  have e : its.toArray ++ its2.toArray = (its ++ its2).toArray := by simp
  have l1 := r.length
  have l2 := r2.length
  refine concat_meets ⟨_, ho, rfl⟩ ⟨_, ho2, rfl⟩ noFill_list_add seq_list_add PySem.F.slot_list_add PySem.F.entry_list_add (PySem.F.args_list_add_2 _ _) (list_addW l b its.toArray its2.toArray n n2 dd dd2 sl sl2 (by simp only [List.size_toArray]; omega)) ⟨ho, ho2, ?_⟩
  rw [e]
  exact ⟨.ref _, _, I.lnew (t' := s.toks) (r.append r2) (by rw [List.length_append]; omega), rfl, q _ I.fresh⟩
def binK (op : BOp) (x y : Rv) : Ac Rv := (lookA x).bind fun w => (lookA y).bind fun w' => Ac.opt (w.bin op w')
/-- a op b, by values -/
def rBin (W : Wd) (wx : WX) (op : BOp) : R2 := fun v u H Q => ∃ σ, fin2 W wx rvK rvK rvK (binK op) σ v u H Q
theorem op_bin {X : Cx} (hK : X.K = W.K) (op : BOp) : OpR X (binaryOp op.py) (rBin W wx op) := by
  intro pins s σ H x y v u Q I rx ry h
  obtain ⟨σ', g, P, st, a, b, r, ra, rb, p1⟩ := h
  obtain ⟨w, e1, p2⟩ := Post.lookE p1
  obtain ⟨w', e2, p3⟩ := Post.lookE p2
  obtain ⟨rv, e3, p⟩ := Post.optE p3
  clear p1 p2 p3
  have q1 := look_ok r ra e1
  have q2 := look_ok r rb e2
  -- an int that comes out
  have int : ∀ k, rv = .val (.int k) → Q (.int k) H := fun k e => by
    subst e
    exact p g H (.refl g) r _ (R.int k)
  have lists : ∀ {xs ys : List Dat}, w.lst = some xs → w'.lst = some ys → xs.length + ys.length ≤ sizeLine → rv = .own (.lst (xs ++ ys)) → ∃ l b zs us, x = .ref l ∧ y = .ref b ∧ H l = some (.lst zs) ∧ H b = some (.lst us) ∧ zs.length + us.length ≤ sizeLine ∧ ∀ p, H p = none → Q (.ref p) (upd H p (.lst (zs ++ us))) := fun {xs ys} h1 h2 h3 e => by
    subst e
    obtain ⟨l, zs, f1, f2, f3⟩ := q1.lst r h1
    obtain ⟨b, us, k1, k2, k3⟩ := q2.lst r h2
    refine ⟨l, b, zs, us, f1, k1, f2, k2, by rw [← f3.length, ← k3.length]; exact h3, fun pp hp => ?_⟩
    obtain ⟨n1, n2⟩ := r.newOwn (o := .lst (xs ++ ys)) (ho := .lst (zs ++ us)) hp (f3.append k3)
    exact p g _ (.refl g) n1 _ n2
  clear e1 e2
  unfold Vw.bin at e3
  split at e3
  · rename_i i j
    obtain rfl := R.intE q1
    obtain rfl := R.intE q2
    cases hk : binI op i j with
    | none =>
      rw [hk] at e3
      cases e3
    | some k =>
      rw [hk] at e3
      have qk := int k (Option.some.inj e3).symm
      cases op with
      | add =>
        cases hk
        exact op_add pins s σ H _ _ v u Q I rx ry ⟨i, j, rfl, rfl, qk⟩
      | sub =>
        cases hk
        exact op_sub pins s σ H _ _ v u Q I rx ry ⟨i, j, rfl, rfl, qk⟩
      | mul =>
        unfold binI at hk
        simp only at hk
        split at hk
        · cases hk
          exact op_mul pins s σ H _ _ v u Q I rx ry ⟨i, j, rfl, rfl, mulOk_ok (by assumption), qk⟩
        · cases hk
      | fdiv =>
        unfold binI at hk
        simp only at hk
        split at hk
        · cases hk
          exact op_fdiv pins s σ H _ _ v u Q I rx ry ⟨i, j, rfl, rfl, by assumption, qk⟩
        · cases hk
      | mod =>
        unfold binI at hk
        simp only at hk
        split at hk
        · cases hk
          exact op_mod pins s σ H _ _ v u Q I rx ry ⟨i, j, rfl, rfl, by assumption, qk⟩
        · cases hk
      | pow =>
        unfold binI at hk
        simp only at hk
        split at hk
        · cases hk
          exact op_pow pins s σ H _ _ v u Q I rx ry ⟨i, j, rfl, rfl, by assumption, qk⟩
        · cases hk
  · rename_i i j
    obtain rfl := R.strE q1
    obtain rfl := R.strE q2
    split at e3
    · cases e3
      exact op_add_str pins s σ H _ _ v u Q I rx ry ⟨i, j, rfl, rfl, by assumption, p g H (.refl g) r _ (R.str _)⟩
    · cases e3
  · rename_i i j
    split at e3
    · rename_i hz
      cases e3
      obtain ⟨l, zs, f1, f2, f3⟩ := R.tupH r q1
      obtain ⟨b, us, k1, k2, k3⟩ := R.tupH r q2
      rw [← hK] at f2 k2
      refine op_catZ pins s σ H _ _ v u Q I rx ry ⟨l, b, zs, us, f1, k1, f2, k2, by rw [← f3.length, ← k3.length]; exact hz, fun e => ?_, fun _ e => ?_, fun _ _ pp oo hp hd => ?_⟩
      · subst e
        cases f3
        rw [k1] at q2
        exact p g H (.refl g) r _ q2
      · subst e
        cases k3
        rw [f1] at q1
        rw [List.append_nil] at p
        exact p g H (.refl g) r _ q1
      · obtain ⟨n1, n2, n3⟩ := r.newZ hp hd (f3.append k3)
        exact p _ _ n1 n2 _ n3
    · cases e3
  · split at e3
    · rename_i hz
      cases e3
      cases q1 with
      | scr f1 f2 =>
        obtain ⟨b, ho, rfl, k1, k2⟩ := q2
        cases ho <;> first | exact False.elim k2 | skip
        rename_i us
        have k3 : Rs W g _ us := k2
        refine op_catS pins s σ H _ _ v u Q I rx ry ⟨_, b, _, us, rfl, rfl, by rw [hK]; exact sqL_mono r.fz f1, SqL.of k1, by rw [← f2.length, ← k3.length]; exact hz, fun pp hp => ?_⟩
        obtain ⟨n1, n2⟩ := r.newOwn (o := .lst _) (ho := .lst _) hp (f2.append k3)
        exact p g _ (.refl g) n1 _ n2
    · cases e3
  · split at e3
    · rename_i h1 h2
      split at e3
      · rename_i hz
        cases e3
        exact op_cat pins s σ H _ _ v u Q I rx ry (lists h1 h2 hz rfl)
      · cases e3
    · cases e3
  · split at e3
    · rename_i h1
      split at e3
      · rename_i hz
        cases e3
        obtain rfl := R.intE q2
        obtain ⟨z1, z2, z3⟩ := repOk_ok hz
        obtain ⟨l, zs, f1, f2, f3⟩ := q1.lst r h1
        refine op_rep pins s σ H _ _ v u Q I rx ry ⟨l, _, zs, f1, rfl, f2, z1, z2, by rw [← f3.length]; exact z3, fun pp hp => ?_⟩
        obtain ⟨n1, n2⟩ := r.newOwn (o := .lst _) (ho := .lst _) hp (f3.rep _)
        exact p g _ (.refl g) n1 _ n2
      · cases e3
    · cases e3
  · cases e3
end
end En
set_option maxHeartbeats 4000000
/-! En5: == and in, over data at any depth. (the three tables are printed by a program) -/
namespace En
open PySem PySem.Spec PyProof.Rows L2
/-- what == is not asked of here -/
def opaq : Dat → Bool
  | .non => false
  | .bl _ => false
  | .int _ => false
  | .str _ => false
  | .tup _ => false
  | .lst _ => false
  | _ => true
theorem eqD_opaqL {d e : Dat} (h : opaq d = true) : eqD d e = none := by
  cases d <;> first | (exact absurd h Bool.false_ne_true) | (cases e <;> rfl)
theorem eqD_opaqR {d e : Dat} (h : opaq d = true) : eqD e d = none := by
  cases d <;> first | (exact absurd h Bool.false_ne_true) | (cases e <;> rfl)
/- how data lies in a heap, as == sees it -/
mutual
inductive Lk (h : Heap) : Dat → Value → Prop
  | non : Lk h .non .none
  | bl (b : Bool) : Lk h (.bl b) (.bool b)
  | int (i : Int) (t : Tok) : Lk h (.int i) (.int i t)
  | str (x : Str) (t : Tok) : Lk h (.str x) (.str x t)
  | tup {a : Addr} {items : List Value} {ds : List Dat} : h.IsTuple a items.toArray → LkL h ds items → Lk h (.tup ds) (.ref a)
  | lst {a : Addr} {items : List Value} {ds : List Dat} : h.IsList a items.toArray → LkL h ds items → Lk h (.lst ds) (.ref a)
  | opq {d : Dat} {u : Value} : opaq d = true → Lk h d u
inductive LkL (h : Heap) : List Dat → List Value → Prop
  | nil : LkL h [] []
  | cons {d : Dat} {u : Value} {ds : List Dat} {us : List Value} : Lk h d u → LkL h ds us → LkL h (d :: ds) (u :: us)
end
theorem LkL.length {h : Heap} : ∀ {ds : List Dat} {us : List Value}, LkL h ds us → ds.length = us.length
  | _, _, .nil => rfl
  | _, _, .cons _ t => congrArg Nat.succ (LkL.length t)
/-- of two kinds, or scalars -/
def mix : Dat → Dat → Bool
  | .tup _, .tup _ => false
  | .lst _, .lst _ => false
  | _, _ => true
theorem eqAt_mix {A : Around} {s : Shared} (hu : A.units < cLine) : ∀ {d e : Dat} {u v : Value} {b : Bool}, Lk s.heap d u → Lk s.heap e v → mix d e = true → eqD d e = some b → SeqAt.EqAt A s u v b
  | _, _, _, _, _, .non, .non, _, h => by cases (show some _ = some _ from h); exact SeqAt.EqAt.same _
  | _, _, _, _, _, .non, .bl _, _, h => by cases (show some _ = some _ from h); exact SeqAt.EqAt.none_bool _
  | _, _, _, _, _, .non, .int _ _, _, h => by cases (show some _ = some _ from h); exact SeqAt.EqAt.none_int _ _
  | _, _, _, _, _, .non, .str _ _, _, h => by cases (show some _ = some _ from h); exact SeqAt.EqAt.none_str _ _
  | _, _, _, _, _, .non, .tup t2 _, _, h => by cases (show some _ = some _ from h); exact SeqAt.EqAt.none_tuple t2 hu
  | _, _, _, _, _, .non, .lst t2 _, _, h => by cases (show some _ = some _ from h); exact SeqAt.EqAt.none_list t2 hu
  | _, _, _, _, _, .bl _, .non, _, h => by cases (show some _ = some _ from h); exact SeqAt.EqAt.bool_none _
  | _, _, _, _, _, .bl _, .bl _, _, h => by cases (show some _ = some _ from h); exact SeqAt.EqAt.bool_bool _ _
  | _, _, _, _, _, .bl _, .int _ _, _, h => by cases (show some _ = some _ from h); exact SeqAt.EqAt.bool_int _ _ _
  | _, _, _, _, _, .bl _, .str _ _, _, h => by cases (show some _ = some _ from h); exact SeqAt.EqAt.bool_str _ _ _
  | _, _, _, _, _, .bl _, .tup t2 _, _, h => by cases (show some _ = some _ from h); exact SeqAt.EqAt.bool_tuple _ t2 hu
  | _, _, _, _, _, .bl _, .lst t2 _, _, h => by cases (show some _ = some _ from h); exact SeqAt.EqAt.bool_list _ t2 hu
  | _, _, _, _, _, .int _ _, .non, _, h => by cases (show some _ = some _ from h); exact SeqAt.EqAt.int_none _ _
  | _, _, _, _, _, .int _ _, .bl _, _, h => by cases (show some _ = some _ from h); exact SeqAt.EqAt.int_bool _ _ _
  | _, _, _, _, _, .int _ _, .int _ _, _, h => by cases (show some _ = some _ from h); exact SeqAt.EqAt.int_int _ _ _ _
  | _, _, _, _, _, .int _ _, .str _ _, _, h => by cases (show some _ = some _ from h); exact SeqAt.EqAt.int_str _ _ _ _
  | _, _, _, _, _, .int _ _, .tup t2 _, _, h => by cases (show some _ = some _ from h); exact SeqAt.EqAt.int_tuple _ _ t2 hu
  | _, _, _, _, _, .int _ _, .lst t2 _, _, h => by cases (show some _ = some _ from h); exact SeqAt.EqAt.int_list _ _ t2 hu
  | _, _, _, _, _, .str _ _, .non, _, h => by cases (show some _ = some _ from h); exact SeqAt.EqAt.str_none _ _
  | _, _, _, _, _, .str _ _, .bl _, _, h => by cases (show some _ = some _ from h); exact SeqAt.EqAt.str_bool _ _ _
  | _, _, _, _, _, .str _ _, .int _ _, _, h => by cases (show some _ = some _ from h); exact SeqAt.EqAt.str_int _ _ _ _
  | _, _, _, _, _, .str _ _, .str _ _, _, h => by cases (show some _ = some _ from h); exact SeqAt.EqAt.str_str _ _ _ _
  | _, _, _, _, _, .str _ _, .tup t2 _, _, h => by cases (show some _ = some _ from h); exact SeqAt.EqAt.str_tuple _ _ t2 hu
  | _, _, _, _, _, .str _ _, .lst t2 _, _, h => by cases (show some _ = some _ from h); exact SeqAt.EqAt.str_list _ _ t2 hu
  | _, _, _, _, _, .tup t1 _, .non, _, h => by cases (show some _ = some _ from h); exact SeqAt.EqAt.tuple_none t1 hu
  | _, _, _, _, _, .tup t1 _, .bl _, _, h => by cases (show some _ = some _ from h); exact SeqAt.EqAt.tuple_bool _ t1 hu
  | _, _, _, _, _, .tup t1 _, .int _ _, _, h => by cases (show some _ = some _ from h); exact SeqAt.EqAt.tuple_int _ _ t1 hu
  | _, _, _, _, _, .tup t1 _, .str _ _, _, h => by cases (show some _ = some _ from h); exact SeqAt.EqAt.tuple_str _ _ t1 hu
  | _, _, _, _, _, .tup t1 _, .lst t2 _, _, h => by cases (show some _ = some _ from h); exact SeqAt.EqAt.tuple_list t1 t2 hu
  | _, _, _, _, _, .lst t1 _, .non, _, h => by cases (show some _ = some _ from h); exact SeqAt.EqAt.list_none t1 hu
  | _, _, _, _, _, .lst t1 _, .bl _, _, h => by cases (show some _ = some _ from h); exact SeqAt.EqAt.list_bool _ t1 hu
  | _, _, _, _, _, .lst t1 _, .int _ _, _, h => by cases (show some _ = some _ from h); exact SeqAt.EqAt.list_int _ _ t1 hu
  | _, _, _, _, _, .lst t1 _, .str _ _, _, h => by cases (show some _ = some _ from h); exact SeqAt.EqAt.list_str _ _ t1 hu
  | _, _, _, _, _, .lst t1 _, .tup t2 _, _, h => by cases (show some _ = some _ from h); exact SeqAt.EqAt.list_tuple t1 t2 hu
  | _, _, _, _, _, .tup _ _, .tup _ _, h, _ => by cases h
  | _, _, _, _, _, .lst _ _, .lst _ _, h, _ => by cases h
  | _, _, _, _, _, .opq o, _, _, h => by rw [eqD_opaqL o] at h; cases h
  | _, _, _, _, _, _, .opq o, _, h => by rw [eqD_opaqR o] at h; cases h
theorem rcAt_mix {A : Around} {s : Shared} (hu : A.units < cLine) : ∀ {d e : Dat} {u v : Value} {b : Bool}, Lk s.heap d u → Lk s.heap e v → mix d e = true → eqD d e = some b → SeqAt.RcAt A s u v b
  | _, _, _, _, _, .non, .non, _, h => by cases (show some _ = some _ from h); exact SeqAt.RcAt.none_none
  | _, _, _, _, _, .non, .bl _, _, h => by cases (show some _ = some _ from h); exact SeqAt.RcAt.none_bool _
  | _, _, _, _, _, .non, .int _ _, _, h => by cases (show some _ = some _ from h); exact SeqAt.RcAt.none_int _ _
  | _, _, _, _, _, .non, .str _ _, _, h => by cases (show some _ = some _ from h); exact SeqAt.RcAt.none_str _ _
  | _, _, _, _, _, .non, .tup t2 _, _, h => by cases (show some _ = some _ from h); exact SeqAt.RcAt.none_tuple t2 hu
  | _, _, _, _, _, .non, .lst t2 _, _, h => by cases (show some _ = some _ from h); exact SeqAt.RcAt.none_list t2 hu
  | _, _, _, _, _, .bl _, .non, _, h => by cases (show some _ = some _ from h); exact SeqAt.RcAt.bool_none _
  | _, _, _, _, _, .bl _, .bl _, _, h => by cases (show some _ = some _ from h); exact SeqAt.RcAt.bool_bool _ _
  | _, _, _, _, _, .bl _, .int _ _, _, h => by cases (show some _ = some _ from h); exact SeqAt.RcAt.bool_int _ _ _
  | _, _, _, _, _, .bl _, .str _ _, _, h => by cases (show some _ = some _ from h); exact SeqAt.RcAt.bool_str _ _ _
  | _, _, _, _, _, .bl _, .tup t2 _, _, h => by cases (show some _ = some _ from h); exact SeqAt.RcAt.bool_tuple _ t2 hu
  | _, _, _, _, _, .bl _, .lst t2 _, _, h => by cases (show some _ = some _ from h); exact SeqAt.RcAt.bool_list _ t2 hu
  | _, _, _, _, _, .int _ _, .non, _, h => by cases (show some _ = some _ from h); exact SeqAt.RcAt.int_none _ _
  | _, _, _, _, _, .int _ _, .bl _, _, h => by cases (show some _ = some _ from h); exact SeqAt.RcAt.int_bool _ _ _
  | _, _, _, _, _, .int _ _, .int _ _, _, h => by cases (show some _ = some _ from h); exact SeqAt.RcAt.int_int _ _ _ _
  | _, _, _, _, _, .int _ _, .str _ _, _, h => by cases (show some _ = some _ from h); exact SeqAt.RcAt.int_str _ _ _ _
  | _, _, _, _, _, .int _ _, .tup t2 _, _, h => by cases (show some _ = some _ from h); exact SeqAt.RcAt.int_tuple _ _ t2 hu
  | _, _, _, _, _, .int _ _, .lst t2 _, _, h => by cases (show some _ = some _ from h); exact SeqAt.RcAt.int_list _ _ t2 hu
  | _, _, _, _, _, .str _ _, .non, _, h => by cases (show some _ = some _ from h); exact SeqAt.RcAt.str_none _ _
  | _, _, _, _, _, .str _ _, .bl _, _, h => by cases (show some _ = some _ from h); exact SeqAt.RcAt.str_bool _ _ _
  | _, _, _, _, _, .str _ _, .int _ _, _, h => by cases (show some _ = some _ from h); exact SeqAt.RcAt.str_int _ _ _ _
  | _, _, _, _, _, .str _ _, .str _ _, _, h => by cases (show some _ = some _ from h); exact SeqAt.RcAt.str_str _ _ _ _
  | _, _, _, _, _, .str _ _, .tup t2 _, _, h => by cases (show some _ = some _ from h); exact SeqAt.RcAt.str_tuple _ _ t2 hu
  | _, _, _, _, _, .str _ _, .lst t2 _, _, h => by cases (show some _ = some _ from h); exact SeqAt.RcAt.str_list _ _ t2 hu
  | _, _, _, _, _, .tup t1 _, .non, _, h => by cases (show some _ = some _ from h); exact SeqAt.RcAt.tuple_none t1 hu
  | _, _, _, _, _, .tup t1 _, .bl _, _, h => by cases (show some _ = some _ from h); exact SeqAt.RcAt.tuple_bool _ t1 hu
  | _, _, _, _, _, .tup t1 _, .int _ _, _, h => by cases (show some _ = some _ from h); exact SeqAt.RcAt.tuple_int _ _ t1 hu
  | _, _, _, _, _, .tup t1 _, .str _ _, _, h => by cases (show some _ = some _ from h); exact SeqAt.RcAt.tuple_str _ _ t1 hu
  | _, _, _, _, _, .tup t1 _, .lst t2 _, _, h => by cases (show some _ = some _ from h); exact SeqAt.RcAt.tuple_list t1 t2 hu
  | _, _, _, _, _, .lst t1 _, .non, _, h => by cases (show some _ = some _ from h); exact SeqAt.RcAt.list_none t1 hu
  | _, _, _, _, _, .lst t1 _, .bl _, _, h => by cases (show some _ = some _ from h); exact SeqAt.RcAt.list_bool _ t1 hu
  | _, _, _, _, _, .lst t1 _, .int _ _, _, h => by cases (show some _ = some _ from h); exact SeqAt.RcAt.list_int _ _ t1 hu
  | _, _, _, _, _, .lst t1 _, .str _ _, _, h => by cases (show some _ = some _ from h); exact SeqAt.RcAt.list_str _ _ t1 hu
  | _, _, _, _, _, .lst t1 _, .tup t2 _, _, h => by cases (show some _ = some _ from h); exact SeqAt.RcAt.list_tuple t1 t2 hu
  | _, _, _, _, _, .tup _ _, .tup _ _, h, _ => by cases h
  | _, _, _, _, _, .lst _ _, .lst _ _, h, _ => by cases h
  | _, _, _, _, _, .opq o, _, _, h => by rw [eqD_opaqL o] at h; cases h
  | _, _, _, _, _, _, .opq o, _, h => by rw [eqD_opaqR o] at h; cases h
theorem neAt_mix {A : Around} {s : Shared} (hu : A.units < cLine) : ∀ {d e : Dat} {u v : Value} {b : Bool}, Lk s.heap d u → Lk s.heap e v → mix d e = true → eqD d e = some b → SeqAt.RcNeAt A s u v (!b)
  | _, _, _, _, _, .non, .non, _, h => by cases (show some _ = some _ from h); exact SeqAt.RcNeAt.none_none
  | _, _, _, _, _, .non, .bl _, _, h => by cases (show some _ = some _ from h); exact SeqAt.RcNeAt.none_bool _
  | _, _, _, _, _, .non, .int _ _, _, h => by cases (show some _ = some _ from h); exact SeqAt.RcNeAt.none_int _ _
  | _, _, _, _, _, .non, .str _ _, _, h => by cases (show some _ = some _ from h); exact SeqAt.RcNeAt.none_str _ _
  | _, _, _, _, _, .non, .tup t2 _, _, h => by cases (show some _ = some _ from h); exact SeqAt.RcNeAt.none_tuple t2 hu
  | _, _, _, _, _, .non, .lst t2 _, _, h => by cases (show some _ = some _ from h); exact SeqAt.RcNeAt.none_list t2 hu
  | _, _, _, _, _, .bl _, .non, _, h => by cases (show some _ = some _ from h); exact SeqAt.RcNeAt.bool_none _
  | _, _, _, _, _, .bl _, .bl _, _, h => by cases (show some _ = some _ from h); exact SeqAt.RcNeAt.bool_bool _ _
  | _, _, _, _, _, .bl _, .int _ _, _, h => by cases (show some _ = some _ from h); exact SeqAt.RcNeAt.bool_int _ _ _
  | _, _, _, _, _, .bl _, .str _ _, _, h => by cases (show some _ = some _ from h); exact SeqAt.RcNeAt.bool_str _ _ _
  | _, _, _, _, _, .bl _, .tup t2 _, _, h => by cases (show some _ = some _ from h); exact SeqAt.RcNeAt.bool_tuple _ t2 hu
  | _, _, _, _, _, .bl _, .lst t2 _, _, h => by cases (show some _ = some _ from h); exact SeqAt.RcNeAt.bool_list _ t2 hu
  | _, _, _, _, _, .int _ _, .non, _, h => by cases (show some _ = some _ from h); exact SeqAt.RcNeAt.int_none _ _
  | _, _, _, _, _, .int _ _, .bl _, _, h => by cases (show some _ = some _ from h); exact SeqAt.RcNeAt.int_bool _ _ _
  | _, _, _, _, _, .int _ _, .int _ _, _, h => by cases (show some _ = some _ from h); exact SeqAt.RcNeAt.int_int _ _ _ _
  | _, _, _, _, _, .int _ _, .str _ _, _, h => by cases (show some _ = some _ from h); exact SeqAt.RcNeAt.int_str _ _ _ _
  | _, _, _, _, _, .int _ _, .tup t2 _, _, h => by cases (show some _ = some _ from h); exact SeqAt.RcNeAt.int_tuple _ _ t2 hu
  | _, _, _, _, _, .int _ _, .lst t2 _, _, h => by cases (show some _ = some _ from h); exact SeqAt.RcNeAt.int_list _ _ t2 hu
  | _, _, _, _, _, .str _ _, .non, _, h => by cases (show some _ = some _ from h); exact SeqAt.RcNeAt.str_none _ _
  | _, _, _, _, _, .str _ _, .bl _, _, h => by cases (show some _ = some _ from h); exact SeqAt.RcNeAt.str_bool _ _ _
  | _, _, _, _, _, .str _ _, .int _ _, _, h => by cases (show some _ = some _ from h); exact SeqAt.RcNeAt.str_int _ _ _ _
  | _, _, _, _, _, .str _ _, .str _ _, _, h => by cases (show some _ = some _ from h); exact SeqAt.RcNeAt.str_str _ _ _ _
  | _, _, _, _, _, .str _ _, .tup t2 _, _, h => by cases (show some _ = some _ from h); exact SeqAt.RcNeAt.str_tuple _ _ t2 hu
  | _, _, _, _, _, .str _ _, .lst t2 _, _, h => by cases (show some _ = some _ from h); exact SeqAt.RcNeAt.str_list _ _ t2 hu
  | _, _, _, _, _, .tup t1 _, .non, _, h => by cases (show some _ = some _ from h); exact SeqAt.RcNeAt.tuple_none t1 hu
  | _, _, _, _, _, .tup t1 _, .bl _, _, h => by cases (show some _ = some _ from h); exact SeqAt.RcNeAt.tuple_bool _ t1 hu
  | _, _, _, _, _, .tup t1 _, .int _ _, _, h => by cases (show some _ = some _ from h); exact SeqAt.RcNeAt.tuple_int _ _ t1 hu
  | _, _, _, _, _, .tup t1 _, .str _ _, _, h => by cases (show some _ = some _ from h); exact SeqAt.RcNeAt.tuple_str _ _ t1 hu
  | _, _, _, _, _, .tup t1 _, .lst t2 _, _, h => by cases (show some _ = some _ from h); exact SeqAt.RcNeAt.tuple_list t1 t2 hu
  | _, _, _, _, _, .lst t1 _, .non, _, h => by cases (show some _ = some _ from h); exact SeqAt.RcNeAt.list_none t1 hu
  | _, _, _, _, _, .lst t1 _, .bl _, _, h => by cases (show some _ = some _ from h); exact SeqAt.RcNeAt.list_bool _ t1 hu
  | _, _, _, _, _, .lst t1 _, .int _ _, _, h => by cases (show some _ = some _ from h); exact SeqAt.RcNeAt.list_int _ _ t1 hu
  | _, _, _, _, _, .lst t1 _, .str _ _, _, h => by cases (show some _ = some _ from h); exact SeqAt.RcNeAt.list_str _ _ t1 hu
  | _, _, _, _, _, .lst t1 _, .tup t2 _, _, h => by cases (show some _ = some _ from h); exact SeqAt.RcNeAt.list_tuple t1 t2 hu
  | _, _, _, _, _, .tup _ _, .tup _ _, h, _ => by cases h
  | _, _, _, _, _, .lst _ _, .lst _ _, h, _ => by cases h
  | _, _, _, _, _, .opq o, _, _, h => by rw [eqD_opaqL o] at h; cases h
  | _, _, _, _, _, _, .opq o, _, h => by rw [eqD_opaqR o] at h; cases h

theorem isTup_inj {h : Heap} {a : Addr} {xs ys : List Value} (p : h.IsTuple a xs.toArray) (q : h.IsTuple a ys.toArray) : xs = ys := by
  obtain ⟨o, e, _, n, d⟩ := p
  obtain ⟨o', e', _, n', d'⟩ := q
  rw [e] at e'
  cases e'
  rw [d] at d'
  injection d' with d1 _
  simpa using congrArg Array.toList d1
theorem isList_inj {h : Heap} {a : Addr} {xs ys : List Value} (p : h.IsList a xs.toArray) (q : h.IsList a ys.toArray) : xs = ys := by
  obtain ⟨o, e, _, n, d⟩ := p
  obtain ⟨o', e', _, n', d'⟩ := q
  rw [e] at e'
  cases e'
  rw [d] at d'
  injection d' with d1 _
  simpa using congrArg Array.toList d1
theorem list_not_tup {h : Heap} {a : Addr} {xs ys : Array Value} (p : h.IsList a xs) (q : h.IsTuple a ys) : False := by
  obtain ⟨o, e, c, _⟩ := p
  obtain ⟨o', e', c', _⟩ := q
  rw [e] at e'
  cases e'
  rw [c] at c'
  exact absurd c' (by decide)
mutual
theorem Lk.same {h : Heap} : ∀ {d e : Dat} {u : Value} {b : Bool}, Lk h d u → Lk h e u → eqD d e = some b → b = true
  | _, _, _, _, .opq o, _, z => by rw [eqD_opaqL o] at z; cases z
  | _, _, _, _, _, .opq o, z => by rw [eqD_opaqR o] at z; cases z
  | _, _, _, _, .non, .non, z => by cases z; rfl
  | _, _, _, _, .bl b, .bl _, z => by cases (show some (b == b) = some _ from z); simp
  | _, _, _, _, .int i t, .int _ _, z => by cases (show some (i == i) = some _ from z); simp
  | _, _, _, _, .str x t, .str _ _, z => by cases (show some (x == x) = some _ from z); simp
  | _, _, _, _, .tup p1 p2, .tup q1 q2, z => by
    obtain rfl := isTup_inj p1 q1
    exact LkL.same p2 q2 z
  | _, _, _, _, .lst (ds := ds) p1 p2, .lst (ds := es) q1 q2, z => by
    obtain rfl := isList_inj p1 q1
    have z' : (if ds.length = es.length then eqL ds es else some false) = some _ := z
    rw [if_pos (p2.length.trans q2.length.symm)] at z'
    exact LkL.same p2 q2 z'
  | _, _, _, _, .tup p1 p2, .lst q1 q2, _ => (list_not_tup q1 p1).elim
  | _, _, _, _, .lst p1 p2, .tup q1 q2, _ => (list_not_tup p1 q1).elim
theorem LkL.same {h : Heap} : ∀ {ds es : List Dat} {us : List Value} {b : Bool}, LkL h ds us → LkL h es us → eqL ds es = some b → b = true
  | _, _, _, _, .nil, .nil, z => by cases z; rfl
  | _, _, _, b, .cons (d := d) (ds := ds) p1 p2, .cons (d := e) (ds := es) q1 q2, z => by
    unfold eqL at z
    cases e1 : eqD d e with
    | none => rw [e1] at z; cases z
    | some x =>
      rw [e1] at z
      cases e2 : eqL ds es with
      | none => rw [e2] at z; cases z
      | some y =>
        rw [e2] at z
        have z' : some (x && y) = some b := z
        cases z'
        rw [Lk.same p1 q1 e1, LkL.same p2 q2 e2]
        rfl
end
mutual
theorem Lk.uniq {h : Heap} : ∀ {d e x : Dat} {u : Value} {b c : Bool}, Lk h d u → Lk h e u → eqD d x = some b → eqD e x = some c → b = c
  | _, _, _, _, _, _, .opq o, _, z, _ => by rw [eqD_opaqL o] at z; cases z
  | _, _, _, _, _, _, _, .opq o, _, z => by rw [eqD_opaqL o] at z; cases z
  | _, _, _, _, _, _, .non, .non, z, w => by rw [z] at w; exact Option.some.inj w
  | _, _, _, _, _, _, .bl b, .bl _, z, w => by rw [z] at w; exact Option.some.inj w
  | _, _, _, _, _, _, .int i t, .int _ _, z, w => by rw [z] at w; exact Option.some.inj w
  | _, _, _, _, _, _, .str x t, .str _ _, z, w => by rw [z] at w; exact Option.some.inj w
  | _, _, x, _, _, _, .tup p1 p2, .tup q1 q2, z, w => by
    obtain rfl := isTup_inj p1 q1
    cases x with
    | tup xs => exact LkL.uniq p2 q2 z w
    | non => exact Option.some.inj ((show some false = some _ from z).symm.trans w)
    | bl _ => exact Option.some.inj ((show some false = some _ from z).symm.trans w)
    | int _ => exact Option.some.inj ((show some false = some _ from z).symm.trans w)
    | str _ => exact Option.some.inj ((show some false = some _ from z).symm.trans w)
    | lst _ => exact Option.some.inj ((show some false = some _ from z).symm.trans w)
    | _ => cases z
  | _, _, x, _, _, _, .lst (ds := ds) p1 p2, .lst (ds := es) q1 q2, z, w => by
    obtain rfl := isList_inj p1 q1
    cases x with
    | lst xs =>
      have z' : (if ds.length = xs.length then eqL ds xs else some false) = some _ := z
      have w' : (if es.length = xs.length then eqL es xs else some false) = some _ := w
      have l : ds.length = es.length := p2.length.trans q2.length.symm
      by_cases hl : ds.length = xs.length
      · rw [if_pos hl] at z'
        rw [if_pos (l ▸ hl)] at w'
        exact LkL.uniq p2 q2 z' w'
      · rw [if_neg hl] at z'
        rw [if_neg (l ▸ hl)] at w'
        exact Option.some.inj (z'.symm.trans w')
    | non => exact Option.some.inj ((show some false = some _ from z).symm.trans w)
    | bl _ => exact Option.some.inj ((show some false = some _ from z).symm.trans w)
    | int _ => exact Option.some.inj ((show some false = some _ from z).symm.trans w)
    | str _ => exact Option.some.inj ((show some false = some _ from z).symm.trans w)
    | tup _ => exact Option.some.inj ((show some false = some _ from z).symm.trans w)
    | _ => cases z
  | _, _, _, _, _, _, .tup p1 p2, .lst q1 q2, _, _ => (list_not_tup q1 p1).elim
  | _, _, _, _, _, _, .lst p1 p2, .tup q1 q2, _, _ => (list_not_tup p1 q1).elim
theorem LkL.uniq {h : Heap} : ∀ {ds es xs : List Dat} {us : List Value} {b c : Bool}, LkL h ds us → LkL h es us → eqL ds xs = some b → eqL es xs = some c → b = c
  | _, _, xs, _, _, _, .nil, .nil, z, w => by rw [z] at w; exact Option.some.inj w
  | _, _, [], _, _, _, .cons _ _, .cons _ _, z, w => by cases z; cases w; rfl
  | _, _, x :: xs, _, b, c, .cons (d := d) (ds := ds) p1 p2, .cons (d := e) (ds := es) q1 q2, z, w => by
    unfold eqL at z w
    cases e1 : eqD d x with
    | none => rw [e1] at z; cases z
    | some b1 =>
      rw [e1] at z
      cases e2 : eqL ds xs with
      | none => rw [e2] at z; cases z
      | some b2 =>
        rw [e2] at z
        cases f1 : eqD e x with
        | none => rw [f1] at w; cases w
        | some c1 =>
          rw [f1] at w
          cases f2 : eqL es xs with
          | none => rw [f2] at w; cases w
          | some c2 =>
            rw [f2] at w
            have z' : some (b1 && b2) = some b := z
            have w' : some (c1 && c2) = some c := w
            cases z'
            cases w'
            rw [Lk.uniq p1 q1 e1 f1, LkL.uniq p2 q2 e2 f2]
end
theorem range_all_succ (n : Nat) (e : Nat → Bool) : (List.range (n + 1)).all e = (e 0 && (List.range n).all fun i => e (i + 1)) := by
  rw [List.range_succ_eq_map, List.all_cons, List.all_map]
  rfl
mutual
theorem eqD_at {s : Shared} : ∀ (n : Nat) {d e : Dat} {u v : Value} {b : Bool} {A : Around}, Lk s.heap d u → Lk s.heap e v → depD d ≤ n → A.units + n < cLine → eqD d e = some b → SeqAt.EqAt A s u v b
  | n, d, e, u, v, b, A, p, q, hd, hu, h => by
    by_cases hm : mix d e = true
    · exact eqAt_mix (by omega) p q hm h
    · cases p with
      | tup p1 p2 =>
        cases q with
        | tup q1 q2 =>
          rename_i a xs ds a' ys es
          by_cases ha : a = a'
          · subst ha
            rw [Lk.same (Lk.tup p1 p2) (.tup q1 q2) h]
            exact SeqAt.EqAt.same _
          · cases n with
            | zero =>
              unfold depD at hd
              omega
            | succ n =>
              obtain ⟨ev, he, eb⟩ := eqL_at n (A := A.in1) p2 q2 (by unfold depD at hd; omega) (by show A.units + 1 + n < cLine; omega) h
              have z := SeqAt.RcAt.tuples (e := ev) p1 q1 (show A.units < cLine by omega) (fun j h1 h2 => by simpa using he j (by simpa using h1) (by simpa using h2))
              rw [eb]
              simpa using SeqAt.EqAt.of_refs ha z
        | opq o =>
          rw [eqD_opaqR o] at h
          cases h
        | _ => exact absurd rfl hm
      | lst p1 p2 =>
        cases q with
        | lst q1 q2 =>
          rename_i a xs ds a' ys es
          by_cases ha : a = a'
          · subst ha
            rw [Lk.same (Lk.lst p1 p2) (.lst q1 q2) h]
            exact SeqAt.EqAt.same _
          · cases n with
            | zero =>
              unfold depD at hd
              omega
            | succ n =>
              have l1 := p2.length
              have l2 := q2.length
              have h' : (if ds.length = es.length then eqL ds es else some false) = some b := h
              by_cases hl : ds.length = es.length
              · rw [if_pos hl] at h'
                obtain ⟨ev, he, eb⟩ := eqL_at n (A := A.in1) p2 q2 (by unfold depD at hd; omega) (by show A.units + 1 + n < cLine; omega) h'
                have z := SeqAt.RcAt.lists (e := ev) p1 q1 (by simp; omega) (show A.units < cLine by omega) (fun j h1 h2 => by simpa using he j (by simpa using h1) (by simpa using h2))
                have e3 : xs.length = ys.length := by omega
                have eb' : b = (List.range xs.length).all ev := by
                  rw [eb, ← e3, Nat.min_self]
                  simp
                rw [eb']
                simpa using SeqAt.EqAt.of_refs ha z
              · rw [if_neg hl] at h'
                cases h'
                exact SeqAt.EqAt.of_refs ha (SeqAt.RcAt.lists_lengths p1 q1 (by simp; omega) (by omega))
        | opq o =>
          rw [eqD_opaqR o] at h
          cases h
        | _ => exact absurd rfl hm
      | opq o =>
        rw [eqD_opaqL o] at h
        cases h
      | _ => exact absurd rfl hm
theorem eqL_at {s : Shared} : ∀ (n : Nat) {ds es : List Dat} {us vs : List Value} {b : Bool} {A : Around}, LkL s.heap ds us → LkL s.heap es vs → depL ds ≤ n → A.units + n < cLine → eqL ds es = some b →
    ∃ e : Nat → Bool, (∀ (j : Nat) (h1 : j < us.length) (h2 : j < vs.length), SeqAt.EqAt A s us[j] vs[j] (e j)) ∧ b = ((List.range (min us.length vs.length)).all e && us.length == vs.length)
  | n, _, _, _, _, b, A, .nil, .nil, _, _, h => ⟨fun _ => true, fun j h1 _ => absurd h1 (by simp), by cases h; rfl⟩
  | n, _, _, _, _, b, A, .nil, .cons _ _, _, _, h => ⟨fun _ => true, fun j h1 _ => absurd h1 (by simp), by cases h; simp⟩
  | n, _, _, _, _, b, A, .cons _ _, .nil, _, _, h => ⟨fun _ => true, fun j _ h2 => absurd h2 (by simp), by cases h; simp⟩
  | n, _, _, _, _, b, A, .cons (d := d) (ds := ds) (us := us) p1 p2, .cons (d := e) (ds := es) (us := vs) q1 q2, hd, hu, h => by
    unfold eqL at h
    unfold depL at hd
    cases e1 : eqD d e with
    | none => rw [e1] at h; cases h
    | some x =>
      rw [e1] at h
      cases e2 : eqL ds es with
      | none => rw [e2] at h; cases h
      | some y =>
        rw [e2] at h
        have h' : some (x && y) = some b := h
        cases h'
        obtain ⟨ev, he, ey⟩ := eqL_at n (A := A) p2 q2 (by omega) hu e2
        have z := eqD_at n (A := A) p1 q1 (by omega) hu e1
        refine ⟨fun j => match j with
          | 0 => x
          | j + 1 => ev j, fun j h1 h2 => ?_, ?_⟩
        · cases j with
          | zero => exact z
          | succ j => simpa using he j (by simpa using h1) (by simpa using h2)
        · rw [ey, List.length_cons, List.length_cons, show min (us.length + 1) (vs.length + 1) = min us.length vs.length + 1 by omega, range_all_succ]
          simp [Bool.and_assoc]
end
/-- == at the top -/
theorem eqD_rc {s : Shared} (n : Nat) {d e : Dat} {u v : Value} {b : Bool} {A : Around} (p : Lk s.heap d u) (q : Lk s.heap e v) (hd : depD d ≤ n) (hu : A.units + n < cLine) (h : eqD d e = some b) : SeqAt.RcAt A s u v b ∧ SeqAt.RcNeAt A s u v (!b) := by
  by_cases hm : mix d e = true
  · exact ⟨rcAt_mix (by omega) p q hm h, neAt_mix (by omega) p q hm h⟩
  · cases p with
    | tup p1 p2 =>
      cases q with
      | tup q1 q2 =>
        rename_i a xs ds a' ys es
        cases n with
        | zero =>
          unfold depD at hd
          omega
        | succ n =>
          obtain ⟨ev, he, eb⟩ := eqL_at n (A := A.in1) p2 q2 (by unfold depD at hd; omega) (by show A.units + 1 + n < cLine; omega) h
          have he' : ∀ (j : Nat) (h1 : j < xs.toArray.size) (h2 : j < ys.toArray.size), SeqAt.EqAt A.in1 s xs.toArray[j] ys.toArray[j] (ev j) := fun j h1 h2 => by simpa using he j (by simpa using h1) (by simpa using h2)
          have z := SeqAt.RcAt.tuples (e := ev) p1 q1 (show A.units < cLine by omega) he'
          have z2 := SeqAt.RcNeAt.tuples (e := ev) p1 q1 (show A.units < cLine by omega) he'
          rw [eb]
          exact ⟨by simpa using z, by simpa using z2⟩
      | opq o =>
        rw [eqD_opaqR o] at h
        cases h
      | _ => exact absurd rfl hm
    | lst p1 p2 =>
      cases q with
      | lst q1 q2 =>
        rename_i a xs ds a' ys es
        cases n with
        | zero =>
          unfold depD at hd
          omega
        | succ n =>
          have l1 := p2.length
          have l2 := q2.length
          have h' : (if ds.length = es.length then eqL ds es else some false) = some b := h
          by_cases hl : ds.length = es.length
          · rw [if_pos hl] at h'
            obtain ⟨ev, he, eb⟩ := eqL_at n (A := A.in1) p2 q2 (by unfold depD at hd; omega) (by show A.units + 1 + n < cLine; omega) h'
            have he' : ∀ (j : Nat) (h1 : j < xs.toArray.size) (h2 : j < ys.toArray.size), SeqAt.EqAt A.in1 s xs.toArray[j] ys.toArray[j] (ev j) := fun j h1 h2 => by simpa using he j (by simpa using h1) (by simpa using h2)
            have z := SeqAt.RcAt.lists (e := ev) p1 q1 (by simp; omega) (show A.units < cLine by omega) he'
            have z2 := SeqAt.RcNeAt.lists (e := ev) p1 q1 (by simp; omega) (show A.units < cLine by omega) he'
            have e3 : xs.length = ys.length := by omega
            have eb' : b = (List.range xs.length).all ev := by
              rw [eb, ← e3, Nat.min_self]
              simp
            rw [eb']
            exact ⟨by simpa using z, by simpa using z2⟩
          · rw [if_neg hl] at h'
            cases h'
            exact ⟨SeqAt.RcAt.lists_lengths p1 q1 (by simp; omega) (by omega), SeqAt.RcNeAt.lists_lengths p1 q1 (by simp; omega) (by omega)⟩
      | opq o =>
        rw [eqD_opaqR o] at h
        cases h
      | _ => exact absurd rfl hm
    | opq o =>
      rw [eqD_opaqL o] at h
      cases h
    | _ => exact absurd rfl hm
/-- x in items: the answers read off the values -/
theorem inL_at {s : Shared} (n : Nat) {x : Dat} {v : Value} {A : Around} (p : Lk s.heap x v) (hu : A.units + n < cLine) : ∀ {ds : List Dat} {us : List Value} {b : Bool}, LkL s.heap ds us → depL ds ≤ n → inL x ds = some b →
    ∃ e : Value → Bool, (∀ y, y ∈ us → SeqAt.EqAt A s y v (e y)) ∧ us.any e = b := by
  classical
  intro ds us b q hd h
  -- the answer of a value: of the datum that it is
  let e : Value → Bool := fun y => if c : ∃ d, Lk s.heap d y ∧ eqD d x = some true then true else false
  have key : ∀ {ds : List Dat} {us : List Value} {b : Bool}, LkL s.heap ds us → depL ds ≤ n → inL x ds = some b → (∀ y, y ∈ us → SeqAt.EqAt A s y v (e y)) ∧ us.any e = b := by
    intro ds
    induction ds with
    | nil =>
      intro us b q _ h
      cases q
      cases h
      exact ⟨fun y hy => by simp at hy, rfl⟩
    | cons d r ih =>
      intro us b q hd h
      cases q with
      | cons q1 q2 =>
        rename_i u us
        unfold depL at hd
        unfold inL at h
        cases e1 : eqD d x with
        | none => rw [e1] at h; cases h
        | some k1 =>
          rw [e1] at h
          cases e2 : inL x r with
          | none => rw [e2] at h; cases h
          | some k2 =>
            rw [e2] at h
            have h' : some (k1 || k2) = some b := h
            cases h'
            obtain ⟨i1, i2⟩ := ih q2 (by omega) e2
            have eu : e u = k1 := by
              show (if c : ∃ d, Lk s.heap d u ∧ eqD d x = some true then true else false) = k1
              split
              · rename_i c
                obtain ⟨d', c1, c2⟩ := c
                exact c1.uniq q1 c2 e1
              · rename_i c
                cases k1 with
                | false => rfl
                | true => exact absurd ⟨d, q1, e1⟩ c
            refine ⟨fun y hy => ?_, ?_⟩
            · rcases List.mem_cons.mp hy with rfl | hy
              · rw [eu]
                exact eqD_at n q1 p (by omega) hu e1
              · exact i1 y hy
            · rw [List.any_cons, i2, eu]
  exact ⟨e, key q hd h⟩
/- from the ghost -/
section
variable {W : Wd} {X : Cx} {pins : List (Addr × Obj)} {σ σ' : L2.St} {H : Hp} {s : Shared} {g : Gh} {P : Hp} {st : Stt} (hK : X.K = W.K) (I : L2.Inv X pins σ H s) (r : Rel W g P st σ' H)
include hK I r
mutual
theorem R.lk : ∀ {d : Dat} {v : V} {u : Value}, R W g d v → RelV v u → Lk s.heap d u
  | _, _, _, .non, q => by cases q; exact .non
  | _, _, _, .bl b, q => by cases q; exact .bl b
  | _, _, _, .int i, q => by obtain ⟨t, rfl⟩ := q; exact .int i t
  | _, _, _, .str x, q => by obtain ⟨t, rfl⟩ := q; exact .str x t
  | _, _, _, .tup p1 p2, q => by
    cases q
    have p1' := sqT_mono r.fz p1.sq
    rw [← hK] at p1'
    obtain ⟨its, rv, ht, _⟩ := I.tuple p1'
    exact .tup ht (Rs.lk p2 rv)
  | _, _, _, .lst p1 p2, q => by
    cases q
    obtain ⟨its, rv, ht, _⟩ := I.list (SqL.of (r.fz _ _ p1))
    exact .lst ht.isList (Rs.lk p2 rv)
  | _, _, _, .dct _ _, _ => .opq rfl
  | _, _, _, .obj _ _, _ => .opq rfl
  | _, _, _, .ref _, _ => .opq rfl
  | _, _, _, .fn _, _ => .opq rfl
  | _, _, _, .cls _, _ => .opq rfl
  | _, _, _, .ty _, _ => .opq rfl
  | _, _, _, .scr _ _, _ => .opq rfl
  | _, _, _, .tpl _ _, _ => .opq rfl
  | _, _, _, .err _ _ _, _ => .opq rfl
theorem Rs.lk : ∀ {ds : List Dat} {vs : List V} {us : List Value}, Rs W g ds vs → Vals vs us → LkL s.heap ds us
  | _, _, _, .nil, q => by cases q; exact .nil
  | _, _, _, .cons p1 p2, q => by
    cases q with
    | cons q1 q2 => exact .cons (R.lk p1 q1) (Rs.lk p2 q2)
end
end
end En
set_option maxHeartbeats 4000000
/-! En6: comparisons. -/
namespace En
open PySem PySem.Spec PyProof.Rows L2
def COp.py : COp → CmpOp
  | .eq => .Eq
  | .ne => .NotEq
  | .lt => .Lt
  | .le => .LtE
  | .gt => .Gt
  | .ge => .GtE
  | .isin => .In
  | .notin => .NotIn
  | .is => .Is
  | .isnot => .IsNot
section
variable {W : Wd} {wx : WX}
/-- a comparison's answer by values -/
def cmpK (op : COp) (x y : Rv) : Ac Rv := (lookA x).bind fun w => (lookA y).bind fun w' => Ac.opt ((w.cmp op w').map fun b => .val (.bl b))
section
variable {X : Cx} {pins : List (Addr × Obj)} {σ σ' : L2.St} {H : Hp} {s : Shared} {g : Gh} {P : Hp} {st : Stt}
theorem VwR.lk (hK : X.K = W.K) (I : L2.Inv X pins σ H s) (r : Rel W g P st σ' H) {w : Vw} {v : V} {u : Value} {d : Dat} (q : VwR W g H w v) (rv : RelV v u) (e : w.dat = some d) : Lk s.heap d u := by
  cases w with
  | dt d' =>
    cases e
    exact R.lk hK I r q rv
  | mb o =>
    cases o <;> first | cases e | skip
    obtain ⟨a, ho, rfl, h1, h2⟩ := q
    cases ho <;> first | exact False.elim h2 | skip
    cases rv
    obtain ⟨its, rv, ht, _⟩ := I.list (SqL.of h1)
    exact .lst ht.isList (Rs.lk hK I r h2 rv)
theorem Rk.val {ds : List (Key × Dat)} {vs : List (Key × V)} (h : Rk W g ds vs) (k : Key) : (∀ d, getK ds k = some d → ∃ v, valV vs k = some v ∧ R W g d v) ∧ (getK ds k = none → valV vs k = none) := by
  induction ds generalizing vs with
  | nil =>
    cases h
    exact ⟨fun d e => by simp [getK] at e, fun _ => rfl⟩
  | cons p ds ih =>
    cases h with
    | cons r t =>
      rename_i k' d v vs
      by_cases e : k' = k
      · subst e
        refine ⟨fun d' h' => ?_, fun h' => ?_⟩
        · have h2 : some d = some d' := by simpa [getK, List.find?_cons] using h'
          cases h2
          exact ⟨v, valV_pos rfl, r⟩
        · exfalso
          simp [getK, List.find?_cons] at h'
      · obtain ⟨i1, i2⟩ := ih t
        refine ⟨fun d' h' => ?_, fun h' => ?_⟩
        · have h2 : getK ds k = some d' := by simpa [getK, List.find?_cons, e] using h'
          obtain ⟨v', e1, e2⟩ := i1 d' h2
          exact ⟨v', by rw [valV_neg e]; exact e1, e2⟩
        · have h2 : getK ds k = none := by simpa [getK, List.find?_cons, e] using h'
          rw [valV_neg e]
          exact i2 h2
theorem Rk.some_eq {ds : List (Key × Dat)} {vs : List (Key × V)} (h : Rk W g ds vs) (k : Key) : (valV vs k).isSome = (getK ds k).isSome := by
  obtain ⟨h1, h2⟩ := h.val k
  cases e : getK ds k with
  | none => rw [h2 e] <;> rfl
  | some d =>
    obtain ⟨v, e2, _⟩ := h1 d e
    rw [e2] <;> rfl
/-- x in y, not in -/
theorem isin_ok (hK : X.K = W.K) (hu : X.A.units + 64 < cLine) (I : L2.Inv X pins σ H s) (r : Rel W g P st σ' H) {w w' : Vw} {x y : V} {v u : Value} {b : Bool} (qx : VwR W g H w x) (qy : VwR W g H w' y) (rx : RelV x v) (ry : RelV y u) (e : w'.isin w = some b) {Q : VK} :
    (Q (.bl b) H → wpAny (model X.prog X.w) X.A (compareOp .In v u) (EP X pins σ Q) X.xe s) ∧ (Q (.bl (!b)) H → wpAny (model X.prog X.w) X.A (compareOp .NotIn v u) (EP X pins σ Q) X.xe s) := by
  have dct : ∀ {kvs : List (Key × Dat)} {k : Key}, w'.dct = some kvs → x = kV k → b = (getK kvs k).isSome → (Q (.bl b) H → wpAny (model X.prog X.w) X.A (compareOp .In v u) (EP X pins σ Q) X.xe s) ∧ (Q (.bl (!b)) H → wpAny (model X.prog X.w) X.A (compareOp .NotIn v u) (EP X pins σ Q) X.xe s) := by
    intro kvs k h1 h2 h3
    subst h2
    obtain ⟨a, vs, rfl, e2, e3⟩ := qy.dct r h1
    cases ry
    have gt := DGet.k (k := k) e2
    rw [h3, ← e3.some_eq k]
    exact ⟨fun q => d_in (by omega) I gt rx fun s' I' => ⟨.bl _, H, I', rfl, q⟩, fun q => d_notIn (by omega) I gt rx fun s' I' => ⟨.bl _, H, I', rfl, q⟩⟩
  unfold Vw.isin at e
  split at e
  · rename_i xs d hs
    split at e
    · rename_i hd
      have lx := VwR.lk hK I r qx rx (d := d) rfl
      unfold Vw.seq at hs
      split at hs
      · rename_i xs' hl
        cases hs
        obtain ⟨a, vs, rfl, e2, e3⟩ := qy.lst r hl
        cases ry
        obtain ⟨its, rv, ht, _⟩ := I.list (SqL.of e2)
        obtain ⟨ev, h1, h2⟩ := inL_at (A := X.A.in1) 60 lx (by show X.A.units + 1 + 60 < cLine; omega) (Rs.lk hK I r e3 rv) hd e
        exact ⟨fun q => SeqAt.in_listAt ev ht.isList (fun y hy => h1 y (by simpa using hy)) ⟨.bl b, H, I, by simp [L2.RelV, h2], q⟩, fun q => SeqAt.notIn_listAt ev ht.isList (fun y hy => h1 y (by simpa using hy)) ⟨.bl (!b), H, I, by simp [L2.RelV, h2], q⟩⟩
      · rename_i hl
        obtain ⟨a, vs, rfl, e2, e3⟩ := qy.tup r hs
        rw [← hK] at e2
        cases ry
        obtain ⟨its, rv, ht, _⟩ := I.tuple e2
        obtain ⟨ev, h1, h2⟩ := inL_at (A := X.A.in1) 60 lx (by show X.A.units + 1 + 60 < cLine; omega) (Rs.lk hK I r e3 rv) hd e
        exact ⟨fun q => SeqAt.in_tupleAt ev ht (fun y hy => h1 y (by simpa using hy)) ⟨.bl b, H, I, by simp [L2.RelV, h2], q⟩, fun q => SeqAt.notIn_tupleAt ev ht (fun y hy => h1 y (by simpa using hy)) ⟨.bl (!b), H, I, by simp [L2.RelV, h2], q⟩⟩
    · cases e
  · rename_i c hs
    obtain rfl := R.strE qx
    split at e
    · rename_i z
      obtain rfl := R.strE qy
      split at e
      · rename_i k hc
        cases e
        have ec : c = ⟨#[k]⟩ := by
          cases c with
          | mk cps =>
            have : cps = #[k] := by
              apply Array.toList_inj.mp
              simpa using hc
            rw [this]
        subst ec
        exact ⟨fun q => op_in_sign pins s σ H _ _ v u Q I rx ry ⟨k, z, rfl, rfl, q⟩, fun q => op_notIn_sign pins s σ H _ _ v u Q I rx ry ⟨k, z, rfl, rfl, q⟩⟩
      · cases e
    · split at e
      · rename_i kvs hk
        cases e
        exact dct (k := .inr c) hk rfl rfl
      · cases e
  · rename_i i hs
    obtain rfl := R.intE qx
    split at e
    · rename_i kvs hk
      cases e
      exact dct (k := .inl i) hk rfl rfl
    · cases e
  · cases e
end
theorem isNon_ok {g : Gh} {H : Hp} {w : Vw} {v : V} (q : VwR W g H w v) : decide (v = .non) = w.isNon := by
  cases w with
  | dt d =>
    have q' : R W g d v := q
    cases q' <;> rfl
  | mb o =>
    obtain ⟨a, ho, rfl, _⟩ := q
    rfl
/-- a op b, by values -/
def rCmp (W : Wd) (wx : WX) (op : COp) : R2 := fun v u H Q => ∃ σ, fin2 W wx rvK rvK rvK (cmpK op) σ v u H Q
theorem op_cmp {X : Cx} (hK : X.K = W.K) (hu : X.A.units + 64 < cLine) (op : COp) : OpR X (compareOp op.py) (rCmp W wx op) := by
  intro pins s σ H x y v u Q I rx ry h
  obtain ⟨σ', g, P, st, a, b, r, ra, rb, p1⟩ := h
  obtain ⟨w, e1, p2⟩ := Post.lookE p1
  obtain ⟨w', e2, p3⟩ := Post.lookE p2
  obtain ⟨rv, e3, p⟩ := Post.optE p3
  clear p1 p2 p3
  have q1 := look_ok r ra e1
  have q2 := look_ok r rb e2
  cases e4 : w.cmp op w' with
  | none =>
    rw [e4] at e3
    cases e3
  | some k =>
    rw [e4] at e3
    have e3' : some (Rv.val (.bl k)) = some rv := e3
    cases e3'
    have q : Q (.bl k) H := p g H (.refl g) r _ (R.bl k)
    clear e1 e2 e3 p
    have eq : ∀ {k}, w.eq w' = some k → SeqAt.RcAt X.A s v u k ∧ SeqAt.RcNeAt X.A s v u (!k) := fun {k} h => by
      unfold Vw.eq at h
      split at h
      · rename_i d e h1 h2
        split at h
        · exact eqD_rc 60 (VwR.lk hK I r q1 rx h1) (VwR.lk hK I r q2 ry h2) (by assumption) (by omega) h
        · cases h
      · cases h
    have fin : ∀ {k' : Bool}, k' = k → EP X pins σ Q (.bool k') s := fun e => ⟨.bl k, H, I, by rw [e]; rfl, q⟩
    unfold Vw.cmp at e4
    split at e4
    · exact (eq e4).1 _ _ _ _ (fin rfl)
    · cases e5 : w.eq w' with
      | none =>
        rw [e5] at e4
        cases e4
      | some k' =>
        rw [e5] at e4
        have e4' : some (!k') = some k := e4
        cases e4'
        exact (eq e5).2 _ _ _ _ (fin rfl)
    · obtain rfl := R.intE q1; obtain rfl := R.intE q2; cases e4
      exact op_lt pins s σ H _ _ v u Q I rx ry ⟨_, _, rfl, rfl, q⟩
    · obtain rfl := R.intE q1; obtain rfl := R.intE q2; cases e4
      exact op_le pins s σ H _ _ v u Q I rx ry ⟨_, _, rfl, rfl, q⟩
    · obtain rfl := R.intE q1; obtain rfl := R.intE q2; cases e4
      exact op_gt pins s σ H _ _ v u Q I rx ry ⟨_, _, rfl, rfl, q⟩
    · obtain rfl := R.intE q1; obtain rfl := R.intE q2; cases e4
      exact op_ge pins s σ H _ _ v u Q I rx ry ⟨_, _, rfl, rfl, q⟩
    · obtain rfl := R.strE q1; obtain rfl := R.strE q2; cases e4
      exact op_lt_str pins s σ H _ _ v u Q I rx ry ⟨_, _, rfl, rfl, q⟩
    · obtain rfl := R.strE q1; obtain rfl := R.strE q2; cases e4
      exact op_le_str pins s σ H _ _ v u Q I rx ry ⟨_, _, rfl, rfl, q⟩
    · exact (isin_ok hK hu I r q1 q2 rx ry e4).1 q
    · cases e5 : w'.isin w with
      | none =>
        rw [e5] at e4
        cases e4
      | some k' =>
        rw [e5] at e4
        have e4' : some (!k') = some k := e4
        cases e4'
        exact (isin_ok hK hu I r q1 q2 rx ry e5).2 q
    · obtain rfl := R.blE q1; obtain rfl := R.blE q2; cases e4
      exact op_isBl pins s σ H _ _ v u Q I rx ry ⟨_, _, rfl, rfl, q⟩
    · obtain rfl := R.nonE q2
      have z := isNon_ok q1
      cases e4
      rw [← z] at q
      exact op_isN pins s σ H _ _ v u Q I rx ry ⟨rfl, q⟩
    · obtain rfl := R.blE q1; obtain rfl := R.blE q2; cases e4
      exact op_notBl pins s σ H _ _ v u Q I rx ry ⟨_, _, rfl, rfl, q⟩
    · obtain rfl := R.nonE q2
      have z := isNon_ok q1
      cases e4
      rw [← z] at q
      exact op_notN pins s σ H _ _ v u Q I rx ry ⟨rfl, q⟩
    · cases e4
end
end En
set_option maxHeartbeats 4000000
/-! En7: expressions, construct by construct. -/
namespace En
open PySem PySem.Spec PyProof.Rows L2
section
variable {W : Wd} {wx : WX} {X : Cx}
/-- the expression does what the action does -/
abbrev SE (W : Wd) (wx : WX) (X : Cx) (m : Ac Rv) (e : Expr) : Prop := PE X e (tX W wx rvK m)
abbrev ST (W : Wd) (wx : WX) (X : Cx) (m : Ac Bool) (e : Expr) : Prop := PT X e (tX W wx (eqK Bool) m)
abbrev SA (W : Wd) (wx : WX) (X : Cx) (m : Ac (List Dat)) (es : List Expr) : Prop := PA X es (tX W wx dsK m)
abbrev SD (W : Wd) (wx : WX) (X : Cx) (m : Ac Dat) (e : Expr) : Prop := PE X e (tX W wx dtK m)
theorem se_con {e : Expr} {d : Dat} {v : V} (p : PE X e (tC v)) (h : ∀ g, R W g d v) : SE W wx X (Ac.ret (.val d)) e :=
  peImp p fun σ H Q ⟨g, P, s, r, q⟩ => q g H (.refl g) r v (h g)
def slotA (i : Nat) : Ac Rv := fun s => match s.env[i]? with
  | some (.val d) => .ok (.val d) s
  | some (.own _) => .ok (.bor i) s
  | _ => .stuck
theorem se_slot {e : Expr} {i : Nat} (p : PE X e (tVar i)) : SE W wx X (slotA i) e := peImp p fun σ H Q ⟨g, P, s, r, q⟩ => by
  unfold slotA at q
  cases h : s.env[i]? with
  | none =>
    simp only [h] at q
    exact q.elim
  | some x =>
    cases x with
    | no =>
      simp only [h] at q
      exact q.elim
    | val d =>
      simp only [h] at q
      obtain ⟨v, e1, e2⟩ := r.slv i d h
      exact ⟨v, e1, q g H (.refl g) r v e2⟩
    | own o =>
      simp only [h] at q
      obtain ⟨a, ho, e1, _⟩ := r.slo i o h
      exact ⟨.ref a, e1, q g H (.refl g) r _ e1⟩
/-- .. and its data -/
theorem sd_of {e : Expr} {m : Ac Rv} (p : SE W wx X m e) : SD W wx X (m.bind toVal) e := peImp p fun σ H Q h => by
  obtain ⟨g, P, s, r, q⟩ := h
  refine ⟨g, P, s, r, (Post.bindE q).mono fun x s1 g1 H1 l1 r1 q1 v hv => ?_⟩
  cases e : toVal x s1 with
  | ok d s2 =>
    rw [e] at q1
    obtain ⟨g2, l2, r2, hd⟩ := toVal_ok r1 hv e
    exact q1 g2 H1 l2 r2 v hd
  | exc x s2 => exact absurd e toVal_ne
  | stuck =>
    rw [e] at q1
    exact q1.elim
theorem sa_nil : SA W wx X (Ac.ret []) [] := paImp pa_nil fun σ H Q ⟨g, P, s, r, q⟩ => q g H (.refl g) r [] .nil
theorem sa_cons {e : Expr} {es : List Expr} {m : Ac Dat} {ms : Ac (List Dat)} (p : SD W wx X m e) (ps : SA W wx X ms es) (hs : starEach (e :: es) X.env = (false, eval e X.env) :: starEach es X.env) :
    SA W wx X (m.bind fun b => ms.bind fun bs => Ac.ret (b :: bs)) (e :: es) := paImp (pa_cons p ps hs) fun σ H Q h => by
  obtain ⟨g, P, s, r, q⟩ := h
  refine ⟨g, P, s, r, (Post.bindE q).mono fun x s1 g1 H1 l1 r1 q1 v hv => ?_⟩
  refine ⟨g1, P, s1, r1, (Post.bindE q1).mono fun xs s2 g2 H2 l2 r2 q2 vs hvs => ?_⟩
  exact q2 g2 H2 (.refl g2) r2 _ (.cons (R.mono l2 hv) hvs)
theorem se_tup {es : List Expr} {ms : Ac (List Dat)} {k : Nat} {pos : Pos} (p : SA W wx X ms es) : SE W wx X (ms.bind fun ds => if ds.length ≤ sizeLine then Ac.ret (.val (.tup ds)) else Ac.stk) (.Tuple es k pos) := peImp (pe_tupZ p) fun σ H Q h => by
  obtain ⟨g, P, s, r, q⟩ := h
  refine ⟨g, P, s, r, (Post.bindE q).mono fun ds s1 g1 H1 l1 r1 q1 vs hv => ?_⟩
  by_cases hz : ds.length ≤ sizeLine
  · rw [if_pos hz] at q1
    refine ⟨by rw [← hv.length]; exact hz, fun p oo hp hd => ?_⟩
    obtain ⟨n1, n2, n3⟩ := r1.newZ hp hd hv
    exact q1 _ _ n1 n2 _ n3
  · rw [if_neg hz] at q1
    exact q1.elim
theorem se_lst {es : List Expr} {ms : Ac (List Dat)} {pos : Pos} (p : SA W wx X ms es) : SE W wx X (ms.bind fun ds => if ds.length ≤ sizeLine then Ac.ret (.own (.lst ds)) else Ac.stk) (.List es pos) := peImp (pe_lst p) fun σ H Q h => by
  obtain ⟨g, P, s, r, q⟩ := h
  refine ⟨g, P, s, r, (Post.bindE q).mono fun ds s1 g1 H1 l1 r1 q1 vs hv => ?_⟩
  by_cases hz : ds.length ≤ sizeLine
  · rw [if_pos hz] at q1
    refine ⟨by rw [← hv.length]; exact hz, fun p hp => ?_⟩
    obtain ⟨n2, n3⟩ := r1.newOwn (o := .lst ds) (ho := .lst vs) hp hv
    exact q1 g1 _ (.refl g1) n2 _ n3
  · rw [if_neg hz] at q1
    exact q1.elim
theorem se_bin {a b : Expr} {ma mb : Ac Rv} {pos : Pos} (hK : X.K = W.K) (op : BOp) (pa : SE W wx X ma a) (pb : SE W wx X mb b) : SE W wx X (ma.bind fun x => mb.bind fun y => binK op x y) (.BinOp a op.py b pos) :=
  peImp (pe_op (op_bin (wx := wx) hK op) pa pb) fun σ H Q h => by
    obtain ⟨g, P, s, r, q⟩ := tX_bind2 h
    exact ⟨g, P, s, r, q.mono fun x s1 g1 H1 l1 r1 q1 v hv => by
      obtain ⟨g2, P2, s2, r2, q2⟩ := q1 v hv
      exact ⟨g2, P2, s2, r2, q2.mono fun y s3 g3 H3 l3 r3 q3 u hu => ⟨σ, q3 u hu⟩⟩⟩
theorem se_cmp {a b : Expr} {ma mb : Ac Rv} {pos : Pos} (hK : X.K = W.K) (hu : X.A.units + 64 < cLine) (op : COp) (pa : SE W wx X ma a) (pb : SE W wx X mb b) (hm : behindInMarks op.py b = false) : SE W wx X (ma.bind fun x => mb.bind fun y => cmpK op x y) (.Compare a [op.py] [b] pos) :=
  peImp (pe_cmpR (op_cmp (wx := wx) hK hu op) pa pb hm) fun σ H Q h => by
    obtain ⟨g, P, s, r, q⟩ := tX_bind2 h
    exact ⟨g, P, s, r, q.mono fun x s1 g1 H1 l1 r1 q1 v hv => by
      obtain ⟨g2, P2, s2, r2, q2⟩ := q1 v hv
      exact ⟨g2, P2, s2, r2, q2.mono fun y s3 g3 H3 l3 r3 q3 u hu => ⟨σ, q3 u hu⟩⟩⟩
/-! truth -/
theorem truth_ok {g : Gh} {P : Hp} {s : Stt} {σ : L2.St} {H : Hp} {w : Vw} {v : V} {k : Bool} (r : Rel W g P s σ H) (q : VwR W g H w v) (e : w.truth = some k) : TruV W.K v H k := by
  have seq : ∀ {k}, (match w.seq with
    | some xs => some (!xs.isEmpty)
    | none => match w.dct with
      | some kvs => some (!kvs.isEmpty)
      | none => none) = some k → TruV W.K v H k := fun {k} h => by
    split at h
    · rename_i xs hs
      unfold Vw.seq at hs
      cases h
      split at hs
      · rename_i ys hl
        cases hs
        obtain ⟨a, vs, rfl, e2, e3⟩ := q.lst r hl
        exact .inl ⟨vs, SqL.of e2, by cases e3 <;> rfl⟩
      · obtain ⟨a, vs, rfl, e2, e3⟩ := q.tup r hs
        exact .inr (.inl ⟨vs, e2, by cases e3 <;> rfl⟩)
    · split at h
      · rename_i kvs hd
        cases h
        obtain ⟨a, vs, rfl, e2, e3⟩ := q.dct r hd
        exact .inr (.inr ⟨vs, e2, by cases e3 <;> rfl⟩)
      · cases h
  unfold Vw.truth at e
  split at e
  · obtain rfl := R.nonE q
    cases e
    rfl
  · obtain rfl := R.blE q
    cases e
    rfl
  · obtain rfl := R.intE q
    cases e
    rfl
  · obtain rfl := R.strE q
    split at e
    · cases e
      exact ⟨by assumption, rfl⟩
    · cases e
  · exact seq e
/-- the truth of a result -/
def truA (x : Rv) : Ac Bool := (lookA x).bind fun w => Ac.opt w.truth
theorem tru_imp {m : Ac Rv} {σ : L2.St} {H : Hp} {Q : Bool → Hp → Prop} (h : tX W wx (eqK Bool) (m.bind truA) σ H Q) : tX W wx rvK m σ H fun v H1 => ∃ k, TruV W.K v H1 k ∧ Q k H1 := by
  obtain ⟨g, P, s, r, q⟩ := h
  refine ⟨g, P, s, r, (Post.bindE q).mono fun x s1 g1 H1 l1 r1 q1 v hv => ?_⟩
  obtain ⟨w, e1, q2⟩ := Post.lookE q1
  obtain ⟨k, e2, q3⟩ := Post.optE q2
  exact ⟨k, truth_ok r1 (look_ok r1 hv e1) e2, q3 g1 H1 (.refl g1) r1 k rfl⟩
theorem st_truth {e : Expr} {m : Ac Rv} (hK : X.K = W.K) (p : SE W wx X m e) (he : ∀ whole, isTrue e X.env whole = (do let v ← whole; standAt e.pos; holding [v] (truthy v))) : ST W wx X (m.bind truA) e :=
  ptImp (pt_truth p he) fun σ H Q h => by
    rw [hK]
    exact tru_imp h
/-- an action that answers a bool -/
def BlA (m : Ac Rv) : Prop := ∀ s x s', m s = .ok x s' → ∃ b, x = .val (.bl b)
theorem tru_bl {m : Ac Rv} {σ : L2.St} {H : Hp} {Q : Bool → Hp → Prop} (hm : BlA m) (h : tX W wx (eqK Bool) (m.bind truA) σ H Q) : tX W wx rvK m σ H fun v H1 => ∃ k, v = .bl k ∧ Q k H1 := by
  obtain ⟨g, P, s, r, q⟩ := h
  refine ⟨g, P, s, r, ?_⟩
  have q' := Post.bindE q
  have bl := hm s
  revert q' bl
  generalize m s = o
  intro q' bl
  cases o with
  | ok x s1 =>
    obtain ⟨b, rfl⟩ := bl x s1 rfl
    intro g1 H1 l1 r1 v hv
    obtain rfl := R.blE hv
    have q1 := q' g1 H1 l1 r1
    have q2 : Post W wx g1 P σ (.ok b s1) _ := q1
    exact ⟨b, rfl, q2 g1 H1 (.refl g1) r1 b rfl⟩
  | exc x s1 => exact q'
  | stuck => exact q'
theorem bl_bind {α : Type} {m : Ac α} {f : α → Ac Rv} (h : ∀ a, BlA (f a)) : BlA (m.bind f) := fun s x s' e => by
  unfold Ac.bind at e
  cases q : m s with
  | ok a s1 =>
    rw [q] at e
    exact h a s1 x s' e
  | exc a s1 =>
    rw [q] at e
    cases e
  | stuck =>
    rw [q] at e
    cases e
theorem bl_opt {o : Option Bool} : BlA (Ac.opt (o.map fun b => .val (.bl b))) := fun s x s' e => by
  cases o with
  | none => cases e
  | some b =>
    cases e
    exact ⟨b, rfl⟩
theorem bl_ret {b : Bool} : BlA (Ac.ret (.val (.bl b))) := fun s x s' e => by
  cases e
  exact ⟨b, rfl⟩
theorem bl_cmpK {op : COp} {x y : Rv} : BlA (cmpK op x y) := bl_bind fun _ => bl_bind fun _ => bl_opt
theorem st_cmp {a b : Expr} {ma mb : Ac Rv} {pos : Pos} (hK : X.K = W.K) (hu : X.A.units + 64 < cLine) (op : COp) (pa : SE W wx X ma a) (pb : SE W wx X mb b) (hm : behindInMarks op.py b = false) : ST W wx X ((ma.bind fun x => mb.bind fun y => cmpK op x y).bind truA) (.Compare a [op.py] [b] pos) :=
  ptImp (pt_cmpR (op_cmp (wx := wx) hK hu op) pa pb hm) fun σ H Q h => by
    have h2 := tru_bl (bl_bind fun _ => bl_bind fun _ => bl_cmpK) h
    obtain ⟨g, P, s, r, q⟩ := tX_bind2 h2
    exact ⟨g, P, s, r, q.mono fun x s1 g1 H1 l1 r1 q1 v hv => by
      obtain ⟨g2, P2, s2, r2, q2⟩ := q1 v hv
      exact ⟨g2, P2, s2, r2, q2.mono fun y s3 g3 H3 l3 r3 q3 u hu => ⟨σ, q3 u hu⟩⟩⟩
/-! chains -/
def chnA (op op' : COp) (ma : Ac Rv) (mb : Ac Dat) (mc : Ac Rv) : Ac Rv := ma.bind fun x => mb.bind fun d => (lookA x).bind fun w => (lookA (.val d)).bind fun w' => (Ac.opt (w.cmp op w')).bind fun k =>
  if k then mc.bind fun z => cmpK op' (.val d) z else Ac.ret (.val (.bl false))
theorem chn_imp {op op' : COp} {ma mc : Ac Rv} {mb : Ac Dat} {σ : L2.St} {H : Hp} {Q : VK} (h : tX W wx rvK (chnA op op' ma mb mc) σ H Q) : tChain (rCmp W wx op) (rCmp W wx op') (tX W wx rvK ma) (tX W wx dtK mb) (tX W wx rvK mc) σ H Q := by
  obtain ⟨g, P, s, r, q⟩ := tX_bind2 (B := dtK) h
  refine ⟨g, P, s, r, q.mono fun x s1 g1 H1 l1 r1 q1 v hv => ?_⟩
  obtain ⟨g2, P2, s2, r2, q2⟩ := q1 v hv
  refine ⟨g2, P2, s2, r2, q2.mono fun y s3 g3 H3 l3 r3 q3 u hu => ?_⟩
  obtain ⟨g4, P4, s4, x4, y4, r4, hx4, hy4, p4⟩ := q3 u hu
  refine ⟨σ, g4, P4, s4, x4, .val y4, r4, hx4, hy4, ?_⟩
  obtain ⟨w, e1, p5⟩ := Post.lookE p4
  obtain ⟨w', e2, p6⟩ := Post.lookE p5
  have p7 := Post.bindE p6
  obtain ⟨k, e3, p8⟩ := Post.optE p7
  have ec : cmpK op x4 (.val y4) s4 = .ok (.val (.bl k)) s4 := by
    unfold cmpK Ac.bind lookA
    simp only [e1, Out.bind, e2, e3]
    rfl
  rw [ec]
  intro g5 H5 l5 r5 w5 hw5
  obtain rfl := R.blE hw5
  refine ⟨k, rfl, ?_⟩
  have p9 := p8 g5 H5 l5 r5
  cases k with
  | false =>
    rw [if_neg (by decide)] at p9 ⊢
    exact p9 g5 H5 (.refl g5) r5 _ (R.bl false)
  | true =>
    rw [if_pos rfl] at p9 ⊢
    refine ⟨g5, P4, s4, r5, (Post.bindE p9).mono fun z s6 g6 H6 l6 r6 q6 vz hz => ?_⟩
    exact ⟨σ, g6, P4, s6, .val y4, z, r6, R.mono (l5.trans l6) hy4, hz, q6⟩
theorem se_chn {a b c : Expr} {ma mc : Ac Rv} {mb : Ac Dat} {pos : Pos} (hK : X.K = W.K) (hu : X.A.units + 64 < cLine) (op op' : COp) (pa : SE W wx X ma a) (pb : SD W wx X mb b) (pc : SE W wx X mc c) (hm : lastMarks [op.py, op'.py] [b, c] = false) :
    SE W wx X (chnA op op' ma mb mc) (.Compare a [op.py, op'.py] [b, c] pos) := peImp (pe_chain (op_cmp (wx := wx) hK hu op) (op_cmp (wx := wx) hK hu op') pa pb pc hm) fun σ H Q h => chn_imp h
theorem bl_ite {c : Prop} [Decidable c] {m m' : Ac Rv} (h : BlA m) (h' : BlA m') : BlA (if c then m else m') := by
  by_cases e : c
  · rw [if_pos e]
    exact h
  · rw [if_neg e]
    exact h'
theorem bl_chnA {op op' : COp} {ma mc : Ac Rv} {mb : Ac Dat} : BlA (chnA op op' ma mb mc) :=
  bl_bind fun _ => bl_bind fun _ => bl_bind fun _ => bl_bind fun _ => bl_bind fun _ => bl_ite (bl_bind fun _ => bl_cmpK) bl_ret
theorem st_chn {a b c : Expr} {ma mc : Ac Rv} {mb : Ac Dat} {pos : Pos} (hK : X.K = W.K) (hu : X.A.units + 64 < cLine) (op op' : COp) (pa : SE W wx X ma a) (pb : SD W wx X mb b) (pc : SE W wx X mc c) (hm : lastMarks [op.py, op'.py] [b, c] = false) :
    ST W wx X ((chnA op op' ma mb mc).bind truA) (.Compare a [op.py, op'.py] [b, c] pos) := ptImp (pt_chain (op_cmp (wx := wx) hK hu op) (op_cmp (wx := wx) hK hu op') pa pb pc hm) fun σ H Q h => chn_imp (tru_bl bl_chnA h)

/-! and, or, not, if-else -/
theorem se_and {a b : Expr} {rest : List Expr} {ma mb : Ac Rv} {pos : Pos} (hK : X.K = W.K) (pa : SE W wx X ma a) (pb : SE W wx X mb (.BoolOp .And (b :: rest) pos)) :
    SE W wx X (ma.bind fun x => (lookA x).bind fun w => (Ac.opt w.truth).bind fun k => if k then mb else Ac.ret x) (.BoolOp .And (a :: b :: rest) pos) := peImp (pe_andT pa pb) fun σ H Q h => by
  obtain ⟨g, P, s, r, q⟩ := h
  refine ⟨g, P, s, r, (Post.bindE q).mono fun x s1 g1 H1 l1 r1 q1 v hv => ?_⟩
  obtain ⟨w, e1, q2⟩ := Post.lookE q1
  obtain ⟨k, e2, q3⟩ := Post.optE (Post.bindE q2)
  refine ⟨k, by rw [hK]; exact truth_ok r1 (look_ok r1 hv e1) e2, ?_⟩
  have q4 := q3 g1 H1 (.refl g1) r1
  cases k with
  | true =>
    rw [if_pos rfl] at q4 ⊢
    exact ⟨g1, P, s1, r1, q4⟩
  | false =>
    rw [if_neg (by decide)] at q4 ⊢
    exact q4 g1 H1 (.refl g1) r1 v hv
theorem se_or {a b : Expr} {rest : List Expr} {ma mb : Ac Rv} {pos : Pos} (hK : X.K = W.K) (pa : SE W wx X ma a) (pb : SE W wx X mb (.BoolOp .Or (b :: rest) pos)) :
    SE W wx X (ma.bind fun x => (lookA x).bind fun w => (Ac.opt w.truth).bind fun k => if k then Ac.ret x else mb) (.BoolOp .Or (a :: b :: rest) pos) := peImp (pe_orT pa pb) fun σ H Q h => by
  obtain ⟨g, P, s, r, q⟩ := h
  refine ⟨g, P, s, r, (Post.bindE q).mono fun x s1 g1 H1 l1 r1 q1 v hv => ?_⟩
  obtain ⟨w, e1, q2⟩ := Post.lookE q1
  obtain ⟨k, e2, q3⟩ := Post.optE (Post.bindE q2)
  refine ⟨k, by rw [hK]; exact truth_ok r1 (look_ok r1 hv e1) e2, ?_⟩
  have q4 := q3 g1 H1 (.refl g1) r1
  cases k with
  | true =>
    rw [if_pos rfl] at q4 ⊢
    exact q4 g1 H1 (.refl g1) r1 v hv
  | false =>
    rw [if_neg (by decide)] at q4 ⊢
    exact ⟨g1, P, s1, r1, q4⟩
theorem se_not {a : Expr} {ma : Ac Rv} {pos : Pos} (hK : X.K = W.K) (pa : SE W wx X ma a) :
    SE W wx X (ma.bind fun x => (lookA x).bind fun w => (Ac.opt w.truth).bind fun k => Ac.ret (.val (.bl (!k)))) (.UnaryOp .Not a pos) := peImp (pe_notT pa) fun σ H Q h => by
  obtain ⟨g, P, s, r, q⟩ := h
  refine ⟨g, P, s, r, (Post.bindE q).mono fun x s1 g1 H1 l1 r1 q1 v hv => ?_⟩
  obtain ⟨w, e1, q2⟩ := Post.lookE q1
  obtain ⟨k, e2, q3⟩ := Post.optE (Post.bindE q2)
  refine ⟨k, by rw [hK]; exact truth_ok r1 (look_ok r1 hv e1) e2, ?_⟩
  exact q3 g1 H1 (.refl g1) r1 g1 H1 (.refl g1) r1 _ (R.bl _)
/-- what follows a test -/
theorem tb_ite {β γ : Type} {B : RR W β γ} {mc : Ac Bool} {ma mb : Ac β} {σ : L2.St} {H : Hp} {Q : γ → Hp → Prop} (h : tX W wx B (mc.bind fun k => if k then ma else mb) σ H Q) :
    tX W wx (eqK Bool) mc σ H fun k H1 => if k = true then tX W wx B ma σ H1 Q else tX W wx B mb σ H1 Q := by
  obtain ⟨g, P, s, r, q⟩ := h
  refine ⟨g, P, s, r, (Post.bindE q).mono fun x s1 g1 H1 l1 r1 q1 v hv => ?_⟩
  cases hv
  cases x with
  | true =>
    rw [if_pos rfl] at q1 ⊢
    exact ⟨g1, P, s1, r1, q1⟩
  | false =>
    rw [if_neg (by decide)] at q1 ⊢
    exact ⟨g1, P, s1, r1, q1⟩
theorem se_ite {c a b : Expr} {mc : Ac Bool} {ma mb : Ac Rv} {pos : Pos} (pc : ST W wx X mc c) (pa : SE W wx X ma a) (pb : SE W wx X mb b) : SE W wx X (mc.bind fun k => if k then ma else mb) (.IfExp c a b pos) :=
  peImp (pe_ifExp pc pa pb) fun σ H Q h => tb_ite h
theorem st_not {a : Expr} {ma : Ac Bool} {pos : Pos} (pa : ST W wx X ma a) : ST W wx X (ma.bind fun k => Ac.ret (!k)) (.UnaryOp .Not a pos) := ptImp (pt_not pa) fun σ H Q h => by
  obtain ⟨g, P, s, r, q⟩ := h
  refine ⟨g, P, s, r, (Post.bindE q).mono fun x s1 g1 H1 l1 r1 q1 v hv => ?_⟩
  cases hv
  exact q1 g1 H1 (.refl g1) r1 _ rfl
abbrev SW (W : Wd) (wx : WX) (X : Cx) (m : Ac Bool) (e : Expr) : Prop := PW X e (tX W wx (eqK Bool) m)
theorem sw_and1 {a : Expr} {ma : Ac Bool} {pos : Pos} (pa : ST W wx X ma a) : SW W wx X ma (.BoolOp .And [a] pos) := pw_and1 pa
theorem sw_or1 {a : Expr} {ma : Ac Bool} {pos : Pos} (pa : ST W wx X ma a) : SW W wx X ma (.BoolOp .Or [a] pos) := pw_or1 pa
theorem tb_ret {b : Bool} {σ : L2.St} {H : Hp} {Q : Bool → Hp → Prop} (h : tX W wx (eqK Bool) (Ac.ret b) σ H Q) : Q b H := by
  obtain ⟨g, P, s, r, q⟩ := h
  exact q g H (.refl g) r b rfl
theorem sw_and {a b : Expr} {rest : List Expr} {ma mb : Ac Bool} {pos : Pos} (pa : ST W wx X ma a) (pb : SW W wx X mb (.BoolOp .And (b :: rest) pos)) : SW W wx X (ma.bind fun k => if k then mb else Ac.ret false) (.BoolOp .And (a :: b :: rest) pos) :=
  pwImp (pw_and pa pb) fun σ H Q h => by
    obtain ⟨g, P, s, r, q⟩ := tb_ite h
    refine ⟨g, P, s, r, q.mono fun x s1 g1 H1 l1 r1 q1 v hv => ?_⟩
    have q2 := q1 v hv
    cases v with
    | true => exact q2
    | false => exact tb_ret q2
theorem sw_or {a b : Expr} {rest : List Expr} {ma mb : Ac Bool} {pos : Pos} (pa : ST W wx X ma a) (pb : SW W wx X mb (.BoolOp .Or (b :: rest) pos)) : SW W wx X (ma.bind fun k => if k then Ac.ret true else mb) (.BoolOp .Or (a :: b :: rest) pos) :=
  pwImp (pw_or pa pb) fun σ H Q h => by
    obtain ⟨g, P, s, r, q⟩ := tb_ite h
    refine ⟨g, P, s, r, q.mono fun x s1 g1 H1 l1 r1 q1 v hv => ?_⟩
    have q2 := q1 v hv
    cases v with
    | true => exact tb_ret q2
    | false => exact q2
end
end En
set_option maxHeartbeats 4000000
/-! En8: subscripts, slices, built-in functions, methods. -/
namespace En
open PySem PySem.Spec PyProof.Rows L2
section
variable {W : Wd} {wx : WX} {X : Cx}
theorem ix_dict (hu : X.A.units + 64 < cLine) : IxR X (fun x y H Q => ∃ a v, x = .ref a ∧ DGet H a y (some v) ∧ Q v H) := by
  intro value slice pins s σ H x y v u Q I rx ry h hs
  obtain ⟨a, z, rfl, gt, q⟩ := h
  cases rx
  exact tail_any (dict_typeIs I gt) PySem.F.slot_dict_getitem.lookup (d_getItem (by omega) I gt ry fun w' s' I' rw' => ⟨z, H, I', rw', q⟩) hs
def subK (x k : Rv) : Ac Rv := (lookA x).bind fun w => (lookA k).bind fun w' => Ac.opt ((w.sub w').map .val)
theorem Rs.ixN {g : Gh} {ds : List Dat} {vs : List V} (h : Rs W g ds vs) {i : Int} {d : Dat} (e : atI ds i = some d) : ∃ v, atI vs i = some v ∧ R W g d v := by
  unfold atI at e ⊢
  rw [← h.length]
  cases hj : L2.ixN ds.length i with
  | none =>
    rw [hj] at e
    cases e
  | some j =>
    rw [hj] at e
    exact h.get (i := j) (d := d) e
theorem ix_ok (hK : X.K = W.K) (hu : X.A.units + 64 < cLine) : IxR X (fun x y H Q => ∃ σ, fin2 W wx rvK rvK rvK subK σ x y H Q) := by
  intro value slice pins s σ H x y v u Q I rx ry h hs
  obtain ⟨σ', g, P, st, a, b, r, ra, rb, p1⟩ := h
  obtain ⟨w, e1, p2⟩ := Post.lookE p1
  obtain ⟨w', e2, p3⟩ := Post.lookE p2
  obtain ⟨rv, e3, p⟩ := Post.optE p3
  clear p1 p2 p3
  have q1 := look_ok r ra e1
  have q2 := look_ok r rb e2
  cases e4 : w.sub w' with
  | none =>
    rw [e4] at e3
    cases e3
  | some d =>
    rw [e4] at e3
    have e3' : some (Rv.val d) = some rv := e3
    cases e3'
    have fin : ∀ {z : V}, R W g d z → Q z H := fun hz => p g H (.refl g) r _ hz
    clear e1 e2 e3 p
    have dct : ∀ {kvs : List (Key × Dat)} {k : Key}, w.dct = some kvs → y = kV k → getK kvs k = some d → wpAny (model X.prog X.w) X.A (subscriptTail value slice v u) (EP X pins σ Q) X.xe s := by
      intro kvs k h1 h2 h3
      subst h2
      obtain ⟨c, vs, rfl, k2, k3⟩ := q1.dct r h1
      obtain ⟨z, z1, z2⟩ := (k3.val k).1 d h3
      exact ix_dict hu value slice pins s σ H _ _ v u Q I rx ry ⟨c, z, rfl, by rw [← z1]; exact DGet.k k2, fin z2⟩ hs
    unfold Vw.sub at e4
    split at e4
    · rename_i z k
      obtain rfl := R.strE q1
      obtain rfl := R.intE q2
      split at e4
      · rename_i hz
        cases e5 : atI z.cps.toList k with
        | none =>
          rw [e5] at e4
          cases e4
        | some c =>
          rw [e5] at e4
          have e4' : some (Dat.str ⟨#[c]⟩) = some d := e4
          cases e4'
          exact ix_str value slice pins s σ H _ _ v u Q I rx ry ⟨z, k, c, rfl, rfl, hz, e5, fin (R.str _)⟩ hs
      · cases e4
    · rename_i k _
      obtain rfl := R.intE q2
      split at e4
      · rename_i xs hs'
        unfold Vw.seq at hs'
        split at hs'
        · rename_i ys hl
          cases hs'
          obtain ⟨c, vs, rfl, k2, k3⟩ := q1.lst r hl
          obtain ⟨z, z1, z2⟩ := k3.ixN e4
          exact ix_list value slice pins s σ H _ _ v u Q I rx ry ⟨c, vs, k, z, rfl, rfl, SqL.of k2, z1, fin z2⟩ hs
        · obtain ⟨c, vs, rfl, k2, k3⟩ := q1.tup r hs'
          rw [← hK] at k2
          obtain ⟨z, z1, z2⟩ := k3.ixN e4
          exact ix_tup value slice pins s σ H _ _ v u Q I rx ry ⟨c, vs, k, z, rfl, rfl, k2, z1, fin z2⟩ hs
      · split at e4
        · rename_i kvs hd
          exact dct (k := .inl k) hd rfl e4
        · cases e4
    · rename_i k
      obtain rfl := R.strE q2
      split at e4
      · rename_i kvs hd
        exact dct (k := .inr k) hd rfl e4
      · cases e4
    · cases e4
theorem se_sub {a b : Expr} {ma mb : Ac Rv} {pos : Pos} (hK : X.K = W.K) (hu : X.A.units + 64 < cLine) (pa : SE W wx X ma a) (pb : SE W wx X mb b) (hs : PlainIx b) : SE W wx X (ma.bind fun x => mb.bind fun y => subK x y) (.Subscript a b pos) :=
  peImp (pe_ix (ix_ok (wx := wx) hK hu) pa pb hs) fun σ H Q h => by
    obtain ⟨g, P, s, r, q⟩ := tX_bind2 h
    exact ⟨g, P, s, r, q.mono fun x s1 g1 H1 l1 r1 q1 v hv => by
      obtain ⟨g2, P2, s2, r2, q2⟩ := q1 v hv
      exact ⟨g2, P2, s2, r2, q2.mono fun y s3 g3 H3 l3 r3 q3 u hu => ⟨σ, q3 u hu⟩⟩⟩
/-! slices -/
theorem cutV_len (xs : List V) (ds : List Dat) (h : ds.length = xs.length) (lo hi : Option Int) : cutV xs lo hi = (xs.drop (HT.sIx ds.length 0 lo)).take (HT.sIx ds.length ds.length hi - HT.sIx ds.length 0 lo) := by
  unfold cutV
  rw [h]
theorem Rs.cut {g : Gh} {ds : List Dat} {vs : List V} (h : Rs W g ds vs) (lo hi : Option Int) : Rs W g (cutD ds lo hi) (cutV vs lo hi) := by
  rw [cutV_len vs ds h.length]
  exact (h.drop _).take _
theorem cutD_whole {ds : List Dat} {lo hi : Option Int} (h : HT.sIx ds.length 0 lo = 0 ∧ HT.sIx ds.length ds.length hi = ds.length) : cutD ds lo hi = ds := by
  unfold cutD
  rw [h.1, h.2, List.drop_zero, Nat.sub_zero, List.take_length]
def slcK (x : Rv) (l h : Option Int) : Ac Rv := (lookA x).bind fun w => Ac.opt (w.slc l h)
theorem sl_ok (hK : X.K = W.K) : SlR X (fun x lo hi H Q => ∃ σ, fin1 W wx rvK rvK (fun x => slcK x lo hi) σ x H Q) := by
  intro pins s σ H x v vl vu lo hi sl Q I rx hs pl pu h
  obtain ⟨σ', g, P, st, a, r, ra, p1⟩ := h
  obtain ⟨w, e1, p2⟩ := Post.lookE p1
  obtain ⟨rv, e3, p⟩ := Post.optE p2
  clear p1 p2
  have q1 := look_ok r ra e1
  clear e1
  unfold Vw.slc at e3
  split at e3
  · rename_i z
    obtain rfl := R.strE q1
    split at e3
    · cases e3
      exact sl_str pins s σ H _ v vl vu lo hi sl Q I rx hs pl pu ⟨z, rfl, by assumption, p g H (.refl g) r _ (R.str _)⟩
    · cases e3
  · rename_i xs
    cases e3
    obtain ⟨c, vs, rfl, k2, k3⟩ := R.tupH r q1
    rw [← hK] at k2
    refine sl_tupZ pins s σ H _ v vl vu lo hi sl Q I rx hs pl pu ⟨c, vs, rfl, k2, fun hw => ?_, fun _ pp oo hp hd => ?_⟩
    · rw [← k3.length] at hw
      rw [cutD_whole hw] at p
      exact p g H (.refl g) r _ q1
    · obtain ⟨n1, n2, n3⟩ := r.newZ hp hd (k3.cut lo hi)
      exact p _ _ n1 n2 _ n3
  · split at e3
    · rename_i xs hl
      cases e3
      obtain ⟨c, vs, rfl, k2, k3⟩ := q1.lst r hl
      refine sl_list pins s σ H _ v vl vu lo hi sl Q I rx hs pl pu ⟨c, vs, rfl, SqL.of k2, fun pp hp => ?_⟩
      obtain ⟨n1, n2⟩ := r.newOwn (o := .lst (cutD xs lo hi)) (ho := .lst _) hp (k3.cut lo hi)
      exact p g _ (.refl g) n1 _ n2
    · cases e3
theorem Post.intE {g : Gh} {P : Hp} {σ : L2.St} {s : Stt} {x : Rv} {K : Int → Stt → Gh → Hp → Prop} (h : Post W wx g P σ (intA x s) K) : ∃ i, look s x = some (.dt (.int i)) ∧ Post W wx g P σ (.ok i s) K := by
  obtain ⟨w, e1, q⟩ := Post.lookE h
  cases w with
  | mb o => exact q.elim
  | dt d =>
    cases d <;> first | exact ⟨_, e1, q⟩ | exact q.elim
/-- an optional int -/
abbrev SO (W : Wd) (wx : WX) (X : Cx) (m : Ac (Option Int)) (e : Option Expr) : Prop := PO X e (tX W wx (eqK (Option Int)) m)
theorem so_none : SO W wx X (Ac.ret none) none := by
  refine ⟨fun pins s σ H Q I h => po_none.run pins s σ H Q I ?_⟩
  obtain ⟨g, P, st, r, q⟩ := h
  exact q g H (.refl g) r none rfl
theorem so_some {e : Expr} {m : Ac Rv} (p : SE W wx X m e) : SO W wx X ((m.bind intA).bind fun b => Ac.ret (some b)) (some e) := by
  refine ⟨fun pins s σ H Q I h => (po_some p).run pins s σ H Q I ?_⟩
  obtain ⟨g, P, st, r, q⟩ := h
  refine ⟨g, P, st, r, (Post.bindE (Post.bindE q)).mono fun x s1 g1 H1 l1 r1 q1 v hv => ?_⟩
  obtain ⟨i, e1, q2⟩ := Post.intE q1
  obtain rfl := R.intE (look_ok r1 hv e1)
  exact ⟨i, rfl, q2 g1 H1 (.refl g1) r1 g1 H1 (.refl g1) r1 _ rfl⟩
theorem se_slc {a : Expr} {lo hi : Option Expr} {ma : Ac Rv} {ml mh : Ac (Option Int)} {pos p2 : Pos} (hK : X.K = W.K) (pa : SE W wx X ma a) (pl : SO W wx X ml lo) (ph : SO W wx X mh hi) :
    SE W wx X (ma.bind fun x => ml.bind fun l => mh.bind fun h => slcK x l h) (.Subscript a (.Slice lo hi none p2) pos) := peImp (pe_slice (sl_ok (wx := wx) hK) pa pl ph) fun σ H Q h => by
  obtain ⟨g, P, s, r, q⟩ := h
  refine ⟨g, P, s, r, (Post.bindE q).mono fun x s1 g1 H1 l1 r1 q1 v hv => ?_⟩
  obtain ⟨r2, u2, w2⟩ := rvK.up r1 hv
  refine ⟨g1, rvK.prt P H1 x v, s1, r2, ((Post.bindE q1).under u2 w2).mono fun l s2 g2 H2 l2 r3 q2 l' hl => ?_⟩
  cases hl
  refine ⟨g2, rvK.prt P H1 x v, s2, r3, ((Post.bindE q2).under u2 w2).mono fun h s3 g3 H3 l3 r4 q3 h' hh => ?_⟩
  cases hh
  exact ⟨σ, g3, P, s3, x, r4.weak u2 w2, rvK.go hv (l2.trans l3) r4, q3⟩
theorem se_rev {e : Expr} {m : Ac Rv} {k : Nat} {p1 p2 p3 pos : Pos} (p : SE W wx X m e) : SE W wx X (m.bind fun x => (lookA x).bind fun w => match w.lst with
      | some xs => Ac.ret (.own (.lst xs.reverse))
      | none => Ac.stk) (.Subscript e (.Slice none none (some (.UnaryOp .USub (.Constant (.int 1) k p1) p2)) p3) pos) := peImp (pe_revL p) fun σ H Q h => by
  obtain ⟨g, P, s, r, q⟩ := h
  refine ⟨g, P, s, r, (Post.bindE q).mono fun x s1 g1 H1 l1 r1 q1 v hv => ?_⟩
  obtain ⟨w, e1, q2⟩ := Post.lookE q1
  cases hl : w.lst with
  | some xs =>
    rw [hl] at q2
    obtain ⟨c, vs, rfl, k2, k3⟩ := (look_ok r1 hv e1).lst r1 hl
    refine ⟨c, vs, rfl, SqL.of k2, fun pp hp => ?_⟩
    obtain ⟨n1, n2⟩ := r1.newOwn (o := .lst xs.reverse) (ho := .lst _) hp k3.reverse
    exact q2 g1 _ (.refl g1) n1 _ n2
  | none =>
    rw [hl] at q2
    exact q2.elim
theorem se_neg {a : Expr} {ma : Ac Rv} {pos : Pos} (p : SE W wx X ma a) : SE W wx X (ma.bind fun x => (lookA x).bind fun w => match w with
      | .dt (.int i) => Ac.ret (.val (.int (-i)))
      | _ => Ac.stk) (.UnaryOp .USub a pos) := peImp (pe_un un_neg p) fun σ H Q h => by
  obtain ⟨g, P, s, r, q⟩ := h
  refine ⟨g, P, s, r, (Post.bindE q).mono fun x s1 g1 H1 l1 r1 q1 v hv => ?_⟩
  obtain ⟨w, e1, q2⟩ := Post.lookE q1
  have q3 := look_ok r1 hv e1
  cases w with
  | mb o => exact q2.elim
  | dt d =>
    cases d <;> first
      | exact q2.elim
      | (obtain rfl := R.intE q3; exact ⟨_, rfl, q2 g1 H1 (.refl g1) r1 _ (R.int _)⟩)
end
end En
set_option maxHeartbeats 4000000
/-! En9: built-in functions, methods. -/
namespace En
open PySem PySem.Spec PyProof.Rows L2
/-- what isinstance asks of an own class -/
structure InsF (K : PySem.W.Frag) (C : Addr) : Prop where
  cl : Cls K C
  ha : PySem.W.findIn K (.ref C) "__class__" = some (some (.builtin "object.__class__"))
  hn : PySem.W.specialIn K (.builtin "object.__class__") "__get__" = some (some (.builtin "getset_descriptor.__get__"))
  htk : PySem.W.takesIn K (.builtin "object.__class__") = some true
  hm : PySem.W.mroIn K C (.type "object") = some true
/-- .. of an error class -/
structure XcF (K : PySem.W.Frag) (C : Addr) : Prop where
  hd : PySem.W.hasDictIn K C = true
  hga : PySem.W.findIn K (.ref C) "__getattribute__" = some (some (.builtin "BaseException.__getattribute__"))
  hgt : PySem.W.findIn K (.ref C) "__getattr__" = some none
  hsub : PySem.W.subIn K (.ref C) (.type "BaseException") = some true
  ha : PySem.W.findIn K (.ref C) "__class__" = some (some (.builtin "object.__class__"))
  hn : PySem.W.specialIn K (.builtin "object.__class__") "__get__" = some (some (.builtin "getset_descriptor.__get__"))
  htk : PySem.W.takesIn K (.builtin "object.__class__") = some true
  hm : PySem.W.mroIn K C (.type "object") = some true
/-- the world's facts about classes -/
structure Wk (W : Wd) (T : Tab) : Prop where
  ins : ∀ c c' b, T.isaC c c' = some b → InsF W.K (W.ca c) ∧ PySem.W.kitOne W.K (.ref (W.ca c)) (.ref (W.ca c')) = some b
  insT : ∀ c n b, T.isaT c n = some b → InsF W.K (W.ca c) ∧ PySem.W.kitOne W.K (.ref (W.ca c)) (.type n) = some b
  insN : ∀ n c b, T.isaN n c = some b → PySem.W.kitOne W.K (.type n) (.ref (W.ca c)) = some b
  insX : ∀ c c' b, T.isaX c c' = some b → XcF W.K (W.ca c) ∧ PySem.W.kitOne W.K (.ref (W.ca c)) (.ref (W.ca c')) = some b
  insXT : ∀ c n b, T.isaXT c n = some b → XcF W.K (W.ca c) ∧ PySem.W.kitOne W.K (.ref (W.ca c)) (.type n) = some b
  sm : ∃ o, W.K.lookup sysModules = some o ∧ o.cls = .type "dict"
section
variable {W : Wd} {wx : WX} {X : Cx} {T : Tab}
def biK (T : Tab) (b : Bi) (x : Rv) (ds : List Dat) : Ac Rv := (lookA x).bind fun w => Ac.opt (Vw.bi T b w ds)
def rBi (W : Wd) (wx : WX) (T : Tab) (b : Bi) : List V → Hp → VK → Prop := fun vs H Q => ∃ x xs σ, vs = x :: xs ∧ fin2 W wx rvK dsK rvK (biK T b) σ x xs H Q
def Bi.py : Bi → Value
  | .len => .builtin "len"
  | .tuple => .type "tuple"
  | .list => .type "list"
  | .str => .type "str"
  | .int => .type "int"
  | .repr => .builtin "repr"
  | .all => .builtin "all"
  | .any => .builtin "any"
  | .isi => .builtin "isinstance"
  | .max => .builtin "max"
  | .min => .builtin "min"
  | .sum => .builtin "sum"
theorem tyIs_ok {K : PySem.W.Frag} {a b : String} {r : Bool} (ha : a ∈ "NoneType" :: tyNames) (h : tyIs a b = some r) : PySem.W.kitOne K (.type a) (.type b) = some r := by
  unfold tyIs at h
  have cases6 : ∀ {p : Prop}, b ∈ tyNames → (b = "bool" → p) → (b = "int" → p) → (b = "str" → p) → (b = "tuple" → p) → (b = "list" → p) → (b = "dict" → p) → p := fun {p} h h1 h2 h3 h4 h5 h6 => by
    simp only [tyNames, List.mem_cons, List.mem_nil_iff, or_false] at h
    rcases h with h | h | h | h | h | h
    · exact h1 h
    · exact h2 h
    · exact h3 h
    · exact h4 h
    · exact h5 h
    · exact h6 h
  split at h
  · rename_i hc
    obtain ⟨rfl, rfl⟩ := hc
    cases h
    exact kit_ty (by decide +kernel)
  · rename_i hc
    split at h
    · rename_i hb
      cases h
      simp only [tyNames, List.mem_cons, List.mem_nil_iff, or_false] at ha
      refine kit_ty ?_
      rcases ha with rfl | rfl | rfl | rfl | rfl | rfl | rfl <;>
        refine cases6 hb ?_ ?_ ?_ ?_ ?_ ?_ <;> (intro e; subst e; first | decide +kernel | exact absurd ⟨rfl, rfl⟩ hc)
    · cases h
section
variable {g : Gh} {P : Hp} {s : Stt} {σ : L2.St} {H : Hp}
theorem tyn_ok (r : Rel W g P s σ H) {w : Vw} {v : V} {n : String} (q : VwR W g H w v) (e : w.tyn = some n) : TyX W.K H v (.type n) ∧ n ∈ "NoneType" :: tyNames := by
  cases w with
  | mb o =>
    obtain ⟨a, ho, rfl, h1, h2⟩ := q
    cases o <;> cases ho <;> first | exact False.elim h2 | skip
    · cases e
      exact ⟨.base (.lst h1), by decide⟩
    · cases e
      exact ⟨.base (.dK h1), by decide⟩
    · cases e
  | dt d =>
    have q' : R W g d v := q
    cases q' with
    | non => cases e; exact ⟨.base .non, by decide⟩
    | bl b => cases e; exact ⟨.base (.bl b), by decide⟩
    | int b => cases e; exact ⟨.base (.int b), by decide⟩
    | str b => cases e; exact ⟨.base (.str b), by decide⟩
    | tup h1 h2 =>
      cases e
      refine ⟨?_, by decide⟩
      rcases sqT_mono r.fz h1.sq with (h | ⟨o, h⟩) | ⟨o, its, m, hk, hc, _⟩
      · exact .base (.tup h)
      · exact .fTuple h
      · exact .kTuple hk hc
    | lst h1 h2 => cases e; exact ⟨.base (.lst (r.fz _ _ h1)), by decide⟩
    | dct h1 h2 => cases e; exact ⟨.base (.dK (r.fz _ _ h1)), by decide⟩
    | obj _ _ => cases e
    | err _ _ _ => cases e
    | scr _ _ => cases e
    | tpl _ _ => cases e
    | ref _ => cases e
    | fn _ => cases e
    | cls _ => cases e
    | ty _ => cases e
theorem cls_ok (r : Rel W g P s σ H) {w : Vw} {v : V} {c : Nat} (q : VwR W g H w v) (e : w.cls = some c) : ∃ a dx fs, v = .ref a ∧ H a = some (.ins (W.ca c) dx fs) := by
  cases w with
  | mb o =>
    obtain ⟨a, ho, rfl, h1, h2⟩ := q
    cases o <;> cases ho <;> first | exact False.elim h2 | skip
    · cases e
    · cases e
    · cases e
      obtain ⟨rfl, _⟩ := h2
      exact ⟨_, _, _, rfl, h1⟩
  | dt d =>
    have q' : R W g d v := q
    cases q' <;> first | cases e | skip
    rename_i h1 h2
    exact ⟨_, _, _, rfl, r.fz _ _ h2⟩
theorem isaV_ok (wk : Wk W T) (r : Rel W g P s σ H) {w : Vw} {v u : V} {d : Dat} {b : Bool} (q : VwR W g H w v) (qd : R W g d u) (e : isaV T w d = some b) : ∃ t c, ClsV u c ∧ TyX W.K H v t ∧ PySem.W.kitOne W.K t c = some b := by
  cases d with
  | ty n =>
    cases qd
    cases ht : w.tyn with
    | some t =>
      have e' : tyIs t n = some b := by
        have := e
        unfold isaV at this
        rw [ht] at this
        exact this
      obtain ⟨h1, h2⟩ := tyn_ok r q ht
      exact ⟨_, _, .ty n, h1, tyIs_ok h2 e'⟩
    | none =>
      have e' : (w.cls.bind fun c => T.isaT c n) = some b := by
        have := e
        unfold isaV at this
        rw [ht] at this
        exact this
      obtain ⟨c, e1, e2⟩ := Option.bind_eq_some_iff.mp e'
      obtain ⟨f, k⟩ := wk.insT c n b e2
      obtain ⟨a, dx, fs, rfl, h1⟩ := cls_ok r q e1
      exact ⟨_, _, .ty n, .base (.ins h1 f.cl f.ha f.hn f.htk f.hm), k⟩
  | cls c' =>
    cases qd
    cases ht : w.tyn with
    | some t =>
      have e' : T.isaN t c' = some b := by
        have := e
        unfold isaV at this
        rw [ht] at this
        exact this
      obtain ⟨h1, h2⟩ := tyn_ok r q ht
      exact ⟨_, _, .own _, h1, wk.insN t c' b e'⟩
    | none =>
      have e' : (w.cls.bind fun c => T.isaC c c') = some b := by
        have := e
        unfold isaV at this
        rw [ht] at this
        exact this
      obtain ⟨c, e1, e2⟩ := Option.bind_eq_some_iff.mp e'
      obtain ⟨f, k⟩ := wk.ins c c' b e2
      obtain ⟨a, dx, fs, rfl, h1⟩ := cls_ok r q e1
      exact ⟨_, _, .own _, .base (.ins h1 f.cl f.ha f.hn f.htk f.hm), k⟩
  | _ => cases e
/-- an error that is data -/
theorem err_at {P : Hp} {s : Stt} {σ σ' : L2.St} {g : Gh} {H : Hp} {X : Cx} {pins : List (Addr × Obj)} {sh : Shared} {c : Nat} {fs : List (Str × Dat)} {v : V} (I : L2.Inv X pins σ' H sh) (r : Rel W g P s σ H) (q : R W g (.err c fs) v) :
    ∃ a dx vs o od, v = .ref a ∧ H dx = some (.xd vs) ∧ Rf W g fs vs ∧ sh.heap.get? dx = some od ∧ PySem.W.InstAt sh.heap a o (W.ca c) (some od) := by
  cases q with
  | err h1 h2 h3 =>
    rename_i a dx vs
    obtain ⟨⟨o, its, e1, e2, e3, e4⟩, _⟩ := I.hok a _ (r.fz _ _ h1)
    have hx : ObjOk X.prog X.w H sh.heap dx (.xd vs) := I.hok dx _ (r.fz _ _ h2)
    obtain ⟨mA, ⟨od, es, ep, e5, e6⟩, _⟩ := hx
    exact ⟨a, dx, vs, o, od, rfl, r.fz _ _ h2, h3, e5, e1, e2, by unfold PySem.W.notCls; rw [e4] <;> rfl, by rw [e3]; exact e5⟩
theorem call_isX {P : Hp} {s : Stt} {σ σ' : L2.St} {g : Gh} {H : Hp} {X : Cx} {pins : List (Addr × Obj)} {sh : Shared} {c : Nat} {fs : List (Str × Dat)} {d : Dat} {v w : V} {us : List Value} {b : Bool} {Q : VK} (hK : X.K = W.K) (wk : Wk W T) (I : L2.Inv X pins σ' H sh) (r : Rel W g P s σ H) (q : R W g (.err c fs) v) (qd : R W g d w) (rs : Vals [v, w] us) (e : isaXD T c d = some b) (h : Q (.bl b) H) :
    wpAny (model X.prog X.w) X.A (call (.builtin "isinstance") us) (EP X pins σ' Q) X.xe sh := by
  obtain ⟨a, dx, vs, o, od, rfl, k1, k2, k3, J⟩ := err_at I r q
  obtain ⟨u1, u2, rfl, r1, r2⟩ := vals2 rs
  obtain rfl : u1 = Value.ref a := r1
  have fin : ∀ {t : Value}, XcF W.K (W.ca c) → PySem.W.kitOne W.K (.ref (W.ca c)) t = some b → u2 = t → wpAny (model X.prog X.w) X.A (call (.builtin "isinstance") [.ref a, u2]) (EP X pins σ' Q) X.xe sh := fun {t} f k z => by
    subst z
    rw [← hK] at f k
    have hcl : (PySem.W.clsIn X.K (W.ca c)).isSome = true := by
      obtain ⟨cd, hc, _⟩ := PySem.W.any_some f.hd
      rw [hc]
      rfl
    exact PySem.W.kia_one (PySem.W.kitx_exc hcl f.hga f.hgt f.hsub f.ha f.hn f.htk f.hm) I.kIn J k (fun z => nomatch z) fun tk => ⟨.bl b, H, I.kept (t' := tk) fun _ _ z => z, rfl, h⟩
  cases d with
  | ty n =>
    cases qd
    obtain ⟨f, k⟩ := wk.insXT c n b e
    exact fin f k r2
  | cls c' =>
    cases qd
    obtain ⟨f, k⟩ := wk.insX c c' b e
    exact fin f k r2
  | _ => cases e
/- data as the library's, read in the heap; never the dict of modules -/
theorem SmD.no {K : PySem.W.Frag} {h : Heap} {a : Addr} {o : Obj} (sm : ∃ o, K.lookup sysModules = some o ∧ o.cls = .type "dict") (KX : K.In h) (e : h.get? a = some o) (hc : o.cls = .type "list") : sysModules ≠ a := fun z => by
  obtain ⟨o', e1, e2⟩ := sm
  have e3 := KX _ _ e1
  rw [z, e] at e3
  cases e3
  rw [hc] at e2
  exact absurd (Value.type.inj e2) (by decide)
theorem key_reads {h : Heap} {k : Key} {u : Value} (e : keyIs k u = true) : Reads h u (pdY k) [] := by
  rcases keyIs_shape e with ⟨i, t, rfl, rfl⟩ | ⟨x, t, rfl, rfl⟩
  · exact Reads.int i t
  · exact Reads.str x t
mutual
theorem R.rd (hK : X.K = W.K) (sm : ∃ o, W.K.lookup sysModules = some o ∧ o.cls = .type "dict") {sh : Shared} {pins : List (Addr × Obj)} {σ' : L2.St} (I : L2.Inv X pins σ' H sh) (r : Rel W g P s σ H) : ∀ {d : Dat} {v : V} {p : PyData} {u : Value}, R W g d v → pdD d = some p → L2.RelV v u → ∃ as, Reads sh.heap u p as ∧ sysModules ∉ as
  | _, _, _, _, .non, e, q => by
    cases e
    cases q
    exact ⟨_, Reads.none, by simp⟩
  | _, _, _, _, .bl b, e, q => by
    cases e
    cases q
    exact ⟨_, Reads.bool b, by simp⟩
  | _, _, _, _, .int b, e, q => by
    cases e
    obtain ⟨t, rfl⟩ := q
    exact ⟨_, Reads.int b t, by simp⟩
  | _, _, _, _, .str b, e, q => by
    cases e
    obtain ⟨t, rfl⟩ := q
    exact ⟨_, Reads.str b t, by simp⟩
  | .tup ds, _, _, _, .tup h1 h2, e, q => by
    have e' : (pdL ds).map PyData.tuple = some _ := e
    cases h : pdL ds with
    | none => rw [h] at e'; cases e'
    | some ps =>
      rw [h] at e'
      cases e'
      cases q
      obtain ⟨its, rv, ⟨o, ho, hc, n, hd⟩, _⟩ := I.tuple (by rw [hK]; exact sqT_mono r.fz h1.sq)
      obtain ⟨as, k1, k2⟩ := Rs.rd hK sm I r h2 h rv
      exact ⟨as, Reads.tuple ho hc hd k1, k2⟩
  | .lst ds, _, _, _, .lst h1 h2, e, q => by
    have e' : (pdL ds).map PyData.list = some _ := e
    cases h : pdL ds with
    | none => rw [h] at e'; cases e'
    | some ps =>
      rw [h] at e'
      cases e'
      cases q
      obtain ⟨its, rv, ⟨o, n, ho, hc, _, hd⟩, _⟩ := I.list (SqL.of (r.fz _ _ h1))
      obtain ⟨as, k1, k2⟩ := Rs.rd hK sm I r h2 h rv
      exact ⟨_, Reads.list ho hc hd k1, by
        rw [List.mem_cons]
        rintro (z | z)
        · exact SmD.no sm (hK ▸ I.kIn) ho hc z
        · exact k2 z⟩
  | .dct ds, _, _, _, .dct h1 h2, e, q => by
    have e' : (pdK ds).map PyData.dict = some _ := e
    cases h : pdK ds with
    | none => rw [h] at e'; cases e'
    | some ps =>
      rw [h] at e'
      cases e'
      cases q
      obtain ⟨_, hs, vs, kv, ⟨o, es, ep, ho, ⟨hc, _, _⟩, hd, _, hp, _⟩⟩ := L2.dk_of I.hok (r.fz _ _ h1)
      obtain ⟨as, bs, k1, k2, k3, k4⟩ := Rk.rd hK sm I r h2 h kv hp
      exact ⟨_, Reads.dict ho hc hd k1 k2, by
        rw [List.cons_append, List.mem_cons, List.mem_append]
        rintro (z | z | z)
        · rw [z] at hs
          simp at hs
        · exact k3 z
        · exact k4 z⟩
  | _, _, _, _, .obj _ _, e, _ => by cases e
  | _, _, _, _, .err _ _ _, e, _ => by cases e
  | _, _, _, _, .ref _, e, _ => by cases e
  | _, _, _, _, .fn _, e, _ => by cases e
  | _, _, _, _, .cls _, e, _ => by cases e
  | _, _, _, _, .ty _, e, _ => by cases e
  | _, _, _, _, .scr _ _, e, _ => by cases e
  | _, _, _, _, .tpl _ _, e, _ => by cases e
theorem Rs.rd (hK : X.K = W.K) (sm : ∃ o, W.K.lookup sysModules = some o ∧ o.cls = .type "dict") {sh : Shared} {pins : List (Addr × Obj)} {σ' : L2.St} (I : L2.Inv X pins σ' H sh) (r : Rel W g P s σ H) : ∀ {ds : List Dat} {vs : List V} {ps : List PyData} {us : List Value}, Rs W g ds vs → pdL ds = some ps → Vals vs us → ∃ as, ReadsAll sh.heap us ps as ∧ sysModules ∉ as
  | _, _, _, _, .nil, e, q => by
    cases e
    cases q
    exact ⟨_, ReadsAll.nil, by simp⟩
  | d :: ds, _, _, _, .cons h1 h2, e, q => by
    unfold pdL at e
    cases a : pdD d with
    | none => rw [a] at e; cases e
    | some p =>
      rw [a] at e
      cases b : pdL ds with
      | none => rw [b] at e; cases e
      | some ps =>
        rw [b] at e
        cases e
        cases q with
        | cons q1 q2 =>
          obtain ⟨as, k1, k2⟩ := R.rd hK sm I r h1 a q1
          obtain ⟨bs, k3, k4⟩ := Rs.rd hK sm I r h2 b q2
          exact ⟨_, ReadsAll.cons k1 k3, by
            rw [List.mem_append]
            rintro (z | z)
            · exact k2 z
            · exact k4 z⟩
theorem Rk.rd (hK : X.K = W.K) (sm : ∃ o, W.K.lookup sysModules = some o ∧ o.cls = .type "dict") {sh : Shared} {pins : List (Addr × Obj)} {σ' : L2.St} (I : L2.Inv X pins σ' H sh) (r : Rel W g P s σ H) : ∀ {ds : List (Key × Dat)} {xs : List (Key × V)} {ps : List (PyData × PyData)} {vs : List (Key × Value)} {es : List DictEntry}, Rk W g ds xs → pdK ds = some ps → KV xs vs → Pairs (mixKind X.prog X.w) es vs →
    ∃ as bs, ReadsAll sh.heap (es.map (·.key)) (ps.map (·.1)) as ∧ ReadsAll sh.heap (es.map (·.val)) (ps.map (·.2)) bs ∧ sysModules ∉ as ∧ sysModules ∉ bs
  | _, _, _, _, _, .nil, e, q, pr => by
    cases e
    cases q
    cases pr
    exact ⟨_, _, ReadsAll.nil, ReadsAll.nil, by simp, by simp⟩
  | (k, d) :: ds, _, _, _, _, .cons h1 h2, e, q, pr => by
    unfold pdK at e
    cases a : pdD d with
    | none => rw [a] at e; cases e
    | some p =>
      rw [a] at e
      cases b : pdK ds with
      | none => rw [b] at e; cases e
      | some ps =>
        rw [b] at e
        cases e
        cases q with
        | cons q1 q2 =>
          cases pr with
          | cons p1 p2 p3 =>
            obtain ⟨e1, rv⟩ := q1
            obtain ⟨as, k1, k2⟩ := R.rd hK sm I r h1 a rv
            obtain ⟨bs, cs, k3, k4, k5, k6⟩ := Rk.rd hK sm I r h2 b q2 p3
            rw [← p2] at k1
            rw [← e1] at p1
            exact ⟨_, _, ReadsAll.cons (key_reads p1) k3, ReadsAll.cons k1 k4, by simpa using k5, by
              rw [List.mem_append]
              rintro (z | z)
              · exact k2 z
              · exact k6 z⟩
end
theorem VwR.rd (hK : X.K = W.K) (sm : ∃ o, W.K.lookup sysModules = some o ∧ o.cls = .type "dict") {sh : Shared} {pins : List (Addr × Obj)} {σ' : L2.St} (I : L2.Inv X pins σ' H sh) (r : Rel W g P s σ H) {w : Vw} {v : V} {p : PyData} {u : Value} (q : VwR W g H w v) (e : w.pd = some p) (ru : L2.RelV v u) : ∃ as, Reads sh.heap u p as ∧ sysModules ∉ as := by
  cases w with
  | dt d => exact R.rd hK sm I r q e ru
  | mb o =>
    obtain ⟨a, ho, rfl, h1, h2⟩ := q
    obtain rfl : u = Value.ref a := ru
    cases o <;> cases ho <;> first | exact False.elim h2 | skip
    · rename_i ds vs
      have e' : (pdL ds).map PyData.list = some _ := e
      cases h : pdL ds with
      | none => rw [h] at e'; cases e'
      | some ps =>
        rw [h] at e'
        cases e'
        obtain ⟨its, rv, ⟨o, n, ho, hc, _, hd⟩, _⟩ := I.list (SqL.of h1)
        obtain ⟨as, k1, k2⟩ := Rs.rd hK sm I r h2 h rv
        exact ⟨_, Reads.list ho hc hd k1, by
          rw [List.mem_cons]
          rintro (z | z)
          · exact SmD.no sm (hK ▸ I.kIn) ho hc z
          · exact k2 z⟩
    · rename_i ds vs
      have e' : (pdK ds).map PyData.dict = some _ := e
      cases h : pdK ds with
      | none => rw [h] at e'; cases e'
      | some ps =>
        rw [h] at e'
        cases e'
        obtain ⟨_, hs, vs, kv, ⟨o, es, ep, ho, ⟨hc, _, _⟩, hd, _, hp, _⟩⟩ := L2.dk_of I.hok h1
        obtain ⟨as, bs, k1, k2, k3, k4⟩ := Rk.rd hK sm I r h2 h kv hp
        exact ⟨_, Reads.dict ho hc hd k1 k2, by
          rw [List.cons_append, List.mem_cons, List.mem_append]
          rintro (z | z | z)
          · rw [z] at hs
            simp at hs
          · exact k3 z
          · exact k4 z⟩
    · cases e
theorem strsOf_ok : ∀ {ds : List Dat} {vs : List V} {xs : List Str}, Rs W g ds vs → strsOf ds = some xs → vs = xs.map V.str
  | _, _, _, .nil, e => by cases e; rfl
  | d :: ds, _, _, .cons h1 h2, e => by
    cases d <;> first | (exact absurd e (by intro z; cases z)) | skip
    rename_i x
    have e' : (strsOf ds).map (x :: ·) = some _ := e
    cases a : strsOf ds with
    | none => rw [a] at e'; cases e'
    | some ys =>
      rw [a] at e'
      cases e'
      obtain rfl := R.strE h1
      rw [strsOf_ok h2 a]
      rfl
theorem blsOf_ok : ∀ {ds : List Dat} {vs : List V} {xs : List Bool}, Rs W g ds vs → blsOf ds = some xs → vs = xs.map V.bl
  | _, _, _, .nil, e => by cases e; rfl
  | d :: ds, _, _, .cons h1 h2, e => by
    cases d <;> first | (exact absurd e (by intro z; cases z)) | skip
    rename_i x
    have e' : (blsOf ds).map (x :: ·) = some _ := e
    cases a : blsOf ds with
    | none => rw [a] at e'; cases e'
    | some ys =>
      rw [a] at e'
      cases e'
      obtain rfl := R.blE h1
      rw [blsOf_ok h2 a]
      rfl
theorem intsOf_ok : ∀ {ds : List Dat} {vs : List V} {xs : List Int}, Rs W g ds vs → intsOf ds = some xs → vs = xs.map V.int
  | _, _, _, .nil, e => by cases e; rfl
  | d :: ds, _, _, .cons h1 h2, e => by
    cases d <;> first | (exact absurd e (by intro z; cases z)) | skip
    rename_i x
    have e' : (intsOf ds).map (x :: ·) = some _ := e
    cases a : intsOf ds with
    | none => rw [a] at e'; cases e'
    | some ys =>
      rw [a] at e'
      cases e'
      obtain rfl := R.intE h1
      rw [intsOf_ok h2 a]
      rfl
end
theorem reprOf_ok {p : PyData} {x : Str} (e : reprOf p = some x) : p.showable = true ∧ p.depth ≤ 64 ∧ p.shown.length ≤ sizeLine ∧ x = p.shown := by
  unfold reprOf at e
  split at e
  · rename_i h
    simp only [Bool.and_eq_true, decide_eq_true_eq] at h
    exact ⟨h.1, h.2.1, h.2.2, (Option.some.inj e).symm⟩
  · cases e
/-- repr -/
theorem repr_any {prog : Program} {w : World} {A : Around} {E : Value → Shared → Prop} {s : Shared} {u : Value} {p : PyData} {as : List Addr} {Q : Value → Shared → Prop} (r : Reads s.heap u p as) (hs : p.showable = true) (hd : sysModules ∉ as) (hz : p.depth ≤ 64) (hl : p.shown.length ≤ sizeLine)
    (hg : A.guards = some []) (hu : A.units + 66 < cLine) (hQ : ∀ h' t tk, (∀ b o, s.heap.get? b = some o → h'.get? b = some o) → Q (.str p.shown t) { s with heap := h', toks := tk }) : wpAny (model prog w) A (call (.builtin "repr") [u]) Q E s := by
  cases r with
  | none => exact PySem.P.repr_of_none (hQ s.heap _ _ fun _ _ h => h)
  | bool b => exact PySem.P.repr_of_bool (hQ s.heap _ _ fun _ _ h => h)
  | int i t => exact PySem.P.repr_of_int (of_decide_eq_true hs) (hQ s.heap _ _ fun _ _ h => h)
  | str x t => exact PySem.P.repr_of_str (hQ s.heap _ _ fun _ _ h => h) hl
  | list h1 h2 h3 h4 => exact repr_of_reads' (.list h1 h2 h3 h4) hs (fun _ => hd) hg (by omega) (fun _ _ h => h) hQ hl
  | tuple h1 h2 h3 h4 => exact repr_of_reads' (.tuple h1 h2 h3 h4) hs (fun _ => hd) hg (by omega) (fun _ _ h => h) hQ hl
  | dict h1 h2 h3 h4 h5 => exact repr_of_reads' (.dict h1 h2 h3 h4 h5) hs (fun _ => hd) hg (by omega) (fun _ _ h => h) hQ hl
theorem bi_ok (hK : X.K = W.K) (wk : Wk W T) (hc : X.calm = true) (hg : X.A.guards = some []) (hu : X.A.units + 70 < cLine) (b : Bi) : CallR X b.py (rBi W wx T b) := by
  intro pins s σ H vs us Q I rs h
  obtain ⟨x, xs, σ', rfl, g, P, st, a, ds, r, ra, rds, p1⟩ := h
  obtain ⟨w, e1, p2⟩ := Post.lookE p1
  obtain ⟨rv, e3, p⟩ := Post.optE p2
  clear p1 p2
  have q1 := look_ok r ra e1
  clear e1
  unfold Vw.bi at e3
  split at e3
  · -- len
    cases rds
    cases e4 : w.len with
    | none => rw [e4] at e3; cases e3
    | some n =>
      rw [e4] at e3
      have e3' : some (Rv.val (.int n)) = some rv := e3
      cases e3'
      have q : Q (.int n) H := p g H (.refl g) r _ (R.int _)
      unfold Vw.len at e4
      split at e4
      · obtain rfl := R.strE q1
        split at e4
        · cases e4
          exact call_len_str pins s σ H _ us Q I rs ⟨_, rfl, by assumption, q⟩
        · cases e4
      · split at e4
        · rename_i ys hs
          cases e4
          unfold Vw.seq at hs
          split at hs
          · rename_i hl
            cases hs
            obtain ⟨c, zs, rfl, k2, k3⟩ := q1.lst r hl
            exact call_len_seq pins s σ H _ us Q I rs ⟨c, zs, rfl, .inl (SqL.of k2), by rw [← k3.length]; exact q⟩
          · obtain ⟨c, zs, rfl, k2, k3⟩ := q1.tup r hs
            rw [← hK] at k2
            exact call_len_seq pins s σ H _ us Q I rs ⟨c, zs, rfl, .inr k2, by rw [← k3.length]; exact q⟩
        · split at e4
          · rename_i kvs hd
            cases e4
            obtain ⟨c, zs, rfl, k2, k3⟩ := q1.dct r hd
            obtain ⟨u, rfl, ru⟩ := vals1 rs
            cases ru
            refine d_len I (.inl k2) fun t s' I' => ⟨.int _, H, I', ⟨t, rfl⟩, ?_⟩
            rw [← k3.length]
            exact q
          · cases e4
  · -- tuple
    cases rds
    split at e3
    · rename_i ys hl
      cases e3
      obtain ⟨c, zs, rfl, k2, k3⟩ := q1.lst r hl
      refine call_tupleZ pins s σ H _ us Q I rs ⟨c, zs, rfl, SqL.of k2, fun pp oo hp hd => ?_⟩
      obtain ⟨n1, n2, n3⟩ := r.newZ hp hd k3
      exact p _ _ n1 n2 _ n3
    · cases e4 : w.tup with
      | none => rw [e4] at e3; cases e3
      | some ys =>
        rw [e4] at e3
        have e3' : some (Rv.val (.tup ys)) = some rv := e3
        cases e3'
        have hr : R W g (.tup ys) x := by
          cases w with
          | mb o => cases o <;> cases e4
          | dt d => cases d <;> first | cases e4 | skip
                    exact q1
        obtain ⟨c, zs, rfl, k2, k3⟩ := q1.tup r e4
        rw [← hK] at k2
        exact call_tuple_of pins s σ H _ us Q I rs ⟨c, zs, rfl, .inr ⟨k2, p g H (.refl g) r _ hr⟩⟩
  · -- list
    cases rds
    cases e4 : w.seq with
    | none => rw [e4] at e3; cases e3
    | some ys =>
      rw [e4] at e3
      have e3' : some (Rv.own (.lst ys)) = some rv := e3
      cases e3'
      unfold Vw.seq at e4
      split at e4
      · rename_i hl
        cases e4
        obtain ⟨c, zs, rfl, k2, k3⟩ := q1.lst r hl
        refine call_list_of pins s σ H _ us Q I rs ⟨c, zs, rfl, .inl (SqL.of k2), fun pp hp => ?_⟩
        obtain ⟨n1, n2⟩ := r.newOwn (o := .lst _) (ho := .lst _) hp k3
        exact p g _ (.refl g) n1 _ n2
      · obtain ⟨c, zs, rfl, k2, k3⟩ := q1.tup r e4
        rw [← hK] at k2
        refine call_list_of pins s σ H _ us Q I rs ⟨c, zs, rfl, .inr k2, fun pp hp => ?_⟩
        obtain ⟨n1, n2⟩ := r.newOwn (o := .lst ys) (ho := .lst zs) hp k3
        exact p g _ (.refl g) n1 _ n2
  · -- str of a text
    cases rds
    cases e3
    obtain rfl := R.strE q1
    exact SkE.call_str_str pins s σ H _ us Q I rs ⟨_, rfl, p g H (.refl g) r _ (R.str _)⟩
  · cases rds
    obtain rfl := R.intE q1
    split at e3
    · cases e3
      exact call_str_int pins s σ H _ us Q I rs ⟨_, rfl, by assumption, p g H (.refl g) r _ (R.str _)⟩
    · cases e3
  · -- repr
    cases rds
    cases e4 : w.pd.bind reprOf with
    | none => rw [e4] at e3; cases e3
    | some z =>
      rw [e4] at e3
      have e3' : some (Rv.val (.str z)) = some rv := e3
      cases e3'
      obtain ⟨pd, f1, f2⟩ := Option.bind_eq_some_iff.mp e4
      obtain ⟨k1, k2, k3, rfl⟩ := reprOf_ok f2
      obtain ⟨u, rfl, ru⟩ := vals1 rs
      obtain ⟨as, rd, hm⟩ := q1.rd hK wk.sm I r f1 ru
      have q : Q (.str pd.shown) H := p g H (.refl g) r _ (R.str _)
      exact repr_any rd k1 hm k2 k3 hg (by omega) fun h' t tk hk => ⟨.str _, H, I.kept hk, ⟨t, rfl⟩, q⟩
  · -- all
    cases rds
    cases e4 : w.lst.bind blsOf with
    | none => rw [e4] at e3; cases e3
    | some z =>
      rw [e4] at e3
      have e3' : some (Rv.val (.bl (z.all id))) = some rv := e3
      cases e3'
      obtain ⟨ys, f1, f2⟩ := Option.bind_eq_some_iff.mp e4
      obtain ⟨c, zs, rfl, k2, k3⟩ := q1.lst r f1
      obtain rfl := blsOf_ok k3 f2
      exact cr_all hc pins s σ H _ us Q I rs ⟨c, z, rfl, SqL.of k2, p g H (.refl g) r _ (R.bl _)⟩
  · -- any
    cases rds
    cases e4 : w.lst.bind blsOf with
    | none => rw [e4] at e3; cases e3
    | some z =>
      rw [e4] at e3
      have e3' : some (Rv.val (.bl (z.any id))) = some rv := e3
      cases e3'
      obtain ⟨ys, f1, f2⟩ := Option.bind_eq_some_iff.mp e4
      obtain ⟨c, zs, rfl, k2, k3⟩ := q1.lst r f1
      obtain rfl := blsOf_ok k3 f2
      exact cr_any hc pins s σ H _ us Q I rs ⟨c, z, rfl, SqL.of k2, p g H (.refl g) r _ (R.bl _)⟩
  · -- isinstance of an error
    cases rds with
    | cons h1 h2 =>
      cases h2
      rename_i cx fx dd u
      cases e4 : isaXD T cx dd with
      | none => rw [e4] at e3; cases e3
      | some z =>
        rw [e4] at e3
        have e3' : some (Rv.val (.bl z)) = some rv := e3
        cases e3'
        exact call_isX hK wk I r q1 h1 rs e4 (p g H (.refl g) r _ (R.bl _))
  · -- isinstance
    cases rds with
    | cons h1 h2 =>
      cases h2
      rename_i c _ u
      cases e4 : isaV T w c with
      | none => rw [e4] at e3; cases e3
      | some z =>
        rw [e4] at e3
        have e3' : some (Rv.val (.bl z)) = some rv := e3
        cases e3'
        obtain ⟨t, cc, k1, k2, k3⟩ := isaV_ok wk r q1 h1 e4
        rw [← hK] at k2 k3
        exact call_isi pins s σ H _ us Q I rs ⟨x, _, t, cc, z, rfl, k1, k2, k3, p g H (.refl g) r _ (R.bl _)⟩
  · -- max
    cases rds
    cases e4 : (w.lst.bind intsOf).bind List.max? with
    | none => rw [e4] at e3; cases e3
    | some z =>
      rw [e4] at e3
      have e3' : some (Rv.val (.int z)) = some rv := e3
      cases e3'
      obtain ⟨ns, f0, f3⟩ := Option.bind_eq_some_iff.mp e4
      obtain ⟨ys, f1, f2⟩ := Option.bind_eq_some_iff.mp f0
      obtain ⟨c, zs, rfl, k2, k3⟩ := q1.lst r f1
      obtain rfl := intsOf_ok k3 f2
      obtain ⟨m1, m2⟩ := List.max?_eq_some_iff.mp f3
      refine cr_max hc pins s σ H _ us Q I rs ⟨c, ns, rfl, SqL.of k2, List.length_pos_of_mem m1, fun m h1 h2 => ?_⟩
      obtain rfl : m = z := Int.le_antisymm (m2 m h1) (h2 z m1)
      exact p g H (.refl g) r _ (R.int _)
  · -- min
    cases rds
    cases e4 : (w.lst.bind intsOf).bind List.min? with
    | none => rw [e4] at e3; cases e3
    | some z =>
      rw [e4] at e3
      have e3' : some (Rv.val (.int z)) = some rv := e3
      cases e3'
      obtain ⟨ns, f0, f3⟩ := Option.bind_eq_some_iff.mp e4
      obtain ⟨ys, f1, f2⟩ := Option.bind_eq_some_iff.mp f0
      obtain ⟨c, zs, rfl, k2, k3⟩ := q1.lst r f1
      obtain rfl := intsOf_ok k3 f2
      obtain ⟨m1, m2⟩ := List.min?_eq_some_iff.mp f3
      refine cr_min hc pins s σ H _ us Q I rs ⟨c, ns, rfl, SqL.of k2, List.length_pos_of_mem m1, fun m h1 h2 => ?_⟩
      obtain rfl : m = z := Int.le_antisymm (h2 z m1) (m2 m h1)
      exact p g H (.refl g) r _ (R.int _)
  · -- sum
    cases rds
    cases e4 : w.lst.bind intsOf with
    | none => rw [e4] at e3; cases e3
    | some ns =>
      rw [e4] at e3
      have e3' : some (Rv.val (.int ns.sum)) = some rv := e3
      cases e3'
      obtain ⟨ys, f1, f2⟩ := Option.bind_eq_some_iff.mp e4
      obtain ⟨c, zs, rfl, k2, k3⟩ := q1.lst r f1
      obtain rfl := intsOf_ok k3 f2
      exact cr_sum hc pins s σ H _ us Q I rs ⟨c, ns, rfl, SqL.of k2, p g H (.refl g) r _ (R.int _)⟩
  · cases e3
end
end En
set_option maxHeartbeats 4000000
/-! En10: methods of built-in types; calls of built-ins by their syntax. -/
namespace En
open PySem PySem.Spec PyProof.Rows L2
section
variable {W : Wd} {wx : WX} {X : Cx} {T : Tab}
section
variable {g : Gh} {P : Hp} {s : Stt} {σ : L2.St} {H : Hp}
/-- an object of ours at a becomes another: all that is not at a stands -/
theorem Rel.setOwn {i : Nat} {o o' : Mob} {a : Addr} {ho' : HO} (r : Rel W g P s σ H) (hi : s.env[i]? = some (.own o)) (ha : σ[i]? = some (some (.ref a))) (q : RO W g o' ho') : Rel W g P { s with env := s.env.set i (.own o') } σ (upd H a ho') := by
  obtain ⟨b, ho, e1, e2, e3, e4, e5, e6⟩ := r.slo i o hi
  rw [ha] at e1
  cases e1
  have hil : i < s.env.length := (List.getElem?_eq_some_iff.mp hi).1
  have ow : ∀ {j : Nat}, OwnAt (s.env.set i (.own o')) j → OwnAt s.env j := fun {j} ⟨x, h⟩ => by
    rcases getE_set h with ⟨z, _⟩ | ⟨_, z⟩
    · rw [← z]
      exact ⟨o, hi⟩
    · exact ⟨x, z⟩
  refine ⟨fun c u e => ?_, fun c u e => ?_, by simpa using r.len, r.n, fun k u e => ?_, r.inj, r.stf, fun j d e => ?_, fun j u e => ?_, fun j k c h1 h2 => r.sld j k c (ow h1) (ow h2)⟩
  · rw [upd_ne (fun z => by rw [z, e4] at e; cases e)]
    exact r.fz c u e
  · obtain ⟨k1, k2, k3⟩ := r.pr c u e
    rw [upd_ne (fun z => by rw [z, e5] at e; cases e)]
    exact ⟨k1, k2, k3⟩
  · obtain ⟨h, k1, k2⟩ := r.sto k u e
    have hk : k < g.n := by
      rw [← r.n]
      exact (List.getElem?_eq_some_iff.mp e).1
    exact ⟨h, by rw [upd_ne (e6 k hk)]; exact k1, k2⟩
  · rcases getE_set e with ⟨_, z⟩ | ⟨_, z⟩
    · cases z
    · exact r.slv j d z
  · rcases getE_set e with ⟨z1, z2⟩ | ⟨z1, z2⟩
    · cases z2
      subst z1
      exact ⟨a, ho', ha, upd_same, q, e4, e5, e6⟩
    · obtain ⟨c, h, k1, k2, k3, k4, k5, k6⟩ := r.slo j u z2
      refine ⟨c, h, k1, ?_, k3, k4, k5, k6⟩
      rw [upd_ne]
      · exact k2
      · intro z
        subst z
        exact z1 (r.sld i j c ⟨o, hi⟩ ⟨u, z2⟩ ha k1)
theorem Rel.setSto {n : Nat} {o' : Mob} {ho' : HO} (r : Rel W g P s σ H) (hn : n < g.n) (q : RO W g o' ho') : Rel W g P { s with sto := s.sto.set n o' } σ (upd H (g.ρ n) ho') := by
  refine ⟨fun c u e => ?_, fun c u e => ?_, r.len, by simpa using r.n, fun k u e => ?_, r.inj, r.stf, r.slv, fun j u e => ?_, r.sld⟩
  · rw [upd_ne (fun z => by rw [z, r.stf n hn] at e; cases e)]
    exact r.fz c u e
  · obtain ⟨k1, k2, k3⟩ := r.pr c u e
    rw [upd_ne (fun z => k3 n hn z.symm)]
    exact ⟨k1, k2, k3⟩
  · rcases getE_set e with ⟨z1, z2⟩ | ⟨z1, z2⟩
    · cases z2
      subst z1
      exact ⟨ho', upd_same, q⟩
    · obtain ⟨h, k1, k2⟩ := r.sto k u z2
      have hk : k < g.n := by
        rw [← r.n]
        exact (List.getElem?_eq_some_iff.mp z2).1
      refine ⟨h, ?_, k2⟩
      rw [upd_ne (fun z => z1 (r.inj k n hk hn z).symm)]
      exact k1
  · obtain ⟨c, h, k1, k2, k3, k4, k5, k6⟩ := r.slo j u e
    refine ⟨c, h, k1, ?_, k3, k4, k5, k6⟩
    rw [upd_ne (k6 n hn).symm]
    exact k2
theorem setMob_ok {x : Rv} {v : V} {o o' : Mob} (r : Rel W g P s σ H) (q : RvR W g P s σ H x v) (e : look s x = some (.mb o)) : (∃ s', setMob x o' s = .ok () s' ∧ ∃ a ho, v = .ref a ∧ H a = some ho ∧ RO W g o ho ∧ ∀ ho', RO W g o' ho' → Rel W g P s' σ (upd H a ho')) ∨ setMob x o' s = .stuck := by
  have sto : ∀ {n : Nat}, v = .ref (g.ρ n) → n < g.n → s.sto[n]? = some o → ∃ a ho, v = .ref a ∧ H a = some ho ∧ RO W g o ho ∧ ∀ ho', RO W g o' ho' → Rel W g P { s with sto := s.sto.set n o' } σ (upd H a ho') := fun {n} hv hn h => by
    obtain ⟨h1, k1, k2⟩ := r.sto n o h
    exact ⟨_, h1, hv, k1, k2, fun ho' q' => r.setSto hn q'⟩
  have ofd : ∀ {d : Dat}, Vw.of s d = some (.mb o) → ∃ n, d = .ref n ∧ s.sto[n]? = some o := fun {d} h => by
    cases d <;> first | (exact absurd (Option.some.inj h) (fun z => nomatch z)) | skip
    rename_i n
    have h' : (s.sto[n]?).map Vw.mb = some (.mb o) := h
    cases z : s.sto[n]? with
    | none => rw [z] at h'; cases h'
    | some u =>
      rw [z] at h'
      cases h'
      exact ⟨n, rfl, z⟩
  cases x with
  | own o1 => exact .inr rfl
  | val d =>
    obtain ⟨n, rfl, h⟩ := ofd e
    have hl : n < s.sto.length := (List.getElem?_eq_some_iff.mp h).1
    cases q with
    | ref hn => exact .inl ⟨_, if_pos hl, sto rfl hn h⟩
  | bor i =>
    have q' : σ[i]? = some (some v) := q
    unfold look at e
    cases h : s.env[i]? with
    | none =>
      simp only [h] at e
      cases e
    | some sl =>
      cases sl with
      | no =>
        simp only [h] at e
        cases e
      | own o1 =>
        simp only [h] at e
        cases e
        obtain ⟨a, ho, e1, e2, e3, _⟩ := r.slo i o h
        rw [q'] at e1
        cases e1
        refine .inl ⟨{ s with env := s.env.set i (.own o') }, ?_, a, ho, rfl, e2, e3, fun ho' q2 => r.setOwn h q' q2⟩
        unfold setMob
        simp only [h]
      | val d =>
        simp only [h] at e
        obtain ⟨n, rfl, h2⟩ := ofd e
        have hl : n < s.sto.length := (List.getElem?_eq_some_iff.mp h2).1
        obtain ⟨v', e1, e2⟩ := r.slv i _ h
        rw [q'] at e1
        cases e1
        cases e2 with
        | ref hn =>
          refine .inl ⟨_, ?_, sto rfl hn h2⟩
          unfold setMob
          simp only [h]
          exact if_pos hl
end
def rMth (W : Wd) (wx : WX) (m : Mt) : V → List V → Hp → VK → Prop := fun x xs H Q => ∃ σ, fin2 W wx rvK dsK rvK (mthK m) σ x xs H Q
theorem Post.mthE {g : Gh} {P : Hp} {σ : L2.St} {s : Stt} {H : Hp} {m : Mt} {x : Rv} {v : V} {ds : List Dat} {K : Rv → Stt → Gh → Hp → Prop} (r : Rel W g P s σ H) (q : RvR W g P s σ H x v) (h : Post W wx g P σ (mthK m x ds s) K) :
    ∃ w p, look s x = some w ∧ VwR W g H w v ∧ mthV m w ds = some p ∧ (p.1 = none → Post W wx g P σ (.ok p.2 s) K) ∧ ∀ o o', w = .mb o → p.1 = some o' → ∃ s' a ho, v = .ref a ∧ H a = some ho ∧ RO W g o ho ∧ (∀ ho', RO W g o' ho' → Rel W g P s' σ (upd H a ho')) ∧ Post W wx g P σ (.ok p.2 s') K := by
  obtain ⟨w, e1, h1⟩ := Post.lookE h
  obtain ⟨⟨p1, p2⟩, e2, h2⟩ := Post.optE (Post.bindE h1)
  refine ⟨w, (p1, p2), e1, look_ok r q e1, e2, fun hp => ?_, fun o o' hw hp => ?_⟩
  · have h3 := h2 g H (.refl g) r
    obtain rfl : p1 = none := hp
    exact h3
  · subst hw
    have h3 := h2 g H (.refl g) r
    obtain rfl : p1 = some o' := hp
    have h3' : Post W wx g P σ ((setMob x o').bind (fun _ => Ac.ret p2) s) K := h3
    rcases setMob_ok (o' := o') r q e1 with ⟨s', e3, a, ho, k1, k2, k3, k4⟩ | e3
    · refine ⟨s', a, ho, k1, k2, k3, k4, ?_⟩
      unfold Ac.bind at h3'
      rw [e3] at h3'
      exact h3'
    · unfold Ac.bind at h3'
      rw [e3] at h3'
      exact h3'.elim
theorem Rs.one {g : Gh} {d : Dat} {vs : List V} (h : Rs W g [d] vs) : ∃ v, vs = [v] ∧ R W g d v := by
  cases h with
  | cons r t => cases t; exact ⟨_, rfl, r⟩
theorem Rs.two {g : Gh} {d e : Dat} {vs : List V} (h : Rs W g [d, e] vs) : ∃ v u, vs = [v, u] ∧ R W g d v ∧ R W g e u := by
  cases h with
  | cons r t =>
    cases t with
    | cons r' t => cases t; exact ⟨_, _, rfl, r, r'⟩
theorem mtr_append : MtR X "list.append" (rMth W wx .append) := by
  intro pins s σ H x vs v us Q I rx rs h
  obtain ⟨σ', g, P, st, a, ds, r, ra, rds, p⟩ := h
  obtain ⟨w, p2, e1, q1, e2, _, h3⟩ := Post.mthE r ra p
  have e2' : mAppend w ds = some p2 := e2
  unfold mAppend at e2'
  split at e2'
  · rename_i xs d
    split at e2'
    · rename_i hz
      cases e2'
      obtain ⟨s', b, ho, rfl, k2, k3, k4, k5⟩ := h3 _ _ rfl rfl
      cases ho <;> first | exact False.elim k3 | skip
      rename_i zs
      have k3' : Rs W g xs zs := k3
      obtain ⟨u, rfl, ru⟩ := rds.one
      refine mt_append pins s σ H _ _ v us Q I rx rs ⟨b, zs, u, rfl, rfl, k2, by rw [← k3'.length]; exact hz, ?_⟩
      exact k5 g _ (.refl g) (k4 (.lst _) (k3'.append (.cons ru .nil))) _ R.non
    · cases e2'
  · cases e2'
theorem mtr_pop : MtR X "list.pop" (rMth W wx .pop) := by
  intro pins s σ H x vs v us Q I rx rs h
  obtain ⟨σ', g, P, st, a, ds, r, ra, rds, p⟩ := h
  obtain ⟨w, p2, e1, q1, e2, _, h3⟩ := Post.mthE r ra p
  have e2' : mPop w ds = some p2 := e2
  unfold mPop at e2'
  split at e2'
  · rename_i xs
    cases rds
    cases e4 : xs[xs.length - 1]? with
    | none => rw [e4] at e2'; cases e2'
    | some y =>
      rw [e4] at e2'
      have e5 : some (some (Mob.lst xs.dropLast), Rv.val y) = some p2 := e2'
      cases e5
      obtain ⟨s', b, ho, rfl, k2, k3, k4, k5⟩ := h3 _ _ rfl rfl
      cases ho <;> first | exact False.elim k3 | skip
      rename_i zs
      have k3' : Rs W g xs zs := k3
      obtain ⟨z, z1, z2⟩ := k3'.get e4
      refine mt_pop pins s σ H _ _ v us Q I rx rs ⟨b, zs, z, rfl, rfl, k2, by rw [← k3'.length]; exact z1, ?_⟩
      exact k5 g _ (.refl g) (k4 (.lst _) k3'.dropLast) _ z2
  · cases e2'
theorem mtr_extend : MtR X "list.extend" (rMth W wx .extend) := by
  intro pins s σ H x vs v us Q I rx rs h
  obtain ⟨σ', g, P, st, a, ds, r, ra, rds, p⟩ := h
  obtain ⟨w, p2, e1, q1, e2, _, h3⟩ := Post.mthE r ra p
  have e2' : mExtend w ds = some p2 := e2
  unfold mExtend at e2'
  split at e2'
  · rename_i xs ys
    split at e2'
    · rename_i hz
      cases e2'
      obtain ⟨s', b, ho, rfl, k2, k3, k4, k5⟩ := h3 _ _ rfl rfl
      cases ho <;> first | exact False.elim k3 | skip
      rename_i zs
      have k3' : Rs W g xs zs := k3
      obtain ⟨u, rfl, ru⟩ := rds.one
      cases ru with
      | lst f1 f2 =>
        refine mt_extend pins s σ H _ _ v us Q I rx rs ⟨b, _, zs, _, rfl, rfl, k2, r.fz _ _ f1, by rw [← k3'.length, ← f2.length]; exact hz, ?_⟩
        exact k5 g _ (.refl g) (k4 (.lst _) (k3'.append f2)) _ R.non
    · cases e2'
  · cases e2'
theorem mtr_upper : MtR X "str.upper" (rMth W wx .upper) := by
  intro pins s σ H x vs v us Q I rx rs h
  obtain ⟨σ', g, P, st, a, ds, r, ra, rds, p⟩ := h
  obtain ⟨w, p2, e1, q1, e2, h2, h3⟩ := Post.mthE r ra p
  have e2' : mUpper w ds = some p2 := e2
  clear h3 e1 e2 p
  unfold mUpper at e2'
  split at e2'
  · split at e2'
    · rename_i hz
      cases e2'
      cases rds
      obtain rfl := R.strE q1
      exact mt_upper pins s σ H _ _ v us Q I rx rs ⟨_, rfl, rfl, hz, h2 rfl g H (.refl g) r _ (R.str _)⟩
    · cases e2'
  · cases e2'
theorem Rs.strs {g : Gh} : ∀ (xs : List Str), Rs W g (xs.map Dat.str) (xs.map V.str)
  | [] => .nil
  | x :: r => .cons (.str x) (Rs.strs r)
theorem mtr_split : MtR X "str.split" (rMth W wx .split) := by
  intro pins s σ H x vs v us Q I rx rs h
  obtain ⟨σ', g, P, st, a, ds, r, ra, rds, p⟩ := h
  obtain ⟨w, p2, e1, q1, e2, h2, h3⟩ := Post.mthE r ra p
  have e2' : mSplit w ds = some p2 := e2
  clear h3 e1 e2 p
  unfold mSplit at e2'
  split at e2'
  · split at e2'
    · rename_i hz
      cases e2'
      obtain ⟨u, rfl, ru⟩ := rds.one
      obtain rfl := R.strE q1
      obtain rfl := R.strE ru
      refine mt_split pins s σ H _ _ v us Q I rx rs ⟨_, _, rfl, rfl, hz.1, hz.2, fun pp hp => ?_⟩
      obtain ⟨n1, n2⟩ := r.newOwn (o := .lst _) (ho := .lst _) hp (Rs.strs _)
      exact h2 rfl g _ (.refl g) n1 _ n2
    · cases e2'
  · cases e2'
theorem mtr_join (hK : X.K = W.K) : MtR X "str.join" (rMth W wx .join) := by
  intro pins s σ H x vs v us Q I rx rs h
  obtain ⟨σ', g, P, st, a, ds, r, ra, rds, p⟩ := h
  obtain ⟨w, p2, e1, q1, e2, h2, h3⟩ := Post.mthE r ra p
  have e2' : mJoin w ds = some p2 := e2
  clear h3 e1 e2 p
  unfold mJoin at e2'
  split at e2'
  · rename_i z d
    split at e2'
    · rename_i ys hy
      split at e2'
      · rename_i hz
        cases e2'
        obtain ⟨u, rfl, ru⟩ := rds.one
        obtain rfl := R.strE q1
        have q := h2 rfl g H (.refl g) r _ (R.str _)
        obtain ⟨l, f1, f2⟩ := Option.bind_eq_some_iff.mp hy
        cases d <;> first | cases f1 | skip
        · cases ru with
          | tup k1 k2 =>
            obtain rfl := strsOf_ok k2 f2
            exact mt_join pins s σ H _ _ v us Q I rx rs ⟨_, _, ys, rfl, rfl, .inr (by rw [hK]; exact sqT_mono r.fz k1.sq), hz, q⟩
        · cases ru with
          | lst k1 k2 =>
            obtain rfl := strsOf_ok k2 f2
            exact mt_join pins s σ H _ _ v us Q I rx rs ⟨_, _, ys, rfl, rfl, .inl (SqL.of (r.fz _ _ k1)), hz, q⟩
      · cases e2'
    · cases e2'
  · cases e2'
theorem kyD_ok {g : Gh} {d : Dat} {v : V} {k : Key} (h : kyD d = some k) (q : R W g d v) : v = kV k := by
  cases d <;> first | cases h | skip
  · obtain rfl := R.intE q; rfl
  · obtain rfl := R.strE q; rfl
theorem mtr_get (hu : X.A.units + 64 < cLine) : MtR X "dict.get" (rMth W wx .get) := by
  intro pins s σ H x vs v us Q I rx rs h
  obtain ⟨σ', g, P, st, a, ds, r, ra, rds, p⟩ := h
  obtain ⟨w, p2, e1, q1, e2, h2, h3⟩ := Post.mthE r ra p
  have e2' : mGet w ds = some p2 := e2
  clear h3 e1 e2 p
  unfold mGet at e2'
  split at e2'
  · split at e2'
    · rename_i kvs ky hd hk
      cases e2'
      obtain ⟨u, rfl, ru⟩ := rds.one
      obtain rfl := kyD_ok hk ru
      obtain ⟨c, zs, rfl, k2, k3⟩ := q1.dct r hd
      cases rx
      obtain ⟨iu, rfl, riu⟩ := vals1 rs
      refine d_get1 (by omega) I (DGet.k (k := ky) k2) riu fun w' s' I' rw' => ⟨_, H, I', rw', ?_⟩
      cases e5 : getK kvs ky with
      | none =>
        rw [e5] at h2
        rw [(k3.val ky).2 e5]
        exact h2 rfl g H (.refl g) r _ R.non
      | some d =>
        rw [e5] at h2
        obtain ⟨z, z1, z2⟩ := (k3.val ky).1 d e5
        rw [z1]
        exact h2 rfl g H (.refl g) r _ z2
    · cases e2'
  · split at e2'
    · rename_i d _ _ kvs ky hd hk
      cases e2'
      obtain ⟨u, u2, rfl, ru, ru2⟩ := rds.two
      obtain rfl := kyD_ok hk ru
      obtain ⟨c, zs, rfl, k2, k3⟩ := q1.dct r hd
      cases rx
      obtain ⟨iu, iu2, rfl, riu, riu2⟩ := vals2 rs
      refine d_get2 (by omega) I (DGet.k (k := ky) k2) riu riu2 fun w' s' I' rw' => ⟨_, H, I', rw', ?_⟩
      cases e5 : getK kvs ky with
      | none =>
        rw [e5] at h2
        rw [(k3.val ky).2 e5]
        exact h2 rfl g H (.refl g) r _ ru2
      | some d =>
        rw [e5] at h2
        obtain ⟨z, z1, z2⟩ := (k3.val ky).1 d e5
        rw [z1]
        exact h2 rfl g H (.refl g) r _ z2
    · cases e2'
  · cases e2'
/-- a method call's action -/
def mthA (m : Mt) (ma : Ac Rv) (ms : Ac (List Dat)) : Ac Rv := ma.bind fun x => (lookA x).bind fun w => if w.kind = some (mtTy m) then ms.bind fun ds => mthK m x ds else Ac.stk
theorem kind_ok {g : Gh} {P : Hp} {s : Stt} {σ : L2.St} {H : Hp} (r : Rel W g P s σ H) {w : Vw} {v : V} {T : String} (q : VwR W g H w v) (e : w.kind = some T) : tyV W.K T v H := by
  cases w with
  | mb o =>
    obtain ⟨a, ho, rfl, h1, h2⟩ := q
    cases o <;> cases ho <;> first | exact False.elim h2 | skip
    · cases e
      exact .inl ⟨rfl, _, SqL.of h1⟩
    · cases e
      exact .inr (.inr (.inl ⟨rfl, .inl ⟨_, h1⟩⟩))
    · cases e
  | dt d =>
    have q' : R W g d v := q
    cases q' <;> first | cases e | skip
    · exact rfl
    · exact .inr (.inr (.inl ⟨rfl, .inl ⟨_, r.fz _ _ (by assumption)⟩⟩))
theorem mth_imp {m : Mt} {ma : Ac Rv} {ms : Ac (List Dat)} {σ : L2.St} {H : Hp} {Q : VK} (hK : X.K = W.K) (h : tX W wx rvK (mthA m ma ms) σ H Q) : tBM X.K (mtTy m) (rMth W wx m) (tX W wx rvK ma) (tX W wx dsK ms) σ H Q := by
  obtain ⟨g, P, s, r, q⟩ := h
  refine ⟨g, P, s, r, (Post.bindE q).mono fun x s1 g1 H1 l1 r1 q1 v hv => ?_⟩
  obtain ⟨w, e1, q2⟩ := Post.lookE q1
  by_cases hk : w.kind = some (mtTy m)
  · rw [if_pos hk] at q2
    refine ⟨by rw [hK]; exact kind_ok r1 (look_ok r1 hv e1) hk, ?_⟩
    obtain ⟨r2, u2, w2⟩ := rvK.up r1 hv
    refine ⟨g1, rvK.prt P H1 x v, s1, r2, ((Post.bindE q2).under u2 w2).mono fun y s2 g2 H2 l2 r3 p2 u hu => ?_⟩
    exact ⟨σ, g2, P, s2, x, y, r3.weak u2 w2, rvK.go hv l2 r3, hu, p2⟩
  · rw [if_neg hk] at q2
    exact q2.elim
theorem se_mth {m : Mt} {name : Str} {id : String} {o e : Expr} {es : List Expr} {ma : Ac Rv} {ms : Ac (List Dat)} {apos cpos : Pos} (hK : X.K = W.K) (pa : PlainAttrs (mtTy m)) (slot : Slot (mtTy m) name id) (hty : typeOf (.builtin id) = pure (.type "method_descriptor"))
    (hm : MtR X id (rMth W wx m)) (po : SE W wx X ma o) (ps : SA W wx X ms (e :: es))
    (hbase : attributeBase o name X.env (eval o X.env) = eval o X.env)
    (hfew : ((backTo cpos (starEach (e :: es) X.env)).all (fun x => !x.1) && (backToKw cpos (keywordEach [] X.env)).all (fun x => x.1.isSome)
      && decide ((e :: es).length + ([] : List Keyword).length + (if ([] : List Keyword).isEmpty then 0 else 1) < 30)) = true)
    (hline : (apos.endLine == cpos.line) = true) (hs : starEach (e :: es) X.env = (false, eval e X.env) :: starEach es X.env) (hplain : (backTo cpos (starEach es X.env)).any (·.1) = false) :
    SE W wx X (mthA m ma ms) (.Call (.Attribute o name apos) (e :: es) [] cpos) :=
  peImp (pe_bm pa slot hty hm po ps hbase hfew hline hs hplain) fun σ H Q h => mth_imp hK h
theorem se_mth0 {m : Mt} {name : Str} {id : String} {o : Expr} {ma : Ac Rv} {apos cpos : Pos} (hK : X.K = W.K) (pa : PlainAttrs (mtTy m)) (slot : Slot (mtTy m) name id) (hty : typeOf (.builtin id) = pure (.type "method_descriptor"))
    (hm : MtR X id (rMth W wx m)) (po : SE W wx X ma o)
    (hbase : attributeBase o name X.env (eval o X.env) = eval o X.env) (hline : (apos.endLine == cpos.line) = true) :
    SE W wx X (mthA m ma (Ac.ret [])) (.Call (.Attribute o name apos) [] [] cpos) :=
  peImp (pe_bm0 pa slot hty hm po hbase hline) fun σ H Q h => by
    obtain ⟨g, P, s, r, q⟩ := mth_imp (X := X) hK h
    refine ⟨g, P, s, r, q.mono fun x s1 g1 H1 l1 r1 q1 v hv => ?_⟩
    obtain ⟨t, g2, P2, s2, r2, q2⟩ := q1 v hv
    exact ⟨t, q2 g2 H1 (.refl g2) r2 [] .nil⟩
/-! built-in functions -/
def biA (T : Tab) (b : Bi) (ma : Ac Rv) (ms : Ac (List Dat)) : Ac Rv := ma.bind fun x => ms.bind fun ds => biK T b x ds
theorem bi_args {b : Bi} {ma : Ac Rv} {ms : Ac (List Dat)} {σ : L2.St} {H : Hp} {Q : VK} (h : tX W wx rvK (biA T b ma ms) σ H Q) : tCB (rBi W wx T b) (tCons (tX W wx rvK ma) (tX W wx dsK ms)) σ H Q := by
  obtain ⟨g, P, s, r, q⟩ := tX_bind2 h
  exact ⟨g, P, s, r, q.mono fun x s1 g1 H1 l1 r1 q1 v hv => by
    obtain ⟨g2, P2, s2, r2, q2⟩ := q1 v hv
    exact ⟨g2, P2, s2, r2, q2.mono fun y s3 g3 H3 l3 r3 q3 u hu => ⟨_, _, σ, rfl, q3 u hu⟩⟩⟩
theorem se_bi {b : Bi} {e : Expr} {es : List Expr} {ma : Ac Rv} {ms : Ac (List Dat)} {x : Str} {p pos : Pos} (hK : X.K = W.K) (wk : Wk W T) (hc : X.calm = true) (hgd : X.A.guards = some []) (hu : X.A.units + 70 < cLine) (hg : Gl X x) (hm : X.mg x = none) (hv : bootBuiltins x = some b.py)
    (pa : SE W wx X ma e) (ps : SA W wx X ms es) (hn : x ≠ "__name__") (hdb : (x == ("__debug__" : Str)) = false)
    (he : starEach (e :: es) X.env = (false, eval e X.env) :: starEach es X.env) (hpl : (backTo pos (starEach es X.env)).any (·.1) = false) : SE W wx X (biA T b ma ms) (.Call (.Name x p) (e :: es) [] pos) := by
  have hcr := bi_ok (X := X) (T := T) (wx := wx) hK wk hc hgd hu b
  cases b with
  | len => exact peImp (pe_callB hcr hg hm hv (pa_cons pa ps he) hn hdb he hpl) fun σ H Q h => bi_args h
  | tuple => exact peImp (pe_callTy hcr hg hm hv (pa_cons pa ps he) hn hdb he hpl) fun σ H Q h => bi_args h
  | list => exact peImp (pe_callTy hcr hg hm hv (pa_cons pa ps he) hn hdb he hpl) fun σ H Q h => bi_args h
  | str => exact peImp (pe_callTy hcr hg hm hv (pa_cons pa ps he) hn hdb he hpl) fun σ H Q h => bi_args h
  | int => exact peImp (pe_callTy hcr hg hm hv (pa_cons pa ps he) hn hdb he hpl) fun σ H Q h => bi_args h
  | repr => exact peImp (pe_callB hcr hg hm hv (pa_cons pa ps he) hn hdb he hpl) fun σ H Q h => bi_args h
  | all => exact peImp (pe_callB hcr hg hm hv (pa_cons pa ps he) hn hdb he hpl) fun σ H Q h => bi_args h
  | any => exact peImp (pe_callB hcr hg hm hv (pa_cons pa ps he) hn hdb he hpl) fun σ H Q h => bi_args h
  | isi => exact peImp (pe_callB hcr hg hm hv (pa_cons pa ps he) hn hdb he hpl) fun σ H Q h => bi_args h
  | max => exact peImp (pe_callB hcr hg hm hv (pa_cons pa ps he) hn hdb he hpl) fun σ H Q h => bi_args h
  | min => exact peImp (pe_callB hcr hg hm hv (pa_cons pa ps he) hn hdb he hpl) fun σ H Q h => bi_args h
  | sum => exact peImp (pe_callB hcr hg hm hv (pa_cons pa ps he) hn hdb he hpl) fun σ H Q h => bi_args h
end
end En
set_option maxHeartbeats 4000000
/-! En11: statements: readings where the slots change. -/
namespace En
open PySem PySem.Spec PyProof.Rows L2
section
variable (W : Wd) (wx : WX)
/-- behind an action that may write slots; vs: all slots that it may write, as seen by wipe -/
def PostV {α : Type} (g : Gh) (P : Hp) (σ : L2.St) (vs : List Nat) (o : Out α) (K : α → Stt → Gh → L2.St → Hp → Prop) : Prop := match o with
  | .ok a s => ∀ g' σ' H', g.Le g' → Rel W g' P s σ' H' → L2.wipe σ' vs = L2.wipe σ vs → K a s g' σ' H'
  | .exc x s => ∀ g' σ' H' cls d, g.Le g' → Rel W g' P s σ' H' → XR W g' x cls d → wx cls d σ' H'
  | .stuck => False
/-- behind a statement -/
def PostS (g : Gh) (P : Hp) (o : Out Flw) (D : Ends) : Prop := match o with
  | .ok .nx s => ∀ g' σ' H', g.Le g' → Rel W g' P s σ' H' → D.nx σ' H'
  | .ok .bk s => ∀ g' σ' H', g.Le g' → Rel W g' P s σ' H' → D.bk σ' H'
  | .ok .ct s => ∀ g' σ' H', g.Le g' → Rel W g' P s σ' H' → D.ct σ' H'
  | .ok (.rt r) s => ∀ g' σ' H' v, g.Le g' → Rel W g' P s σ' H' → RvR W g' P s σ' H' r v → D.rt v H'
  | .exc x s => ∀ g' σ' H' cls d, g.Le g' → Rel W g' P s σ' H' → XR W g' x cls d → wx cls d σ' H'
  | .stuck => False
/-- the reading of a statement -/
def tS (m : Ac Flw) : TS := fun D σ H => ∃ g P s, Rel W g P s σ H ∧ PostS W wx g P (m s) D
/-- the reading of a target; vs: the slots that it may write -/
def tG (a : Rv → Ac Unit) (vs : List Nat) : TG := fun v σ H Q => ∃ g P s x, Rel W g P s σ H ∧ RvR W g P s σ H x v ∧ PostV W wx g P σ vs (a x s) fun _ _ _ σ' H' => Q σ' H'
def tGs (a : List Dat → Ac Unit) (vs : List Nat) : TGs := fun us σ H Q => ∃ g P s ds, Rel W g P s σ H ∧ Rs W g ds us ∧ PostV W wx g P σ vs (a ds s) fun _ _ _ σ' H' => Q σ' H'
end
section
variable {W : Wd} {wx : WX} {g g' : Gh} {P P' : Hp} {s : Stt} {σ : L2.St} {H : Hp} {vs : List Nat}
theorem PostV.mono {α : Type} {o : Out α} {K K' : α → Stt → Gh → L2.St → Hp → Prop} (h : PostV W wx g P σ vs o K) (hK : ∀ a s g' σ' H', g.Le g' → Rel W g' P s σ' H' → L2.wipe σ' vs = L2.wipe σ vs → K a s g' σ' H' → K' a s g' σ' H') : PostV W wx g P σ vs o K' := by
  cases o with
  | ok a s => exact fun g' σ' H' l r e => hK a s g' σ' H' l r e (h g' σ' H' l r e)
  | exc x s => exact h
  | stuck => exact h
theorem PostV.le {α : Type} {o : Out α} {K : α → Stt → Gh → L2.St → Hp → Prop} (h : PostV W wx g P σ vs o K) (l : g.Le g') : PostV W wx g' P σ vs o K := by
  cases o with
  | ok a s => exact fun g2 σ' H' l2 r => h g2 σ' H' (l.trans l2) r
  | exc x s => exact fun g2 σ' H' cls d l2 r x => h g2 σ' H' cls d (l.trans l2) r x
  | stuck => exact h
theorem PostV.under {α : Type} {o : Out α} {K : α → Stt → Gh → L2.St → Hp → Prop} (h : PostV W wx g P σ vs o K) (h1 : ∀ a o, P a = some o → P' a = some o) (h2 : ∀ a, P' a = none → P a = none) : PostV W wx g P' σ vs o K := by
  cases o with
  | ok a s => exact fun g2 σ' H' l r => h g2 σ' H' l (r.weak h1 h2)
  | exc x s => exact fun g2 σ' H' cls d l r x => h g2 σ' H' cls d l (r.weak h1 h2) x
  | stuck => exact h
theorem PostV.wip {α : Type} {o : Out α} {σ0 : L2.St} {K : α → Stt → Gh → L2.St → Hp → Prop} (h : PostV W wx g P σ0 vs o K) (e : L2.wipe σ vs = L2.wipe σ0 vs) : PostV W wx g P σ vs o K := by
  cases o with
  | ok a s => exact fun g2 σ' H' l2 r e2 => h g2 σ' H' l2 r (e2.trans e)
  | exc x s => exact h
  | stuck => exact h
theorem PostV.bindE {α β : Type} {m : Ac α} {f : α → Ac β} {K : β → Stt → Gh → L2.St → Hp → Prop} (h : PostV W wx g P σ vs (m.bind f s) K) : PostV W wx g P σ vs (m s) fun a s1 g1 σ1 H1 => PostV W wx g1 P σ1 vs (f a s1) K := by
  unfold Ac.bind at h
  cases e : m s with
  | ok a s1 =>
    rw [e] at h
    exact fun g1 σ1 H1 l r e => (PostV.le h l).wip e
  | exc x s1 =>
    rw [e] at h
    exact h
  | stuck =>
    rw [e] at h
    exact h
/-- an action that leaves the slots -/
theorem PostV.post {α : Type} {o : Out α} {K : α → Stt → Gh → L2.St → Hp → Prop} (h : PostV W wx g P σ vs o K) : Post W wx g P σ o fun a s g' H' => K a s g' σ H' := by
  cases o with
  | ok a s => exact fun g' H' l r => h g' σ H' l r rfl
  | exc x s => exact fun g' H' cls d l r x => h g' σ H' cls d l r x
  | stuck => exact h
theorem PostV.bindP {α β : Type} {m : Ac α} {f : α → Ac β} {K : β → Stt → Gh → L2.St → Hp → Prop} (h : PostV W wx g P σ vs (m.bind f s) K) : Post W wx g P σ (m s) fun a s1 g1 H1 => PostV W wx g1 P σ vs (f a s1) K := by
  have h2 := PostV.post (PostV.bindE h)
  exact h2
theorem PostS.le {o : Out Flw} {D : Ends} (h : PostS W wx g P o D) (l : g.Le g') : PostS W wx g' P o D := by
  cases o with
  | ok a s =>
    cases a with
    | nx => exact fun g2 σ' H' l2 r => h g2 σ' H' (l.trans l2) r
    | rt r => exact fun g2 σ' H' v l2 r q => h g2 σ' H' v (l.trans l2) r q
    | bk => exact fun g2 σ' H' l2 r => h g2 σ' H' (l.trans l2) r
    | ct => exact fun g2 σ' H' l2 r => h g2 σ' H' (l.trans l2) r
  | exc x s => exact fun g2 σ' H' cls d l2 r x => h g2 σ' H' cls d (l.trans l2) r x
  | stuck => exact h
theorem PostS.under {o : Out Flw} {D : Ends} (h : PostS W wx g P o D) (h1 : ∀ a o, P a = some o → P' a = some o) (h2 : ∀ a, P' a = none → P a = none) : PostS W wx g P' o D := by
  cases o with
  | ok a s =>
    cases a with
    | nx => exact fun g2 σ' H' l r => h g2 σ' H' l (r.weak h1 h2)
    | rt x => exact fun g2 σ' H' v l r q => h g2 σ' H' v l (r.weak h1 h2) (rvK.weak q h2)
    | bk => exact fun g2 σ' H' l r => h g2 σ' H' l (r.weak h1 h2)
    | ct => exact fun g2 σ' H' l r => h g2 σ' H' l (r.weak h1 h2)
  | exc x s => exact fun g2 σ' H' cls d l r x => h g2 σ' H' cls d l (r.weak h1 h2) x
  | stuck => exact h
theorem PostS.mono {o : Out Flw} {D D' : Ends} (h : PostS W wx g P o D) (hn : ∀ s g' σ' H', g.Le g' → Rel W g' P s σ' H' → D.nx σ' H' → D'.nx σ' H') (hr : ∀ v H, D.rt v H → D'.rt v H) (hb : ∀ s g' σ' H', g.Le g' → Rel W g' P s σ' H' → D.bk σ' H' → D'.bk σ' H') (hc : ∀ s g' σ' H', g.Le g' → Rel W g' P s σ' H' → D.ct σ' H' → D'.ct σ' H') : PostS W wx g P o D' := by
  cases o with
  | ok a s =>
    cases a with
    | nx => exact fun g2 σ' H' l r => hn s g2 σ' H' l r (h g2 σ' H' l r)
    | rt x => exact fun g2 σ' H' v l r q => hr _ _ (h g2 σ' H' v l r q)
    | bk => exact fun g2 σ' H' l r => hb s g2 σ' H' l r (h g2 σ' H' l r)
    | ct => exact fun g2 σ' H' l r => hc s g2 σ' H' l r (h g2 σ' H' l r)
  | exc x s => exact h
  | stuck => exact h
/-- an expression's action ahead of a statement's -/
theorem PostS.bindE {α : Type} {m : Ac α} {f : α → Ac Flw} {D : Ends} (h : PostS W wx g P (m.bind f s) D) : Post W wx g P σ (m s) fun a s1 g1 H1 => PostS W wx g1 P (f a s1) D := by
  unfold Ac.bind at h
  cases e : m s with
  | ok a s1 =>
    rw [e] at h
    exact fun g1 H1 l r => PostS.le h l
  | exc x s1 =>
    rw [e] at h
    exact fun g' H' cls d l r x => h g' σ H' cls d l r x
  | stuck =>
    rw [e] at h
    exact h
/-- a target's action ahead of a statement's -/
theorem PostS.bindV {α : Type} {m : Ac α} {f : α → Ac Flw} {D : Ends} (vs : List Nat) (h : PostS W wx g P (m.bind f s) D) : PostV W wx g P σ vs (m s) fun a s1 g1 σ1 H1 => PostS W wx g1 P (f a s1) D := by
  unfold Ac.bind at h
  cases e : m s with
  | ok a s1 =>
    rw [e] at h
    exact fun g1 σ1 H1 l r _ => PostS.le h l
  | exc x s1 =>
    rw [e] at h
    exact h
  | stuck =>
    rw [e] at h
    exact h
/-! slots are written -/
theorem sget_set {l : L2.St} {i j : Nat} {x y : Option V} (h : (l.set i x)[j]? = some y) (hne : i ≠ j) : l[j]? = some y := by
  rcases getE_set h with ⟨z, _⟩ | ⟨_, z⟩
  · exact absurd z hne
  · exact z
theorem Rel.setVal {i : Nat} {d : Dat} {v : V} (r : Rel W g P s σ H) (q : R W g d v) : Rel W g P { s with env := s.env.set i (.val d) } (σ.set i (some v)) H := by
  have ow : ∀ {j : Nat} {o : Mob}, (s.env.set i (.val d))[j]? = some (.own o) → i ≠ j ∧ s.env[j]? = some (.own o) := fun {j o} e => by
    rcases getE_set e with ⟨_, e2⟩ | z
    · cases e2
    · exact z
  refine ⟨r.fz, r.pr, by simpa using r.len, r.n, r.sto, r.inj, r.stf, fun j d' e => ?_, fun j o e => ?_, fun j k a ⟨o, e⟩ ⟨o', e'⟩ h1 h2 => ?_⟩
  · rcases getE_set e with ⟨e1, e2⟩ | ⟨e1, e2⟩
    · cases e2
      subst e1
      have hl : i < σ.length := by
        rw [← r.len]
        have := (List.getElem?_eq_some_iff.mp e).1
        simpa using this
      exact ⟨v, by rw [List.getElem?_set_self hl], q⟩
    · obtain ⟨u, k1, k2⟩ := r.slv j d' e2
      exact ⟨u, by rw [List.getElem?_set_ne e1]; exact k1, k2⟩
  · obtain ⟨e1, e2⟩ := ow e
    obtain ⟨a, ho, k1, k2⟩ := r.slo j o e2
    exact ⟨a, ho, by rw [List.getElem?_set_ne e1]; exact k1, k2⟩
  · obtain ⟨e1, e2⟩ := ow e
    obtain ⟨e3, e4⟩ := ow e'
    exact r.sld j k a ⟨o, e2⟩ ⟨o', e4⟩ (sget_set h1 e1) (sget_set h2 e3)
theorem Rel.setOwnV {i : Nat} {o : Mob} {v : V} (r : Rel W g P s σ H) (q : RvR W g P s σ H (.own o) v) : Rel W g P { s with env := s.env.set i (.own o) } (σ.set i (some v)) H := by
  obtain ⟨a, ho, rfl, hH, hR, hF, hP, hn, hs⟩ := q
  have at_ : ∀ {x : Slt}, (s.env.set i (.own o))[i]? = some x → (σ.set i (some (.ref a)))[i]? = some (some (.ref a)) := fun {x} e => by
    have hl : i < σ.length := by
      rw [← r.len]
      have := (List.getElem?_eq_some_iff.mp e).1
      simpa using this
    exact List.getElem?_set_self hl
  refine ⟨r.fz, r.pr, by simpa using r.len, r.n, r.sto, r.inj, r.stf, fun j d' e => ?_, fun j o' e => ?_, fun j k b ⟨o1, e⟩ ⟨o2, e'⟩ h1 h2 => ?_⟩
  · rcases getE_set e with ⟨e1, e2⟩ | ⟨e1, e2⟩
    · cases e2
    · obtain ⟨u, k1, k2⟩ := r.slv j d' e2
      exact ⟨u, by rw [List.getElem?_set_ne e1]; exact k1, k2⟩
  · rcases getE_set e with ⟨e1, e2⟩ | ⟨e1, e2⟩
    · cases e2
      subst e1
      exact ⟨a, ho, at_ e, hH, hR, hF, hP, hn⟩
    · obtain ⟨b, hb, k1, k2⟩ := r.slo j o' e2
      exact ⟨b, hb, by rw [List.getElem?_set_ne e1]; exact k1, k2⟩
  · rcases getE_set e with ⟨e1, e2⟩ | ⟨e1, e2⟩
    · subst e1
      rw [at_ e] at h1
      cases h1
      rcases getE_set e' with ⟨e3, e4⟩ | ⟨e3, e4⟩
      · exact e3
      · exact absurd (sget_set h2 e3) (hs k ⟨o2, e4⟩)
    · rcases getE_set e' with ⟨e3, e4⟩ | ⟨e3, e4⟩
      · subst e3
        rw [at_ e'] at h2
        cases h2
        exact absurd (sget_set h1 e1) (hs j ⟨o1, e2⟩)
      · exact r.sld j k b ⟨o1, e2⟩ ⟨o2, e4⟩ (sget_set h1 e1) (sget_set h2 e3)
end
/-- a slot takes a result -/
def setA (i : Nat) : Rv → Ac Unit := fun r => match r with
  | .own o => setSlot i (.own o)
  | r => (toVal r).bind fun d => setSlot i (.val d)
section
variable {W : Wd} {wx : WX} {g : Gh} {P : Hp} {s : Stt} {σ : L2.St} {H : Hp} {vs : List Nat}
theorem Post.toValE {α : Type} {x : Rv} {v : V} {f : Dat → Ac α} {K : α → Stt → Gh → Hp → Prop} (r : Rel W g P s σ H) (q : RvR W g P s σ H x v) (h : Post W wx g P σ ((toVal x).bind f s) K) : ∃ d s' g', g.Le g' ∧ Rel W g' P s' σ H ∧ R W g' d v ∧ Post W wx g' P σ (f d s') K := by
  have h2 := Post.bindE h
  cases e : toVal x s with
  | ok d s' =>
    rw [e] at h2
    obtain ⟨g', l, r', q'⟩ := toVal_ok r q e
    exact ⟨d, s', g', l, r', q', h2 g' H l r'⟩
  | exc y s' => exact absurd e toVal_ne
  | stuck =>
    rw [e] at h2
    exact h2.elim
theorem PostV.toValE {α : Type} {x : Rv} {v : V} {f : Dat → Ac α} {K : α → Stt → Gh → L2.St → Hp → Prop} (r : Rel W g P s σ H) (q : RvR W g P s σ H x v) (h : PostV W wx g P σ vs ((toVal x).bind f s) K) : ∃ d s' g', g.Le g' ∧ Rel W g' P s' σ H ∧ R W g' d v ∧ PostV W wx g' P σ vs (f d s') K := by
  have h2 := PostV.bindE h
  cases e : toVal x s with
  | ok d s' =>
    rw [e] at h2
    obtain ⟨g', l, r', q'⟩ := toVal_ok r q e
    exact ⟨d, s', g', l, r', q', h2 g' σ H l r' rfl⟩
  | exc y s' => exact absurd e toVal_ne
  | stuck =>
    rw [e] at h2
    exact h2.elim
theorem PostV.lookE {α : Type} {x : Rv} {f : Vw → Ac α} {K : α → Stt → Gh → L2.St → Hp → Prop} (h : PostV W wx g P σ vs ((lookA x).bind f s) K) : ∃ w, look s x = some w ∧ PostV W wx g P σ vs (f w s) K := by
  unfold Ac.bind lookA at h
  cases e : look s x with
  | none =>
    simp only [e] at h
    exact h.elim
  | some w =>
    simp only [e] at h
    exact ⟨w, rfl, h⟩
theorem wipe_setin {i : Nat} {x : Option V} : ∀ {vs : List Nat} {σ : L2.St}, i ∈ vs → L2.wipe (σ.set i x) vs = L2.wipe σ vs
  | v :: vs, σ, h => by
    show (L2.wipe (σ.set i x) vs).set v none = (L2.wipe σ vs).set v none
    by_cases hi : i ∈ vs
    · rw [wipe_setin hi]
    · have hv : i = v := by
        rcases List.mem_cons.mp h with h | h
        · exact h
        · exact absurd h hi
      subst hv
      have : ∀ (vs : List Nat) (σ : L2.St), (L2.wipe (σ.set i x) vs).set i none = (L2.wipe σ vs).set i none := by
        intro vs
        induction vs with
        | nil =>
          intro σ
          show (σ.set i x).set i none = σ.set i none
          rw [List.set_set]
        | cons w ws ih =>
          intro σ
          show ((L2.wipe (σ.set i x) ws).set w none).set i none = ((L2.wipe σ ws).set w none).set i none
          by_cases hw : w = i
          · subst hw
            rw [List.set_set, List.set_set]
            exact ih σ
          · rw [List.set_comm (l := L2.wipe (List.set σ i x) ws) _ _ hw, List.set_comm (l := L2.wipe σ ws) _ _ hw, ih σ]
      exact this vs σ
/-- a slot takes a result: what follows -/
theorem setA_ok {i : Nat} {x : Rv} {v : V} {K : Unit → Stt → Gh → L2.St → Hp → Prop} (hv : i ∈ vs) (r : Rel W g P s σ H) (q : RvR W g P s σ H x v) (h : PostV W wx g P σ vs (setA i x s) K) : ∃ s' g', g.Le g' ∧ Rel W g' P s' (σ.set i (some v)) H ∧ K () s' g' (σ.set i (some v)) H := by
  have val : (PostV W wx g P σ vs (((toVal x).bind fun d => setSlot i (.val d)) s) K) → ∃ s' g', g.Le g' ∧ Rel W g' P s' (σ.set i (some v)) H ∧ K () s' g' (σ.set i (some v)) H := fun h => by
    obtain ⟨d, s', g', l, r', q', h'⟩ := PostV.toValE r q h
    have r2 := r'.setVal (i := i) q'
    exact ⟨_, g', l, r2, h' g' _ H (.refl g') r2 (wipe_setin hv)⟩
  cases x with
  | own o =>
    have r2 := r.setOwnV (i := i) q
    exact ⟨_, g, .refl g, r2, h g _ H (.refl g) r2 (wipe_setin hv)⟩
  | val d => exact val h
  | bor j => exact val h
end
/-! ### statements -/
abbrev SS (W : Wd) (wx : WX) (X : Cx) (m : Ac Flw) (st : Stmt) : Prop := PS X st (tS W wx m)
abbrev SSs (W : Wd) (wx : WX) (X : Cx) (m : Ac Flw) (sts : List Stmt) : Prop := PSs X sts (tS W wx m)
abbrev SG (W : Wd) (wx : WX) (X : Cx) (a : Rv → Ac Unit) (vs : List Nat) (tg : Expr) : Prop := PG X tg (tG W wx a vs)
abbrev SGs (W : Wd) (wx : WX) (X : Cx) (a : List Dat → Ac Unit) (vs : List Nat) (tg : List Expr) : Prop := PGs X tg (tGs W wx a vs)
def nxA : Ac Flw := Ac.ret .nx
def seqM (m m' : Ac Flw) : Ac Flw := m.bind fun f => match f with
  | .nx => m'
  | f => Ac.ret f
/-- what a def gives back -/
def retA : Rv → Ac Flw := fun x s => match x with
  | .bor i => (match s.env[i]? with
    | some (.own o) => .ok (.rt (.own o)) { s with env := s.env.set i .no }
    | some (.val d) => .ok (.rt (.val d)) s
    | _ => .stuck)
  | x => .ok (.rt x) s
section
variable {W : Wd} {wx : WX} {X : Cx}
theorem tS_nx {D : Ends} {σ : L2.St} {H : Hp} (h : tS W wx nxA D σ H) : D.nx σ H := by
  obtain ⟨g, P, s, r, q⟩ := h
  exact q g σ H (.refl g) r
theorem tS_seq {m m' : Ac Flw} {D : Ends} {σ : L2.St} {H : Hp} (h : tS W wx (seqM m m') D σ H) : tS W wx m { D with nx := tS W wx m' D } σ H := by
  obtain ⟨g, P, s, r, q⟩ := h
  refine ⟨g, P, s, r, ?_⟩
  unfold seqM Ac.bind at q
  cases e : m s with
  | ok f s1 =>
    rw [e] at q
    cases f with
    | nx => exact fun g' σ' H' l r => ⟨g', P, s1, r, PostS.le q l⟩
    | rt x => exact q
    | bk => exact q
    | ct => exact q
  | exc x s1 =>
    rw [e] at q
    exact q
  | stuck =>
    rw [e] at q
    exact q
theorem ss_nil : SSs W wx X nxA [] := pssImp pss_nil fun D σ H h => tS_nx h
theorem ss_cons {st : Stmt} {rest : List Stmt} {m m' : Ac Flw} (h1 : SS W wx X m st) (h2 : SSs W wx X m' rest) : SSs W wx X (seqM m m') (st :: rest) := pssImp (pss_cons h1 h2) fun D σ H h => tS_seq h
theorem ss_pass {pos : Pos} : SS W wx X nxA (.Pass pos) := psImp ps_pass fun D σ H h => tS_nx h
theorem ss_doc {x j pos pos'} : SS W wx X nxA (.Expr (.Constant (.str x) j pos) pos') := psImp ps_doc fun D σ H h => tS_nx h
theorem ss_break {pos : Pos} : SS W wx X (Ac.ret .bk) (.Break pos) := psImp ps_break fun D σ H ⟨g, P, s, r, q⟩ => q g σ H (.refl g) r
theorem ss_continue {pos : Pos} : SS W wx X (Ac.ret .ct) (.Continue pos) := psImp ps_continue fun D σ H ⟨g, P, s, r, q⟩ => q g σ H (.refl g) r
theorem ss_expr {e : Expr} {m : Ac Rv} {pos : Pos} (h : SE W wx X m e) (hs : swapsWith e none pos.line X.env = pure false) : SS W wx X (m.bind fun _ => nxA) (.Expr e pos) := psImp (ps_expr h hs) fun D σ H hh => by
  obtain ⟨g, P, s, r, q⟩ := hh
  exact ⟨g, P, s, r, (PostS.bindE q).mono fun x s1 g1 H1 l1 r1 q1 v hv => q1 g1 σ H1 (.refl g1) r1⟩
theorem retA_ok {g : Gh} {P : Hp} {s : Stt} {σ : L2.St} {H : Hp} {x : Rv} {v : V} {D : Ends} (r : Rel W g P s σ H) (q : RvR W g P s σ H x v) (h : PostS W wx g P (retA x s) D) : D.rt v H := by
  cases x with
  | val d => exact h g σ H v (.refl g) r q
  | own o => exact h g σ H v (.refl g) r q
  | bor i =>
    have q' : σ[i]? = some (some v) := q
    unfold retA at h
    cases e : s.env[i]? with
    | none =>
      simp only [e] at h
      exact h.elim
    | some sl =>
      cases sl with
      | no =>
        simp only [e] at h
        exact h.elim
      | val d =>
        simp only [e] at h
        obtain ⟨u, e1, e2⟩ := r.slv i d e
        rw [q'] at e1
        cases e1
        exact h g σ H v (.refl g) r e2
      | own o =>
        simp only [e] at h
        obtain ⟨a, ho, e1, e2, e3, e4, e5, e6⟩ := r.slo i o e
        rw [q'] at e1
        cases e1
        refine h g σ H _ (.refl g) r.slotNo ⟨a, ho, rfl, e2, e3, e4, e5, e6, fun j ⟨o', ho'⟩ z => ?_⟩
        rcases getE_set ho' with ⟨_, z2⟩ | ⟨z1, z2⟩
        · cases z2
        · exact z1 (r.sld i j a ⟨o, e⟩ ⟨o', z2⟩ q' z)
theorem ss_ret {e : Expr} {m : Ac Rv} {pos : Pos} (h : SE W wx X m e) : SS W wx X (m.bind retA) (.Return (some e) pos) := psImp (ps_ret h) fun D σ H hh => by
  obtain ⟨g, P, s, r, q⟩ := hh
  exact ⟨g, P, s, r, (PostS.bindE q).mono fun x s1 g1 H1 l1 r1 q1 v hv => retA_ok r1 hv q1⟩
theorem ss_retN {pos : Pos} : SS W wx X (Ac.ret (.rt (.val .non))) (.Return none pos) := psImp ps_retN fun D σ H ⟨g, P, s, r, q⟩ => q g σ H _ (.refl g) r R.non
theorem ts_ite {mc : Ac Bool} {ma mb : Ac Flw} {D : Ends} {σ : L2.St} {H : Hp} (h : tS W wx (mc.bind fun k => if k then ma else mb) D σ H) : tX W wx (eqK Bool) mc σ H fun k H1 => if k = true then tS W wx ma D σ H1 else tS W wx mb D σ H1 := by
  obtain ⟨g, P, s, r, q⟩ := h
  refine ⟨g, P, s, r, (PostS.bindE q).mono fun x s1 g1 H1 l1 r1 q1 v hv => ?_⟩
  cases hv
  cases x with
  | true => exact ⟨g1, P, s1, r1, q1⟩
  | false => exact ⟨g1, P, s1, r1, q1⟩
theorem ss_if {c : Expr} {a b : List Stmt} {mc : Ac Bool} {ma mb : Ac Flw} {pos : Pos} (hc : ST W wx X mc c) (ha : SSs W wx X ma a) (hb : SSs W wx X mb b) : SS W wx X (mc.bind fun k => if k then ma else mb) (.If c a b pos) :=
  psImp (ps_if hc ha hb) fun D σ H h => ts_ite h
/-- targets -/
theorem sg_name {i : Nat} {x : Str} {pos : Pos} {vs : List Nat} (hv : i ∈ vs) (hN : X.N.Nodup) (hi : X.N[i]? = some x) (hx : Loc X.env.scope x) (hf : X.fn x = true ∨ X.env.scope.names.lookup x = some .local) : SG W wx X (setA i) vs (.Name x pos) :=
  ⟨fun pins s σ H v u Q I rv h => (pg_name hN hi hx hf).run pins s σ H v u Q I rv (by
    obtain ⟨g, P, st, xx, r, q, p⟩ := h
    obtain ⟨s', g', l, r', k⟩ := setA_ok hv r q p
    exact k)⟩
theorem sgs_nil {vs : List Nat} : SGs W wx X (fun ds => match ds with | [] => Ac.ret () | _ => Ac.stk) vs [] := ⟨fun pins s σ H us u Q I rv h => pgs_nil.run pins s σ H us u Q I rv (by
  obtain ⟨g, P, st, ds, r, q, p⟩ := h
  cases q with
  | nil => exact ⟨rfl, p g σ H (.refl g) r rfl⟩
  | cons _ _ => exact p.elim)⟩
theorem sgs_cons {e : Expr} {es : List Expr} {a : Rv → Ac Unit} {b : List Dat → Ac Unit} {vs : List Nat} (h1 : SG W wx X a vs e) (h2 : SGs W wx X b vs es) (hs : (assignEach (e :: es) X.env).map (·.2) = assign e X.env :: (assignEach es X.env).map (·.2)) :
    SGs W wx X (fun ds => match ds with | d :: ds => (a (.val d)).bind fun _ => b ds | _ => Ac.stk) vs (e :: es) := ⟨fun pins s σ H us u Q I rv h => (pgs_cons h1 h2 hs).run pins s σ H us u Q I rv (by
  obtain ⟨g, P, st, ds, r, q, p⟩ := h
  cases q with
  | nil => exact p.elim
  | cons q1 q2 =>
    refine ⟨_, _, rfl, g, P, st, .val _, r, q1, (PostV.bindE p).mono fun _ s1 g1 σ1 H1 l1 r1 e1 p1 => ?_⟩
    exact ⟨g1, P, s1, _, r1, Rs.mono l1 q2, p1⟩)⟩
/-- the items of a result, n of them -/
def unpA (n : Nat) (b : List Dat → Ac Unit) : Rv → Ac Unit := fun x => (lookA x).bind fun w => match w.unp with
  | some ds => if ds.length = n then b ds else Ac.stk
  | none => Ac.stk
theorem sg_tup {es : List Expr} {k : Nat} {pos : Pos} {b : List Dat → Ac Unit} {vs : List Nat} {n : Nat} (hK : X.K = W.K) (hc : X.calm = true) (h : SGs W wx X b vs es) (hn : (assignEach es X.env).length = n) (hst : (assignEach es X.env).findIdx? (·.1) = none) : SG W wx X (unpA n b) vs (.Tuple es k pos) :=
  ⟨fun pins s σ H v u Q I rv hh => (pg_tup hc h hn hst).run pins s σ H v u Q I rv (by
    obtain ⟨g, P, st, x, r, q, p⟩ := hh
    obtain ⟨w, e1, p1⟩ := PostV.lookE p
    have q1 := look_ok r q e1
    cases e2 : w.unp with
    | none =>
      simp only [e2] at p1
      exact p1.elim
    | some ds =>
      simp only [e2] at p1
      by_cases hl : ds.length = n
      · rw [if_pos hl] at p1
        obtain ⟨a, zs, rfl, k1, k2⟩ := q1.unp r e2
        exact ⟨a, zs, rfl, by rw [hK]; exact k1, by rw [← k2.length]; exact hl, g, P, st, ds, r, k2, p1⟩
      · rw [if_neg hl] at p1
        exact p1.elim)⟩
/-- target = e -/
theorem ss_asg {tg e : Expr} {m : Ac Rv} {a : Rv → Ac Unit} {vs : List Nat} {pos : Pos} (he : SE W wx X m e) (hg : SG W wx X a vs tg) (hs : swapsWithSole [tg] e pos.line X.env = pure false) (hw : swappedStores [tg] e X.env = pure none) (h1 : (assignEach [tg] X.env).map (·.2) = [assign tg X.env]) :
    SS W wx X (m.bind fun x => (a x).bind fun _ => nxA) (.Assign [tg] e pos) := psImp (ps_asg he hg hs hw h1) fun D σ H hh => by
  obtain ⟨g, P, s, r, q⟩ := hh
  refine ⟨g, P, s, r, (PostS.bindE q).mono fun x s1 g1 H1 l1 r1 q1 v hv => ?_⟩
  exact ⟨g1, P, s1, x, r1, hv, (PostS.bindV vs q1).mono fun _ s2 g2 σ2 H2 l2 r2 _ q2 => q2 g2 σ2 H2 (.refl g2) r2⟩
theorem ss_set {i : Nat} {x : Str} {e : Expr} {m : Ac Rv} {pos' pos : Pos} (hN : X.N.Nodup) (hi : X.N[i]? = some x) (hx : Loc X.env.scope x) (he : SE W wx X m e) (hs : swapsWith e (some (.Name x pos')) pos.line X.env = pure false) (hf : X.fn x = true ∨ X.env.scope.names.lookup x = some .local) :
    SS W wx X (m.bind fun x => (setA i x).bind fun _ => nxA) (.Assign [.Name x pos'] e pos) := psImp (ps_set hN hi hx he hs hf) fun D σ H hh => by
  obtain ⟨g, P, s, r, q⟩ := hh
  refine ⟨g, P, s, r, (PostS.bindE q).mono fun x s1 g1 H1 l1 r1 q1 v hv => ?_⟩
  obtain ⟨s', g', l', r', k'⟩ := setA_ok (vs := [i]) (by simp) r1 hv (PostS.bindV [i] q1)
  exact k' g' _ H1 (.refl g') r'
end
end En
set_option maxHeartbeats 4000000
/-! En12: loops, what is walked, stores to places, the store. -/
namespace En
open PySem PySem.Spec PyProof.Rows L2
section
variable {W : Wd} {wx : WX} {X : Cx}
/-! ### while -/
def whlA (mc : Ac Bool) (mb : Ac Flw) : Nat → Ac Flw
  | 0 => Ac.stk
  | n + 1 => mc.bind fun k => if k then mb.bind fun f => (match f with
    | .nx => whlA mc mb n
    | .ct => whlA mc mb n
    | .bk => nxA
    | .rt x => Ac.ret (.rt x)) else nxA
/-- a loop's body: N what it is to reach -/
theorem body_ok {m : Ac Flw} {k : Ac Flw} {g : Gh} {P : Hp} {s : Stt} {σ : L2.St} {H : Hp} {D : Ends} {N : L2.St → Hp → Prop} (r : Rel W g P s σ H) (h : PostS W wx g P (m.bind (fun f => match f with
    | .nx => k
    | .ct => k
    | .bk => nxA
    | .rt x => Ac.ret (.rt x)) s) D) (hN : ∀ g' s' σ' H', g.Le g' → Rel W g' P s' σ' H' → PostS W wx g' P (k s') D → N σ' H') : tS W wx m { D with nx := N, ct := N, bk := D.nx } σ H := by
  refine ⟨g, P, s, r, ?_⟩
  unfold Ac.bind at h
  cases e : m s with
  | ok f s1 =>
    rw [e] at h
    cases f with
    | nx => exact fun g' σ' H' l r' => hN g' s1 σ' H' l r' (PostS.le h l)
    | ct => exact fun g' σ' H' l r' => hN g' s1 σ' H' l r' (PostS.le h l)
    | bk => exact fun g' σ' H' l r' => h g' σ' H' l r'
    | rt x => exact h
  | exc x s1 =>
    rw [e] at h
    exact h
  | stuck =>
    rw [e] at h
    exact h
theorem ss_while {c : Expr} {body : List Stmt} {mc : Ac Bool} {mb : Ac Flw} {n : Nat} {pos : Pos} (hp : PassesOwn (model X.prog X.w) X.A X.env X.xe) (hc : ST W wx X mc c) (hb : SSs W wx X mb body) : SS W wx X (whlA mc mb n) (.While c body [] pos) :=
  psImp (ps_while hp hc hb) fun D σ H h => by
    refine ⟨fun m σ H => tS W wx (whlA mc mb m) D σ H, ⟨n, h⟩, fun m σ1 H1 ⟨g, P, s, r, q⟩ => ?_⟩
    cases m with
    | zero => exact q.elim
    | succ m =>
      refine ⟨g, P, s, r, (PostS.bindE q).mono fun b s1 g1 H2 l1 r1 q1 v hv => ?_⟩
      cases hv
      cases b with
      | false => exact q1 g1 _ H2 (.refl g1) r1
      | true => exact ⟨fun σ' H' => tS W wx (whlA mc mb m) D σ' H', fun σ' H' n' => ⟨m, Nat.lt_succ_self m, n'⟩, body_ok r1 q1 fun g' s' σ' H' l r' p => ⟨g', P, s', r', p⟩⟩
/-! ### what is walked -/
structure GoodIt (W : Wd) (g : Gh) (J : It) (ds : List Dat) : Prop where
  go : ∀ g' P s σ H i, g.Le g' → Rel W g' P s σ H → i < ds.length → J.go i H
  yld : ∀ g' P s σ H i x H', g.Le g' → Rel W g' P s σ H → i < ds.length → J.yld i H x H' → ∃ g'' d, g'.Le g'' ∧ Rel W g'' P s σ H' ∧ ds[i]? = some d ∧ R W g'' d x
  /- objects of no concern stay -/
  ext : ∀ i x H H', J.yld i H x H' → ∀ a o, H a = some o → H' a = some o
  stop : ∀ g' P s σ H, g.Le g' → Rel W g' P s σ H → J.stop ds.length H
def tI (W : Wd) (wx : WX) (m : Ac (List Dat)) : TI := fun σ H R => ∃ g P s, Rel W g P s σ H ∧ Post W wx g P σ (m s) fun ds s' g' H' => ∀ J, GoodIt W g' J ds → R J H'
abbrev SI (W : Wd) (wx : WX) (X : Cx) (tg : Expr) (m : Ac (List Dat)) (it : Expr) : Prop := PI X tg it (tI W wx m)
def forA (a : Rv → Ac Unit) (mb me : Ac Flw) : List Dat → Ac Flw
  | [] => me
  | d :: r => (a (.val d)).bind fun _ => mb.bind fun f => match f with
    | .nx => forA a mb me r
    | .ct => forA a mb me r
    | .bk => nxA
    | .rt x => Ac.ret (.rt x)
theorem for_imp {m : Ac (List Dat)} {a : Rv → Ac Unit} {mb me : Ac Flw} {vs : List Nat} {D : Ends} {σ : L2.St} {H : Hp} (h : tS W wx (m.bind (forA a mb me)) D σ H) : tForE (tI W wx m) (tG W wx a vs) (tS W wx mb) (tS W wx me) D σ H := by
  obtain ⟨g, P, s, r, q⟩ := h
  refine ⟨g, P, s, r, (PostS.bindE q).mono fun ds s1 g1 H1 l1 r1 q1 J hJ => ?_⟩
  refine ⟨fun i m σ H => m + i = ds.length ∧ ∃ g2 s2, g1.Le g2 ∧ Rel W g2 P s2 σ H ∧ PostS W wx g2 P (forA a mb me (ds.drop i) s2) D, ⟨ds.length, rfl, g1, s1, .refl g1, r1, q1⟩, ?_⟩
  rintro i m σ2 H2 ⟨hm, g2, s2, l2, r2, q2⟩
  by_cases hi : i < ds.length
  · refine .inr ⟨hJ.go g2 P s2 σ2 H2 i l2 r2 hi, fun σ' H' => m - 1 + (i + 1) = ds.length ∧ ∃ g2 s2, g1.Le g2 ∧ Rel W g2 P s2 σ' H' ∧ PostS W wx g2 P (forA a mb me (ds.drop (i + 1)) s2) D, fun σ' H' n' => ⟨m - 1, by omega, n'⟩, fun x H3 y => ?_⟩
    obtain ⟨g3, d, l3, r3, e3, rd⟩ := hJ.yld g2 P s2 σ2 H2 i x H3 l2 r2 hi y
    have ed : ds.drop i = d :: ds.drop (i + 1) := by
      have hd : ds[i] = d := by
        have := List.getElem?_eq_getElem hi
        rw [e3] at this
        exact (Option.some.inj this).symm
      rw [List.drop_eq_getElem_cons hi, hd]
    rw [ed] at q2
    have q2' : PostS W wx g2 P (((a (.val d)).bind fun _ => mb.bind fun f => (match f with
      | .nx => forA a mb me (ds.drop (i + 1))
      | .ct => forA a mb me (ds.drop (i + 1))
      | .bk => nxA
      | .rt x => Ac.ret (.rt x))) s2) D := q2
    refine ⟨g3, P, s2, .val d, r3, rd, (PostS.bindV vs (PostS.le q2' l3)).mono fun _ s4 g4 σ4 H4 l4 r4 _ q4 => ?_⟩
    exact body_ok r4 q4 fun g' s' σ' H' l r' p => ⟨by omega, g', s', (l2.trans l3).trans (l4.trans l), r', p⟩
  · have hi' : i = ds.length := by omega
    subst hi'
    rw [List.drop_length] at q2
    exact .inl ⟨hJ.stop g2 P s2 σ2 H2 l2 r2, g2, P, s2, r2, q2⟩
theorem ss_for {tg it : Expr} {body els : List Stmt} {m : Ac (List Dat)} {a : Rv → Ac Unit} {mb me : Ac Flw} {vs : List Nat} {pos : Pos} (hp : PassesOwn (model X.prog X.w) X.A X.env X.xe) (hc : X.calm = true) (hi : SI W wx X tg m it) (hg : SG W wx X a vs tg) (hb : SSs W wx X mb body) (ho : SSs W wx X me els)
    (hs : ∀ x, foldedSetIterable it X.env x = pure x) : SS W wx X (m.bind (forA a mb me)) (.For tg it body els pos) :=
  psImp (ps_forE hp hc hi hg hb ho hs) fun D σ H h => for_imp h
/-! sources -/
theorem good_list {g : Gh} {a : Addr} {ds : List Dat} {vs : List V} {K : PySem.W.Frag} (e : g.F a = some (.lst vs)) (q : Rs W g ds vs) : GoodIt W g (Itl K a) ds where
  go := fun g' P s σ H i l r hi => by
    obtain ⟨v, hv, _⟩ := q.get (List.getElem?_eq_getElem hi)
    exact ⟨vs, v, SqL.of (r.fz _ _ (l.F _ _ e)), hv⟩
  yld := fun g' P s σ H i x H' l r hi y => by
    obtain ⟨rfl, y⟩ := y
    have hv := y vs (SqL.of (r.fz _ _ (l.F _ _ e)))
    obtain ⟨d, hd, rd⟩ := q.getV hv
    exact ⟨g', d, .refl g', r, hd, R.mono l rd⟩
  ext := fun i x H H' y a o h => by
    obtain ⟨rfl, _⟩ := y
    exact h
  stop := fun g' P s σ H l r => ⟨vs, SqL.of (r.fz _ _ (l.F _ _ e)), by rw [q.length]; exact Nat.le_refl _⟩
theorem good_tup {g : Gh} {a : Addr} {ds : List Dat} {vs : List V} (e : SqT W.K g.F a vs) (q : Rs W g ds vs) : GoodIt W g (Itt W.K a) ds where
  go := fun g' P s σ H i l r hi => by
    obtain ⟨v, hv, _⟩ := q.get (List.getElem?_eq_getElem hi)
    exact ⟨vs, v, sqT_mono r.fz (sqT_mono l.F e), hv⟩
  yld := fun g' P s σ H i x H' l r hi y => by
    obtain ⟨rfl, y⟩ := y
    have hv := y vs (sqT_mono r.fz (sqT_mono l.F e))
    obtain ⟨d, hd, rd⟩ := q.getV hv
    exact ⟨g', d, .refl g', r, hd, R.mono l rd⟩
  ext := fun i x H H' y a o h => by
    obtain ⟨rfl, _⟩ := y
    exact h
  stop := fun g' P s σ H l r => ⟨vs, sqT_mono r.fz (sqT_mono l.F e), by rw [q.length]; exact Nat.le_refl _⟩
theorem good_str {g : Gh} {x : Str} : GoodIt W g (Its x) (signs x) where
  go := fun g' P s σ H i l r hi => by
    show i < x.cps.size
    simpa [signs] using hi
  yld := fun g' P s σ H i y H' l r hi h => by
    obtain ⟨rfl, c, hc, rfl⟩ := h
    refine ⟨g', .str ⟨#[c]⟩, .refl g', r, ?_, R.str _⟩
    unfold signs
    rw [List.getElem?_map, Array.getElem?_toList, hc]
    rfl
  ext := fun i x H H' y a o h => by
    obtain ⟨rfl, _⟩ := y
    exact h
  stop := fun g' P s σ H l r => by
    show x.cps.size ≤ _
    simp [signs]
theorem intsD_get {lo : Int} {n i : Nat} (h : i < n) : (intsD lo n)[i]? = some (.int (lo + i)) := by
  unfold intsD
  rw [List.getElem?_map, List.getElem?_range h]
  rfl
theorem intsD_length {lo : Int} {n : Nat} : (intsD lo n).length = n := by simp [intsD]
theorem good_rng {g : Gh} {lo : Int} {n : Nat} : GoodIt W g (Itr lo n) (intsD lo n) where
  go := fun g' P s σ H i l r hi => by
    rw [intsD_length] at hi
    exact hi
  yld := fun g' P s σ H i y H' l r hi h => by
    rw [intsD_length] at hi
    obtain ⟨rfl, rfl⟩ := h
    exact ⟨g', _, .refl g', r, intsD_get hi, R.int _⟩
  ext := fun i x H H' y a o h => by
    obtain ⟨rfl, _⟩ := y
    exact h
  stop := fun g' P s σ H l r => by
    rw [intsD_length]
    exact Nat.le_refl _
theorem enumD_get : ∀ {ds : List Dat} {k i : Nat} {d : Dat}, ds[i]? = some d → (enumD k ds)[i]? = some (.tpl [.int ((k + i : Nat) : Int), d])
  | d :: ds, k, 0, _, e => by
    cases e
    rfl
  | d :: ds, k, i + 1, d', e => by
    have := enumD_get (k := k + 1) (i := i) (by simpa using e)
    show (enumD (k + 1) ds)[i]? = _
    rw [this]
    have : k + 1 + i = k + (i + 1) := by omega
    rw [this]
theorem enumD_length : ∀ {ds : List Dat} {k : Nat}, (enumD k ds).length = ds.length
  | [], _ => rfl
  | _ :: ds, k => congrArg (· + 1) (enumD_length (ds := ds) (k := k + 1))
theorem ext_upd {H : Hp} {T : Addr} {u : HO} (h : H T = none) : ∀ a o, H a = some o → (upd H T u) a = some o := fun a o e => by
  rw [upd_ne (ne_of_none e h)]
  exact e
theorem good_enum {g : Gh} {a : Addr} {ds : List Dat} {vs : List V} {K : PySem.W.Frag} (e : g.F a = some (.lst vs)) (q : Rs W g ds vs) : GoodIt W g (Ite K a) (enumD 0 ds) where
  go := fun g' P s σ H i l r hi => by
    rw [enumD_length] at hi
    obtain ⟨v, hv, _⟩ := q.get (List.getElem?_eq_getElem hi)
    exact ⟨vs, v, SqL.of (r.fz _ _ (l.F _ _ e)), hv⟩
  yld := fun g' P s σ H i x H' l r hi y => by
    obtain ⟨T, z, rfl, hT, rfl, y⟩ := y
    have hv := y vs (SqL.of (r.fz _ _ (l.F _ _ e)))
    obtain ⟨d, hd, rd⟩ := q.getV hv
    obtain ⟨n1, n2, n3⟩ := r.newTup hT (ds := [.int (i : Nat), d]) (.cons (.int _) (.cons (R.mono l rd) .nil))
    refine ⟨_, _, n1, n2, ?_, n3⟩
    rw [enumD_get hd]
    simp
  ext := fun i x H H' y => by
    obtain ⟨T, z, rfl, hT, rfl, y⟩ := y
    exact ext_upd hT
  stop := fun g' P s σ H l r => ⟨vs, SqL.of (r.fz _ _ (l.F _ _ e)), by rw [enumD_length, q.length]; exact Nat.le_refl _⟩
theorem good_zip {g : Gh} {a b : Addr} {ds es : List Dat} {vs us : List V} {K : PySem.W.Frag} (e : g.F a = some (.lst vs)) (q : Rs W g ds vs) (e' : g.F b = some (.lst us)) (q' : Rs W g es us) : GoodIt W g (Itz K a b) ((ds.zip es).map fun p => .tpl [p.1, p.2]) where
  go := fun g' P s σ H i l r hi => by
    simp only [List.length_map, List.length_zip] at hi
    obtain ⟨v, hv, _⟩ := q.get (List.getElem?_eq_getElem (show i < ds.length by omega))
    obtain ⟨u, hu, _⟩ := q'.get (List.getElem?_eq_getElem (show i < es.length by omega))
    exact ⟨vs, us, v, u, SqL.of (r.fz _ _ (l.F _ _ e)), SqL.of (r.fz _ _ (l.F _ _ e')), hv, hu⟩
  yld := fun g' P s σ H i x H' l r hi y => by
    obtain ⟨T, x, z, rfl, hT, rfl, y, y'⟩ := y
    have hv := y vs (SqL.of (r.fz _ _ (l.F _ _ e)))
    have hu := y' us (SqL.of (r.fz _ _ (l.F _ _ e')))
    obtain ⟨d, hd, rd⟩ := q.getV hv
    obtain ⟨d', hd', rd'⟩ := q'.getV hu
    obtain ⟨n1, n2, n3⟩ := r.newTup hT (ds := [d, d']) (.cons (R.mono l rd) (.cons (R.mono l rd') .nil))
    refine ⟨_, _, n1, n2, ?_, n3⟩
    rw [List.getElem?_map, (List.getElem?_zip_eq_some (z := (d, d'))).mpr ⟨hd, hd'⟩]
    rfl
  ext := fun i x H H' y => by
    obtain ⟨T, x, z, rfl, hT, rfl, y⟩ := y
    exact ext_upd hT
  stop := fun g' P s σ H l r => ⟨vs, us, SqL.of (r.fz _ _ (l.F _ _ e)), SqL.of (r.fz _ _ (l.F _ _ e')), by
    simp only [List.length_map, List.length_zip]
    rw [← q.length, ← q'.length]
    omega⟩
/-- over a list, a tuple, a text -/
def anyIt (K : PySem.W.Frag) (R : It → Hp → Prop) (v : V) (H : Hp) : Prop := (∃ a, v = .ref a ∧ (∃ xs, SqL K H a xs) ∧ R (Itl K a) H) ∨ (∃ a, v = .ref a ∧ (∃ xs, SqT K H a xs) ∧ R (Itt K a) H) ∨ ∃ x, v = .str x ∧ R (Its x) H
theorem pi_any {tg e : Expr} {te : TE} (he : PE X e te) : PI X tg e (fun σ H R => te σ H (anyIt X.K R)) := by
  refine ⟨fun pins s σ H R I h => ?_⟩
  refine thn (he.run pins s σ H _ I h) fun v s1 ⟨x, H1, I1, r1, q1⟩ => ?_
  rcases q1 with ⟨a, e, ⟨xs, hq⟩, q⟩ | ⟨a, e, ⟨xs, hq⟩, q⟩ | ⟨x, ex, q⟩
  · subst e
    cases r1
    obtain ⟨its, rv, p, hz⟩ := I1.list hq
    refine wpAny_pyIter_list p.isList ?_
    refine ⟨s1.heap.objs.size, [s1.heap.objs.size], _, _, H1, rfl, I1.kept (t' := s1.toks) fun b o e => Heap.get?_push_of_some _ e, turn_list a _, ⟨_, Heap.get?_push_size _ rfl, rfl, rfl⟩, fun b hb => ?_, q⟩
    have e : b = s1.heap.objs.size := by simpa using hb
    subst e
    exact I1.fpOk (Nat.le_refl _) (I1.hok.fresh (Nat.le_refl _))
  · subst e
    cases r1
    obtain ⟨its, rv, p, hz⟩ := I1.tuple hq
    refine wpAny_pyIter_tuple (show s1.heap.IsTuple a its.toArray from p) ?_
    refine ⟨s1.heap.objs.size, [s1.heap.objs.size], _, _, H1, rfl, I1.kept (t' := s1.toks) fun b o e => Heap.get?_push_of_some _ e, turn_tuple a _, ⟨_, Heap.get?_push_size _ rfl, rfl, rfl⟩, fun b hb => ?_, q⟩
    have e : b = s1.heap.objs.size := by simpa using hb
    subst e
    exact I1.fpOk (Nat.le_refl _) (I1.hok.fresh (Nat.le_refl _))
  · subst ex
    obtain ⟨t, rfl⟩ := r1
    cases ha : x.cps.all (· < 128)
    · exact wpAny_pyIter_wide ha (pi_one (tk := s1.toks) I1 _ (turn_str _ x t "str_iterator" (.inr rfl)) ⟨_, Heap.get?_push_size _ rfl, rfl, rfl⟩ q)
    · exact wpAny_pyIter_ascii ha (pi_one (tk := s1.toks) I1 _ (turn_str _ x t "str_ascii_iterator" (.inl rfl)) ⟨_, Heap.get?_push_size _ rfl, rfl, rfl⟩ q)
def walkA (m : Ac Rv) : Ac (List Dat) := m.bind fun x => (toVal x).bind fun d => Ac.opt (walkD d)
theorem si_any {tg e : Expr} {m : Ac Rv} (hK : X.K = W.K) (h : SE W wx X m e) : SI W wx X tg (walkA m) e := ⟨fun pins s σ H R I hh => (pi_any h).run pins s σ H R I (by
  obtain ⟨g, P, st, r, q⟩ := hh
  refine ⟨g, P, st, r, (Post.bindE q).mono fun x s1 g1 H1 l1 r1 q1 v hv => ?_⟩
  obtain ⟨d, s2, g2, l2, r2, rd, q2⟩ := Post.toValE r1 hv q1
  obtain ⟨ds, e3, q3⟩ := Post.optE q2
  have fin : ∀ J, GoodIt W g2 J ds → R J H1 := fun J hJ => q3 g2 H1 (.refl g2) r2 J hJ
  unfold anyIt
  rw [hK]
  cases d <;> first | cases e3 | skip
  · cases rd
    exact .inr (.inr ⟨_, rfl, fin _ good_str⟩)
  · cases rd with
    | tup h1 h2 => exact .inr (.inl ⟨_, rfl, ⟨_, sqT_mono r2.fz h1.sq⟩, fin _ (good_tup h1.sq h2)⟩)
  · cases rd with
    | lst h1 h2 => exact .inl ⟨_, rfl, ⟨_, SqL.of (r2.fz _ _ h1)⟩, fin _ (good_list h1 h2)⟩)⟩
def rngA (ms : Ac (List Dat)) : Ac (List Dat) := ms.bind fun ds => Ac.opt (rngD ds)
theorem rngOk_ok {i : Int} (h : rngOk i = true) : -(2 ^ 62) ≤ i ∧ i < 2 ^ 62 := by
  have h' : i.natAbs ≤ 4611686018427387903 := Nat.le_of_ble_eq_true h
  omega
theorem rngD_cases {ds es : List Dat} (h : rngD ds = some es) : (∃ j, ds = [.int j] ∧ rngOk j = true ∧ es = intsD 0 j.toNat) ∨ ∃ i j, ds = [.int i, .int j] ∧ rngOk i = true ∧ rngOk j = true ∧ es = intsD i (j - i).toNat := by
  unfold rngD at h
  split at h
  · split at h
    · cases h
      exact .inl ⟨_, rfl, by assumption, rfl⟩
    · cases h
  · split at h
    · rename_i hc
      cases h
      simp only [Bool.and_eq_true] at hc
      exact .inr ⟨_, _, rfl, hc.1, hc.2, rfl⟩
    · cases h
  · cases h
theorem si_rng1 {tg a : Expr} {ma : Ac Dat} {p pos : Pos} (hg : Gl X "range") (hm : X.mg "range" = none) (ha : SD W wx X ma a) (hs : starEach [a] X.env = [(false, eval a X.env)]) : SI W wx X tg (ma.bind fun d => Ac.opt (rngD [d])) (.Call (.Name "range" p) [a] [] pos) := ⟨fun pins s σ H R I hh => (pi_range1 hg hm (pa_cons ha pa_nil hs) hs).run pins s σ H R I (by
  obtain ⟨g, P, st, r, q⟩ := hh
  refine ⟨g, P, st, r, (Post.bindE q).mono fun d s1 g1 H1 l1 r1 q1 v hv => ?_⟩
  obtain ⟨es, e3, q3⟩ := Post.optE q1
  rcases rngD_cases e3 with ⟨j, e, h1, rfl⟩ | ⟨i, j, e, _⟩
  · cases e
    obtain rfl := En.R.intE hv
    obtain ⟨a1, a2⟩ := rngOk_ok h1
    show tNil σ H1 _
    unfold tNil
    exact ⟨j, rfl, a1, a2, q3 g1 H1 (.refl g1) r1 _ good_rng⟩
  · cases e)⟩
theorem si_rng2 {tg a b : Expr} {ma mb : Ac Dat} {p pos : Pos} (hg : Gl X "range") (hm : X.mg "range" = none) (ha : SD W wx X ma a) (hb : SD W wx X mb b) (hs : starEach [a, b] X.env = [(false, eval a X.env), (false, eval b X.env)]) (hs2 : starEach [b] X.env = [(false, eval b X.env)]) :
    SI W wx X tg (ma.bind fun d => mb.bind fun d' => Ac.opt (rngD [d, d'])) (.Call (.Name "range" p) [a, b] [] pos) := ⟨fun pins s σ H R I hh => (pi_range2 hg hm (pa_cons ha (pa_cons hb pa_nil hs2) (by rw [hs, hs2])) hs hs2).run pins s σ H R I (by
  obtain ⟨g, P, st, r, q⟩ := hh
  refine ⟨g, P, st, r, (Post.bindE q).mono fun d s1 g1 H1 l1 r1 q1 v hv => ?_⟩
  refine ⟨g1, P, s1, r1, (Post.bindE q1).mono fun d' s2 g2 H2 l2 r2 q2 u hu => ?_⟩
  obtain ⟨es, e3, q3⟩ := Post.optE q2
  rcases rngD_cases e3 with ⟨j, e, h1, rfl⟩ | ⟨i, j, e, h1, h2, rfl⟩
  · cases e
  · cases e
    obtain rfl := En.R.intE hv
    obtain rfl := En.R.intE hu
    obtain ⟨a1, a2⟩ := rngOk_ok h1
    obtain ⟨b1, b2⟩ := rngOk_ok h2
    show tNil σ H2 _
    unfold tNil
    exact ⟨i, j, rfl, ⟨a1, a2, b1, b2⟩, q3 g2 H2 (.refl g2) r2 _ good_rng⟩)⟩
def enmK (d : Dat) : Option (List Dat) := match d with
  | .lst xs => some (enumD 0 xs)
  | _ => none
theorem si_enum {e : Expr} {ma : Ac Dat} {p pos tpos : Pos} {elts : List Expr} {kk : Nat} (hg : Gl X "enumerate") (hm : X.mg "enumerate" = none) (ha : SD W wx X ma e) (hs : starEach [e] X.env = [(false, eval e X.env)]) :
    SI W wx X (.Tuple elts kk tpos) (ma.bind fun d => Ac.opt (enmK d)) (.Call (.Name "enumerate" p) [e] [] pos) := ⟨fun pins s σ H R I hh => (pi_enum hg hm (pa_cons ha pa_nil hs) hs).run pins s σ H R I (by
  obtain ⟨g, P, st, r, q⟩ := hh
  refine ⟨g, P, st, r, (Post.bindE q).mono fun d s1 g1 H1 l1 r1 q1 v hv => ?_⟩
  obtain ⟨es, e3, q3⟩ := Post.optE q1
  cases d <;> first | cases e3 | skip
  cases hv with
  | lst h1 h2 =>
    show tNil σ H1 _
    unfold tNil
    exact ⟨_, _, rfl, SqL.of (r1.fz _ _ h1), q3 g1 H1 (.refl g1) r1 _ (good_enum h1 h2)⟩)⟩
def zipK (d d' : Dat) : Option (List Dat) := match d, d' with
  | .lst xs, .lst ys => some ((xs.zip ys).map fun p => .tpl [p.1, p.2])
  | _, _ => none
theorem si_zip {e e2 : Expr} {ma mb : Ac Dat} {p pos tpos : Pos} {elts : List Expr} {kk : Nat} (hg : Gl X "zip") (hm : X.mg "zip" = none) (ha : SD W wx X ma e) (hb : SD W wx X mb e2)
    (hs : starEach [e, e2] X.env = (false, eval e X.env) :: starEach [e2] X.env) (hs2 : starEach [e2] X.env = (false, eval e2 X.env) :: starEach [] X.env) (hpl : (backTo pos (starEach [e2] X.env)).any (·.1) = false) :
    SI W wx X (.Tuple elts kk tpos) (ma.bind fun d => mb.bind fun d' => Ac.opt (zipK d d')) (.Call (.Name "zip" p) [e, e2] [] pos) := ⟨fun pins s σ H R I hh => (pi_zip hg hm (pa_cons ha (pa_cons hb pa_nil hs2) hs) hs hpl).run pins s σ H R I (by
  obtain ⟨g, P, st, r, q⟩ := hh
  refine ⟨g, P, st, r, (Post.bindE q).mono fun d s1 g1 H1 l1 r1 q1 v hv => ?_⟩
  refine ⟨g1, P, s1, r1, (Post.bindE q1).mono fun d' s2 g2 H2 l2 r2 q2 u hu => ?_⟩
  obtain ⟨es, e3, q3⟩ := Post.optE q2
  cases d <;> cases d' <;> first | cases e3 | skip
  cases hv with
  | lst h1 h2 =>
    cases hu with
    | lst k1 k2 =>
      show tNil σ H2 _
      unfold tNil
      exact ⟨_, _, _, _, rfl, SqL.of (r2.fz _ _ (l2.F _ _ h1)), SqL.of (r2.fz _ _ k1), q3 g2 H2 (.refl g2) r2 _ (good_zip (l2.F _ _ h1) (Rs.mono l2 h2) k1 k2)⟩)⟩
end
/-! ### places -/
section
variable {W : Wd} {wx : WX} {X : Cx}
theorem Rk.put {g : Gh} {ky : Key} {d : Dat} {v : V} (q : R W g d v) : ∀ {ds : List (Key × Dat)} {vs : List (Key × V)}, Rk W g ds vs → Rk W g (putD ds ky d) (putK vs ky v) := by
  intro ds vs h
  have any : ∀ {ds : List (Key × Dat)} {vs : List (Key × V)}, Rk W g ds vs → (ds.any fun kv => decide (kv.1 = ky)) = (vs.any fun kv => decide (kv.1 = ky)) := by
    intro ds
    induction ds with
    | nil => intro vs h; cases h; rfl
    | cons p r ih =>
      intro vs h
      cases h with
      | cons h1 h2 => simp only [List.any_cons, ih h2]
  have mp : ∀ {ds : List (Key × Dat)} {vs : List (Key × V)}, Rk W g ds vs → Rk W g (ds.map fun kv => if kv.1 = ky then (kv.1, d) else kv) (vs.map fun kv => if kv.1 = ky then (kv.1, v) else kv) := by
    intro ds
    induction ds with
    | nil => intro vs h; cases h; exact .nil
    | cons p r ih =>
      intro vs h
      cases h with
      | cons h1 h2 =>
        rename_i k _ _ _
        simp only [List.map_cons]
        by_cases hk : k = ky
        · simp only [hk, if_true]
          exact .cons q (ih h2)
        · simp only [hk, if_false]
          exact .cons h1 (ih h2)
  have ap : ∀ {ds : List (Key × Dat)} {vs : List (Key × V)}, Rk W g ds vs → Rk W g (ds ++ [(ky, d)]) (vs ++ [(ky, v)]) := by
    intro ds
    induction ds with
    | nil => intro vs h; cases h; exact .cons q .nil
    | cons p r ih =>
      intro vs h
      cases h with
      | cons h1 h2 => exact .cons h1 (ih h2)
  unfold putD putK
  rw [any h]
  split
  · exact mp h
  · exact ap h
theorem Rf.put {g : Gh} {f : Str} {d : Dat} {v : V} (q : R W g d v) : ∀ {ds : List (Str × Dat)} {vs : List (Str × V)}, Rf W g ds vs → Rf W g (putFd f d ds) (putF f v vs)
  | _, _, .nil => .cons q .nil
  | _, _, .cons (k := k) h1 h2 => by
    unfold putFd putF
    by_cases hk : k = f
    · simp only [hk, if_true]
      exact .cons q h2
    · simp only [hk, if_false]
      exact .cons h1 (Rf.put q h2)
/-- o[k] = d -/
def subO (d : Dat) (w kw : Vw) : Option Mob := match w, kw with
  | .mb (.lst xs), .dt (.int j) => (ixN xs.length j).map fun m => .lst (xs.set m d)
  | .mb (.dct kvs), .dt kd => (kyD kd).bind fun ky => if kvs.length < sizeLine then some (.dct (putD kvs ky d)) else none
  | _, _ => none
def stpK (d : Dat) (o k : Rv) : Ac Unit := (lookA k).bind fun kw => (lookA o).bind fun w => (Ac.opt (subO d w kw)).bind fun o' => setMob o o'
def rSetLD : TSet := fun o i v H Q => rSetL o i v H Q ∨ rSetD o i v H Q
theorem set_ld (hu : X.A.units + 1 < cLine) : PSet X rSetLD := by
  intro pins s σ H o i v ov iv u Q I ro ri rv h
  rcases h with h | h
  · exact set_list pins s σ H o i v ov iv u Q I ro ri rv h
  · exact set_dict hu pins s σ H o i v ov iv u Q I ro ri rv h
theorem PostV.optE {g : Gh} {P : Hp} {σ : L2.St} {s : Stt} {vs : List Nat} {α β : Type} {o : Option α} {f : α → Ac β} {K : β → Stt → Gh → L2.St → Hp → Prop} (h : PostV W wx g P σ vs ((Ac.opt o).bind f s) K) : ∃ b, o = some b ∧ PostV W wx g P σ vs (f b s) K := by
  cases o with
  | none => exact h.elim
  | some b => exact ⟨b, rfl, h⟩
theorem stpK_ok {g : Gh} {P : Hp} {s : Stt} {σ : L2.St} {H : Hp} {vs : List Nat} {d : Dat} {o k : Rv} {ov kv v : V} {Q : L2.St → Hp → Prop} (r : Rel W g P s σ H) (qo : RvR W g P s σ H o ov) (qk : RvR W g P s σ H k kv) (qd : R W g d v)
    (h : PostV W wx g P σ vs (stpK d o k s) fun _ _ _ σ' H' => Q σ' H') : rSetLD ov kv v H fun H' => Q σ H' := by
  obtain ⟨kw, e1, h1⟩ := PostV.lookE h
  obtain ⟨w, e2, h2⟩ := PostV.lookE h1
  obtain ⟨o', e3, h3⟩ := PostV.optE h2
  have q1 := look_ok r qk e1
  have q2 := look_ok r qo e2
  have fin : ∀ {ow : Mob} {ho' : HO} {a : Addr}, w = .mb ow → ov = .ref a → RO W g o' ho' → Q σ (upd H a ho') := fun {ow ho' a} e ea rq => by
    subst e
    rcases setMob_ok (o' := o') r qo e2 with ⟨s', e3, b, hb, k1, k2, k3, k4⟩ | e3
    · rw [ea] at k1
      cases k1
      rw [e3] at h3
      exact h3 g σ _ (.refl g) (k4 ho' rq) rfl
    · rw [e3] at h3
      exact h3.elim
  clear h h1 h2 h3 e1 e2
  unfold subO at e3
  split at e3
  · obtain ⟨m, e4, rfl⟩ := Option.map_eq_some_iff.mp e3
    obtain ⟨a, ho, rfl, k1, k2⟩ := q2
    cases ho <;> first | exact False.elim k2 | skip
    rename_i zs
    have k2' : Rs W g _ zs := k2
    obtain rfl := R.intE q1
    exact .inl ⟨a, zs, _, m, rfl, rfl, k1, by rw [← k2'.length]; exact e4, fin (ho' := .lst _) rfl rfl (k2'.set qd m)⟩
  · obtain ⟨ky, e4, e5⟩ := Option.bind_eq_some_iff.mp e3
    split at e5
    · rename_i hl
      cases e5
      obtain ⟨a, ho, rfl, k1, k2⟩ := q2
      cases ho <;> first | exact False.elim k2 | skip
      rename_i zs
      have k2' : Rk W g _ zs := k2
      obtain rfl := kyD_ok e4 q1
      exact .inr ⟨a, _, rfl, DPut.k k1 (by rw [← k2'.length]; exact hl), fin (ho' := .dK _) rfl rfl (k2'.put qd)⟩
    · cases e5
  · cases e3
theorem sg_sub {o i : Expr} {mo mi : Ac Rv} {vs : List Nat} {pos : Pos} (hu : X.A.units + 64 < cLine) (po : SE W wx X mo o) (pi : SE W wx X mi i) (ha : ∀ v, assign (.Subscript o i pos) X.env v = (do
      let ov ← holding [v] (eval o X.env)
      let iv ← holding [v, ov] (eval i X.env)
      standAt pos
      holding [v, ov, iv] (setItem ov iv v)
      release [v, ov, iv] [])) : SG W wx X (fun x => (toVal x).bind fun d => mo.bind fun o => mi.bind fun k => stpK d o k) vs (.Subscript o i pos) :=
  ⟨fun pins s σ H v u Q I rv h => (pg_sub po pi (set_ld (by omega)) ha).run pins s σ H v u Q I rv (by
    obtain ⟨g, P, st, x, r, q, p⟩ := h
    obtain ⟨d, s1, g1, l1, r1, rd, p1⟩ := PostV.toValE r q p
    refine ⟨g1, P, s1, r1, (PostV.bindP p1).mono fun xo s2 g2 H2 l2 r2 p2 vo ho => ?_⟩
    obtain ⟨r3, u3, w3⟩ := rvK.up r2 ho
    refine ⟨g2, rvK.prt P H2 xo vo, s2, r3, ((PostV.bindP p2).under u3 w3).mono fun xk s4 g4 H4 l4 r4 p4 vk hk => ?_⟩
    exact stpK_ok (r4.weak u3 w3) (rvK.go ho l4 r4) (rvK.weak hk w3) (R.mono (l2.trans l4) rd) p4)⟩
/-- the store -/
def stoA : Rv → Ac Rv := fun x => match x with
  | .own o => fun s => .ok (.val (.ref s.sto.length)) { s with sto := s.sto ++ [o] }
  | _ => Ac.stk
def Gh.st (g : Gh) (a : Addr) : Gh := { g with n := g.n + 1, ρ := fun k => if k = g.n then a else g.ρ k }
theorem Gh.le_st {g : Gh} {a : Addr} : g.Le (g.st a) := ⟨fun _ _ h => h, Nat.le_succ _, fun k hk => by
  show (if k = g.n then a else g.ρ k) = _
  rw [if_neg (by omega)]⟩
theorem Rel.toSto {g : Gh} {P : Hp} {s : Stt} {σ : L2.St} {H : Hp} {o : Mob} {a : Addr} {ho : HO} (r : Rel W g P s σ H) (hH : H a = some ho) (hR : RO W g o ho) (hF : g.F a = none) (hP : P a = none) (hn : ∀ k, k < g.n → g.ρ k ≠ a) (hs : ∀ (i : Nat), OwnAt s.env i → σ[i]? ≠ some (some (.ref a))) :
    Rel W (g.st a) P { s with sto := s.sto ++ [o] } σ H ∧ R W (g.st a) (.ref s.sto.length) (.ref a) := by
  have l : g.Le (g.st a) := Gh.le_st
  have at_ : (g.st a).ρ g.n = a := if_pos rfl
  have ne : ∀ {k}, k ≠ g.n → (g.st a).ρ k = g.ρ k := fun {k} h => if_neg h
  have lt : ∀ {k}, k < (g.st a).n → k ≠ g.n → k < g.n := fun {k} h h' => by
    have : k < g.n + 1 := h
    omega
  refine ⟨⟨r.fz, fun b u e => ?_, r.len, by simp [r.n, Gh.st], fun k u e => ?_, fun j k hj hk e => ?_, fun k hk => ?_, fun i d e => ?_, fun i u e => ?_, r.sld⟩, ?_⟩
  · obtain ⟨k1, k2, k3⟩ := r.pr b u e
    refine ⟨k1, k2, fun k hk => ?_⟩
    by_cases hz : k = g.n
    · rw [hz, at_]
      intro z
      rw [← z, hP] at e
      cases e
    · rw [ne hz]
      exact k3 k (lt hk hz)
  · by_cases hz : k = g.n
    · rw [hz, ← r.n, List.getElem?_append_right (Nat.le_refl _), Nat.sub_self] at e
      cases e
      rw [hz, at_]
      exact ⟨ho, hH, RO.mono l hR⟩
    · have hk : k < (s.sto ++ [o]).length := (List.getElem?_eq_some_iff.mp e).1
      rw [List.length_append, List.length_singleton, r.n] at hk
      have hk' : k < s.sto.length := by
        rw [r.n]
        omega
      rw [List.getElem?_append_left hk'] at e
      obtain ⟨h, k1, k2⟩ := r.sto k u e
      rw [ne hz]
      exact ⟨h, k1, RO.mono l k2⟩
  · by_cases h1 : j = g.n
    · by_cases h2 : k = g.n
      · rw [h1, h2]
      · rw [h1, at_, ne h2] at e
        exact absurd e.symm (hn k (lt hk h2))
    · by_cases h2 : k = g.n
      · rw [h2, at_, ne h1] at e
        exact absurd e (hn j (lt hj h1))
      · rw [ne h1, ne h2] at e
        exact r.inj j k (lt hj h1) (lt hk h2) e
  · by_cases hz : k = g.n
    · rw [hz, at_]
      exact hF
    · rw [ne hz]
      exact r.stf k (lt hk hz)
  · obtain ⟨v, k1, k2⟩ := r.slv i d e
    exact ⟨v, k1, R.mono l k2⟩
  · obtain ⟨b, h, k1, k2, k3, k4, k5, k6⟩ := r.slo i u e
    refine ⟨b, h, k1, k2, RO.mono l k3, k4, k5, fun k hk => ?_⟩
    by_cases hz : k = g.n
    · rw [hz, at_]
      intro z
      rw [← z] at k1
      exact hs i ⟨u, e⟩ k1
    · rw [ne hz]
      exact k6 k (lt hk hz)
  · have := R.ref (W := W) (g := g.st a) (n := g.n) (Nat.lt_succ_self _)
    rw [at_] at this
    rw [r.n]
    exact this
theorem se_sto {e : Expr} {m : Ac Rv} (h : SE W wx X m e) : SE W wx X (m.bind stoA) e := peImp h fun σ H Q hh => by
  obtain ⟨g, P, s, r, q⟩ := hh
  refine ⟨g, P, s, r, (Post.bindE q).mono fun x s1 g1 H1 l1 r1 q1 v hv => ?_⟩
  cases x with
  | val d => exact q1.elim
  | bor i => exact q1.elim
  | own o =>
    obtain ⟨a, ho, rfl, hH, hR, hF, hP, hn, hs⟩ := hv
    obtain ⟨n1, n2⟩ := r1.toSto hH hR hF hP hn hs
    exact q1 _ _ Gh.le_st n1 _ n2
end
end En
set_option maxHeartbeats 4000000
/-! En13: comprehensions. -/
namespace En
open PySem PySem.Spec PyProof.Rows L2
def wx0 : WX := fun _ _ _ _ => False
/-- where an exception is none of ours -/
def noX {α : Type} (m : Ac α) : Ac α := fun s => match m s with
  | .ok a s' => .ok a s'
  | _ => .stuck
def wipS (env : List Slt) (own : List Nat) : List Slt := env.mapIdx fun i x => if i ∈ own then .no else x
def bakS (env0 env : List Slt) (own : List Nat) : List Slt := env.mapIdx fun i x => if i ∈ own then (match env0[i]? with
  | some (.val d) => .val d
  | _ => .no) else x
def wipA (own : List Nat) : Ac Unit := fun s => .ok () { s with env := wipS s.env own }
def trnA (step : Dat → Ac (Option Dat)) : List Dat → List Dat → Ac (List Dat)
  | acc, [] => Ac.ret acc
  | acc, d :: r => (step d).bind fun o => match o with
    | some y => if acc.length < sizeLine then trnA step (acc ++ [y]) r else Ac.stk
    | none => trnA step acc r
def stpA (a : Rv → Ac Unit) (mt : Ac Bool) (me : Ac Dat) (own : List Nat) (d : Dat) : Ac (Option Dat) := noX ((a (.val d)).bind fun _ => mt.bind fun k => if k then me.bind fun y => (wipA own).bind fun _ => Ac.ret (some y) else (wipA own).bind fun _ => Ac.ret none)
def lcA (m : Ac (List Dat)) (a : Rv → Ac Unit) (mt : Ac Bool) (me : Ac Dat) (own : List Nat) : Ac Rv :=
  m.bind fun ds => Ac.get.bind fun s0 => (wipA own).bind fun _ => (trnA (stpA a mt me own) [] ds).bind fun ys => fun s => .ok (.own (.lst ys)) { s with env := bakS s0.env s.env own }
section
variable {W : Wd} {wx : WX} {X : Cx} {g g' : Gh} {P P' : Hp} {s : Stt} {σ : L2.St} {H : Hp} {vs : List Nat}
theorem wipS_get {env : List Slt} {own : List Nat} {i : Nat} {x : Slt} (h : (wipS env own)[i]? = some x) (hx : x ≠ .no) : i ∉ own ∧ env[i]? = some x := by
  unfold wipS at h
  rw [List.getElem?_mapIdx] at h
  cases e : env[i]? with
  | none => rw [e] at h; cases h
  | some y =>
    rw [e] at h
    have h' : (if i ∈ own then Slt.no else y) = x := Option.some.inj h
    by_cases hi : i ∈ own
    · rw [if_pos hi] at h'
      exact absurd h'.symm hx
    · rw [if_neg hi] at h'
      exact ⟨hi, by rw [h']⟩
theorem Rel.wip (r : Rel W g P s σ H) (own : List Nat) : Rel W g P { s with env := wipS s.env own } (L2.wipe σ own) H := by
  have ow : ∀ {i : Nat}, OwnAt (wipS s.env own) i → i ∉ own ∧ OwnAt s.env i := fun {i} ⟨o, e⟩ => by
    obtain ⟨h1, h2⟩ := wipS_get e (fun z => nomatch z)
    exact ⟨h1, o, h2⟩
  refine ⟨r.fz, r.pr, by rw [L2.wipe_length, ← r.len]; simp [wipS], r.n, r.sto, r.inj, r.stf, fun i d e => ?_, fun i o e => ?_, fun i j a hi hj h1 h2 => ?_⟩
  · obtain ⟨h1, h2⟩ := wipS_get e (fun z => nomatch z)
    rw [L2.wipe_out h1]
    exact r.slv i d h2
  · obtain ⟨h1, h2⟩ := wipS_get e (fun z => nomatch z)
    obtain ⟨a, ho, k1, k2⟩ := r.slo i o h2
    exact ⟨a, ho, by rw [L2.wipe_out h1]; exact k1, k2⟩
  · obtain ⟨i1, i2⟩ := ow hi
    obtain ⟨j1, j2⟩ := ow hj
    rw [L2.wipe_out i1] at h1
    rw [L2.wipe_out j1] at h2
    exact r.sld i j a i2 j2 h1 h2
theorem bakS_get {env0 env : List Slt} {own : List Nat} {i : Nat} {x : Slt} (h : (bakS env0 env own)[i]? = some x) (hx : x ≠ .no) : (i ∉ own ∧ env[i]? = some x) ∨ (i ∈ own ∧ ∃ d, x = .val d ∧ env0[i]? = some (.val d)) := by
  unfold bakS at h
  rw [List.getElem?_mapIdx] at h
  cases e : env[i]? with
  | none => rw [e] at h; cases h
  | some y =>
    rw [e] at h
    have h' : (if i ∈ own then (match env0[i]? with
      | some (.val d) => Slt.val d
      | _ => .no) else y) = x := Option.some.inj h
    by_cases hi : i ∈ own
    · rw [if_pos hi] at h'
      split at h'
      · rename_i d hd
        exact .inr ⟨hi, d, h'.symm, hd⟩
      · exact absurd h'.symm hx
    · rw [if_neg hi] at h'
      exact .inl ⟨hi, by rw [h']⟩
theorem Rel.bak {s0 : Stt} {g0 : Gh} {P0 : Hp} {H0 : Hp} {own : List Nat} (r0 : Rel W g0 P0 s0 σ H0) (l : g0.Le g) (r : Rel W g P s (L2.wipe σ own) H) : Rel W g P { s with env := bakS s0.env s.env own } σ H := by
  have ow : ∀ {i : Nat}, OwnAt (bakS s0.env s.env own) i → i ∉ own ∧ OwnAt s.env i := fun {i} ⟨o, e⟩ => by
    rcases bakS_get e (fun z => nomatch z) with ⟨h1, h2⟩ | ⟨_, d, h2, _⟩
    · exact ⟨h1, o, h2⟩
    · cases h2
  refine ⟨r.fz, r.pr, ?_, r.n, r.sto, r.inj, r.stf, fun i d e => ?_, fun i o e => ?_, fun i j a hi hj h1 h2 => ?_⟩
  · have := r.len
    rw [L2.wipe_length] at this
    rw [← this]
    simp [bakS]
  · rcases bakS_get e (fun z => nomatch z) with ⟨h1, h2⟩ | ⟨_, d', h2, h3⟩
    · have := r.slv i d h2
      rw [L2.wipe_out h1] at this
      exact this
    · cases h2
      obtain ⟨v, k1, k2⟩ := r0.slv i d h3
      exact ⟨v, k1, R.mono l k2⟩
  · rcases bakS_get e (fun z => nomatch z) with ⟨h1, h2⟩ | ⟨_, d, h2, _⟩
    · obtain ⟨a, ho, k1, k2⟩ := r.slo i o h2
      rw [L2.wipe_out h1] at k1
      exact ⟨a, ho, k1, k2⟩
    · cases h2
  · obtain ⟨i1, i2⟩ := ow hi
    obtain ⟨j1, j2⟩ := ow hj
    rw [← L2.wipe_out i1] at h1
    rw [← L2.wipe_out j1] at h2
    exact r.sld i j a i2 j2 h1 h2
/-- a protected object grows -/
theorem Rel.reprot {D : Addr} {u u' : HO} (r : Rel W g (upd P D u) s σ H) (hP : P D = none) : Rel W g (upd P D u') s σ (upd H D u') := by
  obtain ⟨p1, p2, p3⟩ := r.pr D u upd_same
  have low : ∀ {b : Addr} {o : HO}, b ≠ D → H b = some o → (upd H D u') b = some o := fun {b o} h e => by
    rw [upd_ne h]
    exact e
  refine ⟨fun b o e => low (fun z => by rw [z, p2] at e; cases e) (r.fz b o e), fun b o e => ?_, r.len, r.n, fun k o e => ?_, r.inj, r.stf, r.slv, fun i o e => ?_, r.sld⟩
  · by_cases hb : b = D
    · subst hb
      rw [upd_same] at e
      cases e
      exact ⟨upd_same, p2, p3⟩
    · rw [upd_ne hb] at e
      obtain ⟨k1, k2, k3⟩ := r.pr b o (by rw [upd_ne hb]; exact e)
      exact ⟨low hb k1, k2, k3⟩
  · obtain ⟨ho, k1, k2⟩ := r.sto k o e
    have hk : k < g.n := by
      rw [← r.n]
      exact (List.getElem?_eq_some_iff.mp e).1
    exact ⟨ho, low (p3 k hk) k1, k2⟩
  · obtain ⟨a, ho, k1, k2, k3, k4, k5, k6⟩ := r.slo i o e
    have ha : a ≠ D := fun z => by
      rw [z, upd_same] at k5
      cases k5
    exact ⟨a, ho, k1, low ha k2, k3, k4, by rw [upd_ne ha] at k5 ⊢; exact k5, k6⟩
theorem wipe_idem : L2.wipe (L2.wipe σ vs) vs = L2.wipe σ vs := by
  apply List.ext_getElem?
  intro i
  by_cases hi : i ∈ vs
  · have none_at : ∀ (vs : List Nat) (σ : L2.St), i ∈ vs → ∀ x, (L2.wipe σ vs)[i]? = some x → x = none := by
      intro vs
      induction vs with
      | nil =>
        intro σ h
        cases h
      | cons v vs ih =>
        intro σ h x e
        have e' : ((L2.wipe σ vs).set v none)[i]? = some x := e
        by_cases hv : v = i
        · subst hv
          rcases getE_set e' with ⟨_, z⟩ | ⟨z, _⟩
          · exact z
          · exact absurd rfl z
        · have hi' : i ∈ vs := by
            rcases List.mem_cons.mp h with h | h
            · exact absurd h.symm hv
            · exact h
          rcases getE_set e' with ⟨z, _⟩ | ⟨_, z⟩
          · exact absurd z hv
          · exact ih σ hi' x z
    have len : ∀ σ : L2.St, ((L2.wipe σ vs)[i]? = none) ↔ σ.length ≤ i := fun σ => by
      rw [List.getElem?_eq_none_iff, L2.wipe_length]
    cases e1 : (L2.wipe (L2.wipe σ vs) vs)[i]? with
    | none =>
      have h1 := (len _).mp e1
      rw [L2.wipe_length] at h1
      exact ((len σ).mpr h1).symm
    | some x =>
      cases e2 : (L2.wipe σ vs)[i]? with
      | none =>
        have h2 := (len σ).mp e2
        have : (L2.wipe (L2.wipe σ vs) vs)[i]? = none := (len _).mpr (by rw [L2.wipe_length]; exact h2)
        rw [this] at e1
        cases e1
      | some y => rw [none_at vs _ hi x e1, none_at vs _ hi y e2]
  · rw [L2.wipe_out hi]
theorem PostV.noX {α : Type} {wx' : WX} {m : Ac α} {K : α → Stt → Gh → L2.St → Hp → Prop} (h : PostV W wx g P σ vs (noX m s) K) : PostV W wx' g P σ vs (m s) K := by
  unfold En.noX at h
  cases e : m s with
  | ok a s' =>
    rw [e] at h
    exact h
  | exc x s' =>
    rw [e] at h
    exact h.elim
  | stuck =>
    rw [e] at h
    exact h.elim
theorem trnA_nox {step : Dat → Ac (Option Dat)} (hs : ∀ d s x s', step d s ≠ .exc x s') : ∀ (ds acc : List Dat) (s : Stt) (x : Dat) (s' : Stt), trnA step acc ds s ≠ .exc x s'
  | [], acc, s, x, s', e => by cases e
  | d :: r, acc, s, x, s', e => by
    unfold trnA Ac.bind at e
    cases q : step d s with
    | ok o s1 =>
      rw [q] at e
      cases o with
      | none => exact trnA_nox hs r acc s1 x s' e
      | some y =>
        have e' : (if acc.length < sizeLine then trnA step (acc ++ [y]) r else Ac.stk) s1 = .exc x s' := e
        by_cases hl : acc.length < sizeLine
        · rw [if_pos hl] at e'
          exact trnA_nox hs r _ s1 x s' e'
        · rw [if_neg hl] at e'
          cases e'
    | exc z s1 => exact absurd q (hs d s z s1)
    | stuck =>
      rw [q] at e
      cases e
theorem stpA_nox {a : Rv → Ac Unit} {mt : Ac Bool} {me : Ac Dat} {own : List Nat} (d : Dat) (s : Stt) (x : Dat) (s' : Stt) : stpA a mt me own d s ≠ .exc x s' := by
  unfold stpA noX
  intro e
  split at e <;> cases e
/-- behind all turns -/
def lcEnd (W : Wd) (wx : WX) (P : Hp) (σ : L2.St) (own : List Nat) (s1 : Stt) (Q : VK) (ys : List Dat) (s' : Stt) (g' : Gh) (σ' : L2.St) (H' : Hp) : Prop :=
  σ' = L2.wipe σ own → Post W wx g' P σ (.ok (Rv.own (.lst ys)) { s' with env := bakS s1.env s'.env own }) fun b s' g' H' => ∀ v, (rvK (W := W)).rel g' P s' σ H' b v → Q v H'
/-- ahead of turn i -/
def lcAt (W : Wd) (wx : WX) (P : Hp) (σ : L2.St) (own : List Nat) (s1 : Stt) (Q : VK) (step : Dat → Ac (Option Dat)) (ds : List Dat) (g1 : Gh) (D : Addr) (i n : Nat) (H : Hp) : Prop :=
  n + i = ds.length ∧ ∃ g2 s2 acc accV, g1.Le g2 ∧ Rel W g2 (upd P D (.lst accV)) s2 (L2.wipe σ own) H ∧ Rs W g2 acc accV ∧ PostV W wx0 g2 P (L2.wipe σ own) own (trnA step acc (ds.drop i) s2) (lcEnd W wx P σ own s1 Q)
theorem lc_imp {m : Ac (List Dat)} {a : Rv → Ac Unit} {mt : Ac Bool} {me : Ac Dat} {own : List Nat} {Q : VK} (h : tX W wx rvK (lcA m a mt me own) σ H Q) :
    tLc (tI W wx m) (tG W wx0 a own) (tX W wx0 (eqK Bool) mt) (tX W wx0 dtK me) own σ H Q := by
  obtain ⟨g, P, s, r, q⟩ := h
  refine ⟨g, P, s, r, (Post.bindE q).mono fun ds s1 g1 H1 l1 r1 q1 J hJ => ?_⟩
  intro D hD
  obtain ⟨f1, f2, f3, f4⟩ := r1.newF hD
  -- the turns
  have start : PostV W wx0 g1 P (L2.wipe σ own) own (trnA (stpA a mt me own) [] ds { s1 with env := wipS s1.env own }) (lcEnd W wx P σ own s1 Q) := by
    have q2 : Post W wx g1 P σ (((trnA (stpA a mt me own) [] ds).bind fun ys => fun s => .ok (Rv.own (.lst ys)) { s with env := bakS s1.env s.env own }) { s1 with env := wipS s1.env own }) (fun b s' g' H' => ∀ v, (rvK (W := W)).rel g' P s' σ H' b v → Q v H') := q1
    unfold Ac.bind at q2
    cases e : trnA (stpA a mt me own) [] ds { s1 with env := wipS s1.env own } with
    | ok ys s' =>
      rw [e] at q2
      exact fun g' σ' H' l r _ _ => Post.le q2 l
    | exc x s' => exact absurd e (trnA_nox stpA_nox ds [] _ x s')
    | stuck =>
      rw [e] at q2
      exact q2.elim
  refine ⟨lcAt W wx P σ own s1 Q (stpA a mt me own) ds g1 D, ?_, ?_⟩
  · refine ⟨ds.length, rfl, g1, _, [], [], .refl g1, ?_, .nil, start⟩
    exact Rel.prot (o := .lst []) (ho := .lst []) ((r1.wip own).laid hD) upd_same f1 f2 f3 fun i ⟨o, e⟩ z => by
      obtain ⟨h1, h2⟩ := wipS_get e (fun z => nomatch z)
      rw [L2.wipe_out h1] at z
      exact f4 i ⟨o, h2⟩ z
  rintro i n H2 ⟨hn, g2, s2, acc, accV, l2, r2, rs, q2⟩
  obtain ⟨p1, p2, p3⟩ := r2.pr D _ upd_same
  by_cases hi : i < ds.length
  · refine .inr ⟨hJ.go g2 _ s2 _ H2 i l2 r2 hi, lcAt W wx P σ own s1 Q (stpA a mt me own) ds g1 D (i + 1) (n - 1), fun H' n' => ⟨n - 1, by omega, n'⟩, fun x H3 y => ?_⟩
    obtain ⟨g3, d, l3, r3, e3, rd⟩ := hJ.yld g2 _ s2 _ H2 i x H3 l2 r2 hi y
    have ed : ds.drop i = d :: ds.drop (i + 1) := by
      have hd : ds[i] = d := by
        have := List.getElem?_eq_getElem hi
        rw [e3] at this
        exact (Option.some.inj this).symm
      rw [List.drop_eq_getElem_cons hi, hd]
    rw [ed] at q2
    have q3 := (PostV.bindE (PostV.le q2 l3)).under (up_le (ho := .lst accV) f2) up_none
    have q4 := PostV.bindE (PostV.noX (wx' := wx0) q3)
    refine ⟨g3, _, s2, .val d, r3, rd, q4.mono fun _ s4 g4 σ4 H4 l4 r4 e4 q5 => ⟨e4.trans wipe_idem, ?_⟩⟩
    have e4' : L2.wipe σ4 own = L2.wipe σ own := e4.trans wipe_idem
    refine ⟨g4, _, s4, r4, (PostV.bindP q5).mono fun k s5 g5 H5 l5 r5 q6 k' hk => ?_⟩
    cases hk
    cases k with
    | false =>
      have r7 := r5.wip own
      have q8 := q6 g5 _ H5 (.refl g5) r7 wipe_idem
      rw [e4'] at q8 r7
      exact ⟨by omega, g5, _, acc, accV, (l2.trans l3).trans (l4.trans l5), r7, Rs.mono (l3.trans (l4.trans l5)) rs, q8⟩
    | true =>
      refine ⟨g5, _, s5, r5, (PostV.bindP q6).mono fun yd s6 g6 H6 l6 r6 q7 v hv => ?_⟩
      have r7 := r6.wip own
      have q8 := q7 g6 _ H6 (.refl g6) r7 wipe_idem
      rw [e4'] at q8 r7
      have q9 : PostV W wx0 g6 P (L2.wipe σ own) own ((if acc.length < sizeLine then trnA (stpA a mt me own) (acc ++ [yd]) (ds.drop (i + 1)) else Ac.stk) { s6 with env := wipS s6.env own }) (lcEnd W wx P σ own s1 Q) := q8
      have rs' : Rs W g6 acc accV := Rs.mono (l3.trans (l4.trans (l5.trans l6))) rs
      by_cases hl : acc.length < sizeLine
      · rw [if_pos hl] at q9
        refine ⟨accV, (r6.pr D _ upd_same).1, by rw [← rs'.length]; exact hl, by omega, g6, _, acc ++ [yd], accV ++ [v], (l2.trans l3).trans (l4.trans (l5.trans l6)), r7.reprot f2, rs'.append (.cons hv .nil), q9⟩
      · rw [if_neg hl] at q9
        exact q9.elim
  · have hi' : i = ds.length := by omega
    subst hi'
    rw [List.drop_length] at q2
    refine .inl ⟨hJ.stop g2 _ s2 _ H2 l2 r2, ?_⟩
    have r3 : Rel W g2 P s2 (L2.wipe σ own) H2 := r2.unprot f2
    have q4 := q2 g2 _ H2 (.refl g2) r3 rfl rfl
    have r4 := Rel.bak r1 l2 r2
    refine q4 g2 H2 (.refl g2) (r4.unprot f2) _ ⟨D, _, rfl, p1, rs, p2, f2, p3, fun j ⟨o, e⟩ z => ?_⟩
    obtain ⟨b, hb, k1, k2, k3, k4, k5, k6⟩ := r4.slo j o e
    rw [z] at k1
    cases k1
    rw [upd_same] at k5
    cases k5
abbrev BlkX (X : Cx) (scope : Scope) (p : Cx → Prop) : Prop := ∀ (s : Shared) (H : Hp) (C : Addr) (cl : List (Str × Addr)) (fp : List Addr), p (X.blk s H scope (compEnvC scope cl C X.env) fp)
theorem se_lc {elt tg iter : Expr} {ifs : List Expr} {scope : Scope} {own : List (Str × Nat)} {pos : Pos} {m : Ac (List Dat)} {a : Rv → Ac Unit} {mt : Ac Bool} {me : Ac Dat} (hc : X.calm = true) (hN : X.N.Nodup) (hi : SI W wx X tg m iter) (ok : BlkOk X.N X.env.scope scope own)
    (hg : BlkX X scope fun Y => SG W wx0 Y a (own.map (·.2)) tg) (ht : BlkX X scope fun Y => PTs Y ifs (tX W wx0 (eqK Bool) mt)) (he : BlkX X scope fun Y => SD W wx0 Y me elt) (hs : ∀ x, foldedSetIterable iter X.env x = pure x) :
    SE W wx X (lcA m a mt me (own.map (·.2))) (.ListComp elt [⟨tg, iter, ifs, 0⟩] scope pos) := peImp (pe_lc hc hN hi ok hg ht he hs) fun σ H Q h => lc_imp h
theorem ss_setLc {i : Nat} {y : Str} {py : Pos} {elt tg iter : Expr} {ifs : List Expr} {scope : Scope} {own : List (Str × Nat)} {pos spos : Pos} {m : Ac (List Dat)} {a : Rv → Ac Unit} {mt : Ac Bool} {me : Ac Dat} (hc : X.calm = true) (hN : X.N.Nodup) (hy : X.N[i]? = some y) (hyl : X.env.scope.names.lookup y = some .local)
    (hsw : swapsWith (.ListComp elt [⟨tg, iter, ifs, 0⟩] scope pos) (some (.Name y py)) spos.line X.env = pure true) (hi : SI W wx X tg m iter) (ok : BlkOk X.N X.env.scope scope own)
    (hg : BlkX X scope fun Y => SG W wx0 Y a (own.map (·.2)) tg) (ht : BlkX X scope fun Y => PTs Y ifs (tX W wx0 (eqK Bool) mt)) (he : BlkX X scope fun Y => SD W wx0 Y me elt) (hs : ∀ x, foldedSetIterable iter X.env x = pure x) :
    SS W wx X ((lcA m a mt me (own.map (·.2))).bind fun x => (setA i x).bind fun _ => nxA) (.Assign [.Name y py] (.ListComp elt [⟨tg, iter, ifs, 0⟩] scope pos) spos) :=
  psImp (ps_setLc hc hN hy hyl hsw hi ok hg ht he hs) fun D σ H hh => by
    refine lc_imp (wx := wx) ?_
    obtain ⟨g, P, s, r, q⟩ := hh
    refine ⟨g, P, s, r, (PostS.bindE q).mono fun x s1 g1 H1 l1 r1 q1 v hv => ?_⟩
    obtain ⟨s', g', l', r', k'⟩ := setA_ok (vs := [i]) (by simp) r1 hv (PostS.bindV [i] q1)
    exact k' g' _ H1 (.refl g') r'
end
end En
set_option maxHeartbeats 4000000
/-! En14: what a def promises; calls. -/
namespace En
open PySem PySem.Spec PyProof.Rows L2
/-- what parameters are bound to -/
inductive Sl where
  | pos (i : Nat) | kw (i : Nat) | dft (d : Dat)
  /- what is left over, as a tuple -/
  | rest (i : Nat)
def Sl.get (ds zs : List Dat) : Sl → Option Dat
  | .pos i => ds[i]?
  | .kw i => zs[i]?
  | .dft d => some d
  | .rest i => if (ds.drop i).length ≤ sizeLine then some (.tup (ds.drop i)) else none
def permD (ds zs : List Dat) : List Sl → Option (List Dat)
  | [] => some []
  | l :: r => match l.get ds zs, permD ds zs r with
    | some d, some ds' => some (d :: ds')
    | _, _ => none
/- a constant of the module -/
mutual
def datB (K : PySem.W.Frag) : Dat → Value → Bool
  | .non, .none => true
  | .bl b, .bool c => decide (b = c)
  | .int i, .int j _ => decide (i = j)
  | .str x, .str y _ => decide (x = y)
  | .tup ds, .ref a => (match K.lookup a with
    | some ⟨.type c, none, .seq its _, _⟩ => decide (c = "tuple") && (decide (its.size ≤ sizeLine) && datsB K ds its.toList)
    | _ => false)
  | _, _ => false
def datsB (K : PySem.W.Frag) : List Dat → List Value → Bool
  | [], [] => true
  | d :: ds, u :: us => datB K d u && datsB K ds us
  | _, _ => false
end
section
variable {W : Wd}
mutual
theorem datB_ok : ∀ {d : Dat} {u : Value}, datB W.K d u = true → ∃ v, L2.RelV v u ∧ ∀ g, R W g d v
  | .non, u, h => by
    cases u <;> first | cases h | skip
    exact ⟨.non, rfl, fun g => .non⟩
  | .bl b, u, h => by
    cases u <;> first | cases h | skip
    rename_i c
    obtain rfl : b = c := of_decide_eq_true h
    exact ⟨.bl b, rfl, fun g => .bl b⟩
  | .int i, u, h => by
    cases u <;> first | cases h | skip
    rename_i j t
    obtain rfl : i = j := of_decide_eq_true h
    exact ⟨.int i, ⟨t, rfl⟩, fun g => .int i⟩
  | .str x, u, h => by
    cases u <;> first | cases h | skip
    rename_i y t
    obtain rfl : x = y := of_decide_eq_true h
    exact ⟨.str x, ⟨t, rfl⟩, fun g => .str x⟩
  | .tup ds, u, h => by
    cases u <;> first | cases h | skip
    rename_i a
    unfold datB at h
    split at h
    · rename_i c its n sl q
      simp only [Bool.and_eq_true, decide_eq_true_eq] at h
      obtain ⟨h1, h2, h3⟩ := h
      subst h1
      obtain ⟨vs, k1, k2⟩ := datsB_ok h3
      exact ⟨.ref a, rfl, fun g => .tup (.inr ⟨_, its, n, q, rfl, rfl, rfl, h2, k1⟩) (k2 g)⟩
    · cases h
  | .lst _, u, h => by cases u <;> cases h
  | .dct _, u, h => by cases u <;> cases h
  | .obj _ _, u, h => by cases u <;> cases h
  | .err _ _, u, h => by cases u <;> cases h
  | .ref _, u, h => by cases u <;> cases h
  | .fn _, u, h => by cases u <;> cases h
  | .cls _, u, h => by cases u <;> cases h
  | .ty _, u, h => by cases u <;> cases h
  | .scr _, u, h => by cases u <;> cases h
  | .tpl _, u, h => by cases u <;> cases h
theorem datsB_ok : ∀ {ds : List Dat} {us : List Value}, datsB W.K ds us = true → ∃ vs, Vals vs us ∧ ∀ g, Rs W g ds vs
  | [], [], _ => ⟨[], .nil, fun _ => .nil⟩
  | d :: ds, u :: us, h => by
    have h' : (datB W.K d u && datsB W.K ds us) = true := h
    simp only [Bool.and_eq_true] at h'
    obtain ⟨v, k1, k2⟩ := datB_ok h'.1
    obtain ⟨vs, k3, k4⟩ := datsB_ok h'.2
    exact ⟨v :: vs, .cons k1 k3, fun g => .cons (k2 g) (k4 g)⟩
  | [], _ :: _, h => by cases h
  | _ :: _, [], h => by cases h
end
end
inductive SlV (K : PySem.W.Frag) (us ws : List Value) : List Sl → List Value → Prop
  | nil : SlV K us ws [] []
  | pos {i : Nat} {u : Value} {r : List Sl} {bs : List Value} : us[i]? = some u → SlV K us ws r bs → SlV K us ws (.pos i :: r) (u :: bs)
  | kw {i : Nat} {u : Value} {r : List Sl} {bs : List Value} : ws[i]? = some u → SlV K us ws r bs → SlV K us ws (.kw i :: r) (u :: bs)
  | dft {d : Dat} {u : Value} {r : List Sl} {bs : List Value} : datB K d u = true → SlV K us ws r bs → SlV K us ws (.dft d :: r) (u :: bs)
/-- how a call of n values and the keywords ks binds -/
structure CBp (K : PySem.W.Frag) (fd : FuncData) (ps : List Str) (n : Nat) (ks : List Str) (sl : List Sl) : Prop where
  to : ∀ (s : Shared) (us ws : List Value), K.In s.heap → us.length = n → ws.length = ks.length → ∃ bs, BindsTo s fd ⟨us, ks.zip ws⟩ (ps.zip bs) ∧ SlV K us ws sl bs
  len : sl.length = ps.length
/-- a def with a star parameter at its end -/
structure CBs (fd : FuncData) (ps : List Str) (n : Nat) (sl : List Sl) : Prop where
  ex : ∃ ps0 pv, ps = ps0 ++ [pv] ∧ ps0.length ≤ n ∧ (∀ us rest : List Value, us.length = ps0.length → bindArgs fd ⟨us ++ rest, []⟩ = (newTuple rest >>= fun t => pure (ps0.zip us ++ [(pv, t)]))) ∧
    ∀ ds xs : List Dat, ds.length = n → permD ds [] sl = some xs → xs = ds.take ps0.length ++ [.tup (ds.drop ps0.length)] ∧ (ds.drop ps0.length).length ≤ sizeLine
def CB (K : PySem.W.Frag) (fd : FuncData) (ps : List Str) (n : Nat) (ks : List Str) (sl : List Sl) : Prop := CBp K fd ps n ks sl ∨ (ks = [] ∧ CBs fd ps n sl)
theorem SlV.len {K : PySem.W.Frag} {us ws : List Value} : ∀ {sl : List Sl} {bs : List Value}, SlV K us ws sl bs → bs.length = sl.length
  | _, _, .nil => rfl
  | _, _, .pos _ r => congrArg (· + 1) r.len
  | _, _, .kw _ r => congrArg (· + 1) r.len
  | _, _, .dft _ r => congrArg (· + 1) r.len
section
variable {W : Wd} {g : Gh}
theorem getVals {vs : List V} {us : List Value} (r : Vals vs us) {i : Nat} {u : Value} (h : us[i]? = some u) : ∃ v, vs[i]? = some v ∧ L2.RelV v u := by
  induction r generalizing i with
  | nil => simp at h
  | cons rv rr ih =>
    cases i with
    | zero =>
      have h' := Option.some.inj h
      subst h'
      exact ⟨_, rfl, rv⟩
    | succ i =>
      obtain ⟨v, h1, h2⟩ := ih (by simpa using h)
      exact ⟨v, by simpa using h1, h2⟩
theorem SlV.go {K : PySem.W.Frag} (hK : W.K = K) {ds zs : List Dat} {vs ws : List V} {us wu : List Value} (r : Rs W g ds vs) (r' : Rs W g zs ws) (v : Vals vs us) (v' : Vals ws wu) : ∀ {sl : List Sl} {bs : List Value} {es : List Dat}, SlV K us wu sl bs → permD ds zs sl = some es → ∃ xs, Rs W g es xs ∧ Vals xs bs
  | _, _, _, .nil, e => by
    cases e
    exact ⟨[], .nil, .nil⟩
  | _, _, es, .pos (i := i) (r := rest) h t, e => by
    unfold permD Sl.get at e
    cases e1 : ds[i]? with
    | none => simp [e1] at e
    | some d =>
      cases e2 : permD ds zs rest with
      | none => simp [e1, e2] at e
      | some ds' =>
        simp [e1, e2] at e
        subst e
        obtain ⟨xs, k1, k2⟩ := SlV.go hK r r' v v' t e2
        obtain ⟨z, h1, h2⟩ := getVals v h
        obtain ⟨z', h3, h4⟩ := r.get e1
        rw [h1] at h3
        cases h3
        exact ⟨z :: xs, .cons h4 k1, .cons h2 k2⟩
  | _, _, es, .kw (i := i) (r := rest) h t, e => by
    unfold permD Sl.get at e
    cases e1 : zs[i]? with
    | none => simp [e1] at e
    | some d =>
      cases e2 : permD ds zs rest with
      | none => simp [e1, e2] at e
      | some ds' =>
        simp [e1, e2] at e
        subst e
        obtain ⟨xs, k1, k2⟩ := SlV.go hK r r' v v' t e2
        obtain ⟨z, h1, h2⟩ := getVals v' h
        obtain ⟨z', h3, h4⟩ := r'.get e1
        rw [h1] at h3
        cases h3
        exact ⟨z :: xs, .cons h4 k1, .cons h2 k2⟩
  | _, _, es, .dft (d := d) (r := rest) h t, e => by
    unfold permD Sl.get at e
    cases e2 : permD ds zs rest with
    | none => simp [e2] at e
    | some ds' =>
      simp [e2] at e
      subst e
      obtain ⟨xs, k1, k2⟩ := SlV.go hK r r' v v' t e2
      rw [← hK] at h
      obtain ⟨x, q1, q2⟩ := datB_ok h
      exact ⟨x :: xs, .cons (q2 g) k1, .cons q1 k2⟩
end
/-! ### a call, from the caller -/
section
variable {W : Wd} {wx : WX} {g : Gh} {P : Hp} {s : Stt} {σ : L2.St} {H : Hp}
/-- the caller's own objects are protected -/
noncomputable def prtS (P H : Hp) (env : List Slt) (σ : L2.St) : Hp := fun a => open Classical in if ∃ i, OwnAt env i ∧ σ[i]? = some (some (.ref a)) then H a else P a
theorem Rel.callee (r : Rel W g P s σ H) : Rel W g (prtS P H s.env σ) ⟨[], s.sto⟩ [] H := by
  refine ⟨r.fz, fun b o e => ?_, rfl, r.n, r.sto, r.inj, r.stf, fun i d e => by simp at e, fun i o e => by simp at e, fun i j a ⟨o, e⟩ => by simp at e⟩
  unfold prtS at e
  split at e
  · rename_i h
    obtain ⟨i, ⟨o', ho'⟩, hi⟩ := h
    obtain ⟨a, ho, k1, k2, k3, k4, k5, k6⟩ := r.slo i o' ho'
    rw [hi] at k1
    cases k1
    exact ⟨e, k4, k6⟩
  · exact r.pr b o e
theorem Rel.back {g' : Gh} {sto' : List Mob} {H' : Hp} (r : Rel W g P s σ H) (l : g.Le g') (r' : Rel W g' (prtS P H s.env σ) ⟨[], sto'⟩ [] H') : Rel W g' P ⟨s.env, sto'⟩ σ H' := by
  have own : ∀ {i : Nat} {o : Mob}, s.env[i]? = some (.own o) → ∃ a ho, σ[i]? = some (some (.ref a)) ∧ H' a = some ho ∧ RO W g' o ho ∧ g'.F a = none ∧ P a = none ∧ ∀ k, k < g'.n → g'.ρ k ≠ a := fun {i o} e => by
    obtain ⟨a, ho, k1, k2, k3, k4, k5, k6⟩ := r.slo i o e
    have hp : prtS P H s.env σ a = some ho := by
      unfold prtS
      rw [if_pos ⟨i, ⟨o, e⟩, k1⟩]
      exact k2
    obtain ⟨q1, q2, q3⟩ := r'.pr a ho hp
    exact ⟨a, ho, k1, q1, RO.mono l k3, q2, k5, q3⟩
  refine ⟨r'.fz, fun b o e => ?_, r.len, r'.n, r'.sto, r'.inj, r'.stf, fun i d e => ?_, fun i o e => own e, r.sld⟩
  · have hp : prtS P H s.env σ b = some o := by
      unfold prtS
      split
      · exact (r.pr b o e).1
      · exact e
    exact r'.pr b o hp
  · obtain ⟨v, k1, k2⟩ := r.slv i d e
    exact ⟨v, k1, R.mono l k2⟩
theorem RvR.back {g' : Gh} {sto' : List Mob} {H' : Hp} {x : Rv} {v : V} (r : Rel W g P s σ H) (q : RvR W g' (prtS P H s.env σ) ⟨[], sto'⟩ [] H' x v) : RvR W g' P ⟨s.env, sto'⟩ σ H' x v := by
  cases x with
  | val d => exact q
  | bor i =>
    have q' : ([] : L2.St)[i]? = some (some v) := q
    simp at q'
  | own o =>
    obtain ⟨a, ho, rfl, k1, k2, k3, k4, k5, k6⟩ := q
    unfold prtS at k4
    split at k4
    · rename_i h
      obtain ⟨i, ⟨o', ho'⟩, hi⟩ := h
      obtain ⟨b, hb, q1, q2, _⟩ := r.slo i o' ho'
      rw [hi] at q1
      cases q1
      rw [q2] at k4
      cases k4
    · rename_i h
      exact ⟨a, ho, rfl, k1, k2, k3, k4, k5, fun i hi z => h ⟨i, hi, z⟩⟩
end
def PostC (W : Wd) (g : Gh) (P : Hp) (c : Cou) (Q : VK) (E : XK) : Prop := match c with
  | .ok r sto => ∀ g' H' v, g.Le g' → Rel W g' P ⟨[], sto⟩ [] H' → RvR W g' P ⟨[], sto⟩ [] H' r v → Q v H'
  | .exc x sto => ∀ g' H' cls d, g.Le g' → Rel W g' P ⟨[], sto⟩ [] H' → XR W g' x cls d → E cls d H'
  | .stuck => False
/-- what a def of ours promises -/
def spF (W : Wd) (np : Nat) (call : List Dat → List Mob → Cou) : Sp := fun vs H Q E => ∃ g P sto ds, Rel W g P ⟨[], sto⟩ [] H ∧ Rs W g ds vs ∧ ds.length = np ∧ PostC W g P (call ds sto) Q E
structure RoomG (k : Nat) (A : Around) : Prop where
  room : Room k A
  gd : A.guards = some []
theorem RoomG.mono {j k : Nat} {A : Around} (r : RoomG k A) (h : j ≤ k) : RoomG j A := ⟨r.room.mono h, r.gd⟩
theorem RoomG.deeper {k : Nat} {A : Around} (r : RoomG (k + 1) A) (env : Env) : RoomG k (A.deeper env) := ⟨r.room.deeper env, r.gd⟩
theorem RoomG.make {k : Nat} {A : Around} (r : RoomG (k + 1) A) (C : Addr) (us : List Value) (kw : List (Str × Value)) : RoomG k (A.under (.builtin "type.__call__" ⟨.ref C :: us, kw⟩)) :=
  ⟨r.room.make C us kw, by first | exact r.gd | (simpa [Around.under, Code.isGuard, guardIds] using r.gd)⟩
/-- values are bound; there are some -/
def BndN (CX : CXT) (P : Program) (w : World) (K : PySem.W.Frag) (mg : Str → Option Value) (base : Heap) (fd : FuncData) (args : Args) (ps : List Str) (A : Around) (outer : List Env) (s : Shared) (H : Hp) (E : XK) (G : List V → Hp → Prop) : Prop :=
  StX.Bnd CX P w K mg base fd args ps A outer s H E G ∧ ∃ vs H', G vs H'
structure FnG (P : Program) (w : World) (K : PySem.W.Frag) (mg : Str → Option Value) (base : Heap) (k : Nat) (f : Addr) (fd : FuncData) (ps : List Str) (sp : Sp) : Prop where
  len : ∀ vs H Q E, sp vs H Q E → vs.length = ps.length
  runB : ∀ (A : Around) (outer : List Env) (s : Shared) (H : Hp) (args : Args) (Q : VK) (E : XK), RoomG k A → Env0 P w K mg base A outer s H → BndN (CX P w) P w K mg base fd args ps A outer s H E (fun vs H2 => sp vs H2 Q E) →
    codeAny (model P w) A (.call (.ref f) args) (CR (CX P w) outer P w H s Q E) s
theorem FnG.run {P : Program} {w : World} {K : PySem.W.Frag} {mg : Str → Option Value} {base : Heap} {k : Nat} {f : Addr} {fd : FuncData} {ps : List Str} {sp : Sp} (F : FnG P w K mg base k f fd ps sp) (A : Around) (outer : List Env) (s : Shared) (H : Hp) (args : Args) (us : List Value) (vs : List V) (Q : VK) (E : XK) (hr : RoomG k A) (e0 : Env0 P w K mg base A outer s H) (hb : BindsTo s fd args (ps.zip us)) (r : Vals vs us) (h : sp vs H Q E) :
    codeAny (model P w) A (.call (.ref f) args) (CR (CX P w) outer P w H s Q E) s := F.runB A outer s H args Q E hr e0 ⟨fun A' Ex Q' hq => hb _ _ _ _ (hq s H vs us e0 .refl rfl (fun _ _ z => z) r (F.len _ _ _ _ h) h), vs, H, h⟩
theorem FnG.mono {P : Program} {w : World} {K : PySem.W.Frag} {mg : Str → Option Value} {base : Heap} {j k : Nat} {f : Addr} {fd : FuncData} {ps : List Str} {sp : Sp} (F : FnG P w K mg base j f fd ps sp) (h : j ≤ k) :
    FnG P w K mg base k f fd ps sp := ⟨F.len, fun A outer s H args Q E hr => F.runB A outer s H args Q E (hr.mono h)⟩
/-- how a call's values are bound -/
theorem CB.go {W : Wd} {g : Gh} {Pp : Hp} {st : Stt} {σ : L2.St} {P : Program} {w : World} {K : PySem.W.Frag} {mg : Str → Option Value} {base : Heap} {A : Around} {outer : List Env} {s : Shared} {H : Hp} {E : XK} {fd : FuncData} {ps ks : List Str} {n : Nat} {sl : List Sl} {ds es xs : List Dat} {vs zs : List V} {us ws : List Value}
    (cb : CB K fd ps n ks sl) (hKW : W.K = K) (e0 : Env0 P w K mg base A outer s H) (r : Rel W g Pp st σ H) (rd : Rs W g ds vs) (re : Rs W g es zs) (rv : Vals vs us) (rz : Vals zs ws) (hn : ds.length = n) (hk : es.length = ks.length) (e : permD ds es sl = some xs) :
    xs.length = ps.length ∧ BndN (CX P w) P w K mg base fd ⟨us, ks.zip ws⟩ ps A outer s H E fun vs' H' => ∃ g', g.Le g' ∧ Rel W g' Pp st σ H' ∧ Rs W g' xs vs' := by
  rcases cb with cb | ⟨rfl, ⟨ps0, pv, rfl, hm, hb, hx⟩⟩
  · have KX : K.In s.heap := e0.mod.kin.keeps fun b o e => (e0.bs b o e).1
    obtain ⟨bs, hb, hs⟩ := cb.to s us ws KX (by rw [← rv.length, ← rd.length]; exact hn) (by rw [← rz.length, ← re.length]; exact hk)
    obtain ⟨zv, k1, k2⟩ := hs.go hKW rd re rv rz e
    refine ⟨by rw [k1.length, k2.length, hs.len, cb.len], ⟨fun A' Ex Q' hq => hb _ _ _ _ (hq s H zv bs e0 .refl rfl (fun _ _ z => z) k2 (by rw [k2.length, hs.len, cb.len]) ⟨g, .refl g, r, k1⟩), zv, H, g, .refl g, r, k1⟩⟩
  · obtain rfl : es = [] := List.length_eq_zero_iff.mp hk
    obtain ⟨rfl, hz⟩ := hx ds xs hn e
    have hl0 : (ds.take ps0.length).length = ps0.length := by
      rw [List.length_take, hn]
      exact Nat.min_eq_left hm
    have hn' : H s.heap.objs.size = Option.none := e0.hok.fresh (Nat.le_refl _)
    have t1 := rd.take ps0.length
    have t2 := rd.drop ps0.length
    have ev : vs = vs.take ps0.length ++ vs.drop ps0.length := (List.take_append_drop _ _).symm
    rw [ev] at rv
    obtain ⟨u1, u2, rfl, r1, r2⟩ := StX.vals_split rv
    have hl1 : u1.length = ps0.length := by rw [← r1.length, ← t1.length]; exact hl0
    have hl2 : u2.length ≤ sizeLine := by rw [← r2.length, ← t2.length]; exact hz
    obtain ⟨n1, n2, n3⟩ := r.newZ (o := { cls := .type "tuple", data := .seq u2.toArray }) hn' rfl t2
    refine ⟨by rw [List.length_append, List.length_append, hl0] <;> rfl, fun A' Ex Q' hq => ?_, _, _, _, n1, n2, (Rs.mono n1 t1).append (.cons n3 .nil)⟩
    have z0 : ([] : List Str).zip ws = [] := rfl
    rw [z0, hb u1 u2 hl1]
    refine wpAny_bind (wpAny_newTuple (wpAny_pure ?_) hl2)
    have new : ObjOk P w (upd H s.heap.objs.size (.frz { cls := .type "tuple", data := .seq u2.toArray } (.tup (vs.drop ps0.length)))) (s.heap.push ({ cls := .type "tuple", data := .seq u2.toArray } : Obj)) s.heap.objs.size (.frz { cls := .type "tuple", data := .seq u2.toArray } (.tup (vs.drop ps0.length))) :=
      ⟨Heap.get?_push_size _ rfl, by rw [← t2.length]; exact hz, u2, r2, ⟨_, Heap.get?_push_size _ rfl, rfl, _, rfl⟩⟩
    have un := StX.un_laid (fs := frs outer) (s := s) (o := ({ cls := .type "tuple", data := .seq u2.toArray } : Obj)) (u := .frz { cls := .type "tuple", data := .seq u2.toArray } (.tup (vs.drop ps0.length))) hn'
    have z := hq _ _ (vs.take ps0.length ++ [V.ref s.heap.objs.size]) (u1 ++ [Value.ref s.heap.objs.size]) (StX.env0_laid e0 new) un rfl (fun e s' => StX.cxUp outer s H _ _ E e s' un (fun b o q => Heap.get?_push_of_some _ q) rfl) (r1.append (.cons rfl .nil))
      (by rw [List.length_append, List.length_append, ← t1.length, hl0] <;> rfl) ⟨_, n1, n2, (Rs.mono n1 t1).append (.cons n3 .nil)⟩
    rw [List.zip_append hl1.symm] at z
    exact z
theorem bnd_mono {CX : CXT} {P : Program} {w : World} {K : PySem.W.Frag} {mg : Str → Option Value} {base : Heap} {fd : FuncData} {args : Args} {ps : List Str} {A : Around} {outer : List Env} {s : Shared} {H : Hp} {E : XK} {G G' : List V → Hp → Prop} (h : BndN CX P w K mg base fd args ps A outer s H E G) (hG : ∀ vs H', G vs H' → G' vs H') : BndN CX P w K mg base fd args ps A outer s H E G' :=
  ⟨fun A' Ex Q hq => h.1 A' Ex Q fun s2 H2 vs us e2 un os hx rv hl hg => hq s2 H2 vs us e2 un os hx rv hl (hG vs H2 hg), h.2.elim fun vs h2 => h2.elim fun H2 hg => ⟨vs, H2, hG vs H2 hg⟩⟩
section
variable {W : Wd} {wx : WX} {X : Cx} {k : Nat} {f : Addr} {fd : FuncData} {ps ks : List Str} {sp : Sp}
theorem run_fnB {pins : List (Addr × Obj)} {σ : L2.St} {H : Hp} {s : Shared} {Q : VK} {args : Args} (F : FnG X.prog X.w X.K X.mg X.base k f fd ps sp) (hr : RoomG k X.A) (tk : Takes X wx)
    (I : L2.Inv X pins σ H s) (hb : BndN (CX X.prog X.w) X.prog X.w X.K X.mg X.base fd args ps X.A X.stack s H (fun cls d H' => wx cls d σ H') fun vs H2 => sp vs H2 Q fun cls d H' => wx cls d σ H') : wpAny (model X.prog X.w) X.A (call (.ref f) args.pos args.kw) (EP X pins σ Q) X.xe s := by
  refine wpAny_call (codeAny_mono (F.runB X.A X.stack s H args Q _ hr I.env0 hb) fun r s' hq => ?_)
  cases r with
  | error e => exact tk e s' (XE.of_call I (fun _ _ _ h => h) hq)
  | ok fl =>
    cases fl with
    | ret u => exact I.after hq
    | next => exact False.elim hq
    | brk => exact False.elim hq
    | cont => exact False.elim hq
theorem run_fnG {pins : List (Addr × Obj)} {σ : L2.St} {H : Hp} {s : Shared} {Q : VK} {args : Args} {us : List Value} {vs : List V} (F : FnG X.prog X.w X.K X.mg X.base k f fd ps sp) (hr : RoomG k X.A) (tk : Takes X wx)
    (I : L2.Inv X pins σ H s) (hb : BindsTo s fd args (ps.zip us)) (r : Vals vs us) (h : sp vs H Q fun cls d H' => wx cls d σ H') : wpAny (model X.prog X.w) X.A (call (.ref f) args.pos args.kw) (EP X pins σ Q) X.xe s :=
  run_fnB F hr tk I ⟨fun A' Ex Q' hq => hb _ _ _ _ (hq s H vs us I.env0 .refl rfl (fun _ _ z => z) r (F.len _ _ _ _ h) h), vs, H, h⟩
/-- a call's action: the answer, with the new store -/
def couA (c : List Dat → List Mob → Cou) (ds : List Dat) : Ac Rv := fun s => match c ds s.sto with
  | .ok r sto => .ok r { s with sto := sto }
  | .exc x sto => .exc x { s with sto := sto }
  | .stuck => .stuck
theorem couA_ok {g : Gh} {P : Hp} {s : Stt} {σ : L2.St} {H : Hp} {np : Nat} {c : List Dat → List Mob → Cou} {ds : List Dat} {vs : List V} {Q : VK} (r : Rel W g P s σ H) (q : Rs W g ds vs) (hl : ds.length = np) (h : Post W wx g P σ (couA c ds s) fun x s' g' H' => ∀ v, RvR W g' P s' σ H' x v → Q v H') : spF W np c vs H Q fun cls d H' => wx cls d σ H' := by
  refine ⟨g, _, s.sto, ds, r.callee, q, hl, ?_⟩
  unfold couA at h
  cases e : c ds s.sto with
  | ok x sto =>
    rw [e] at h
    exact fun g' H' v l r' q' => h g' H' l (r.back l r') v (q'.back r)
  | exc x sto =>
    rw [e] at h
    exact fun g' H' cls d l r' q' => h g' H' cls d l (r.back l r') q'
  | stuck =>
    rw [e] at h
    exact h
/-- the arguments: what stands ahead, positional values, keywords' values -/
def argA (pre : Nat → List Dat) (ms mk : Ac (List Dat)) (n m : Nat) (sl : List Sl) (k : List Dat → Ac Rv) : Ac Rv := ms.bind fun ds => mk.bind fun zs => fun s => if ds.length = n ∧ zs.length = m then (match permD (pre s.sto.length ++ ds) zs sl with
  | some xs => k xs s
  | none => .stuck) else .stuck
abbrev SK (W : Wd) (wx : WX) (X : Cx) (m : Ac (List Dat)) (kws : List Keyword) : Prop := PK X kws (tX W wx dsK m)
theorem sk_nil : SK W wx X (Ac.ret []) [] := ⟨fun pos pins s σ H Q I h => pk_nil.run pos pins s σ H Q I (by
  obtain ⟨g, P, st, r, q⟩ := h
  exact q g H (.refl g) r [] .nil)⟩
theorem sk_cons {e : Expr} {kws : List Keyword} {nm : Option Str} {kpos : Pos} {m : Ac Dat} {ms : Ac (List Dat)} (p : SD W wx X m e) (ps : SK W wx X ms kws) : SK W wx X (m.bind fun b => ms.bind fun bs => Ac.ret (b :: bs)) (⟨nm, e, kpos⟩ :: kws) := ⟨fun pos pins s σ H Q I h => (pk_cons p ps).run pos pins s σ H Q I (by
  obtain ⟨g, P, s, r, q⟩ := h
  refine ⟨g, P, s, r, (Post.bindE q).mono fun x s1 g1 H1 l1 r1 q1 v hv => ?_⟩
  refine ⟨g1, P, s1, r1, (Post.bindE q1).mono fun xs s2 g2 H2 l2 r2 q2 vs hvs => ?_⟩
  exact q2 g2 H2 (.refl g2) r2 _ (.cons (R.mono l2 hv) hvs))⟩
/-- what is wanted behind the arguments -/
def wArg (W : Wd) (wx : WX) (g0 : Gh) (P : Hp) (pre : Nat → List Dat) (n m : Nat) (sl : List Sl) (k : List Dat → Ac Rv) (σ : L2.St) (Q : VK) (vs zs : List V) (H : Hp) : Prop :=
  ∃ g s ds es xs, g0.Le g ∧ Rel W g P s σ H ∧ Rs W g ds vs ∧ Rs W g es zs ∧ ds.length = n ∧ es.length = m ∧ permD (pre s.sto.length ++ ds) es sl = some xs ∧ Post W wx g P σ (k xs s) fun x s' g' H' => ∀ v, RvR W g' P s' σ H' x v → Q v H'
theorem arg_imp {g : Gh} {P : Hp} {s : Stt} {pre : Nat → List Dat} {ms mk : Ac (List Dat)} {n m : Nat} {sl : List Sl} {k : List Dat → Ac Rv} {σ : L2.St} {H : Hp} {Q : VK} (r : Rel W g P s σ H) (q : Post W wx g P σ (argA pre ms mk n m sl k s) fun x s' g' H' => ∀ v, RvR W g' P s' σ H' x v → Q v H') :
    tX W wx dsK ms σ H fun vs H1 => tX W wx dsK mk σ H1 fun zs H2 => wArg W wx g P pre n m sl k σ Q vs zs H2 := by
  refine ⟨g, P, s, r, (Post.bindE q).mono fun ds s1 g1 H1 l1 r1 q1 vs hv => ?_⟩
  refine ⟨g1, P, s1, r1, (Post.bindE q1).mono fun es s2 g2 H2 l2 r2 q2 zs hz => ?_⟩
  by_cases hc : ds.length = n ∧ es.length = m
  · simp only [hc, and_self, if_true] at q2
    cases e : permD (pre s2.sto.length ++ ds) es sl with
    | none =>
      simp only [e] at q2
      exact q2.elim
    | some xs =>
      simp only [e] at q2
      exact ⟨g2, s2, ds, es, xs, l1.trans l2, r2, Rs.mono l2 hv, hz, hc.1, hc.2, e, q2⟩
  · simp only [hc, if_false] at q2
    exact q2.elim
/-- the arguments are walked, then the call -/
theorem callG {pins : List (Addr × Obj)} {s : Shared} {g : Gh} {P : Hp} {st : Stt} {pre : Nat → List Dat} {σ : L2.St} {H : Hp} {Q : VK} {es : List Expr} {kws : List Keyword} {ms mk : Ac (List Dat)} {n m : Nat} {sl : List Sl} {kk : List Dat → Ac Rv} {pos : Pos} {fv : Value} {first : List Value} {QQ : Value → Shared → Prop} (hk : PySem.W.keepIn X.K fv = true)
    (pa : SA W wx X ms es) (pk : SK W wx X mk kws) (I : L2.Inv X pins σ H s) (r : Rel W g P st σ H) (q : Post W wx g P σ (argA pre ms mk n m sl kk st) fun x s' g' H' => ∀ v, RvR W g' P s' σ H' x v → Q v H')
    (hall : (backToKw pos (keywordEach kws X.env)).all (·.1.isSome) = true) (hks : (backToKw pos (keywordEach kws X.env)).filterMap (·.1) = ks)
    (hn : es = [] → ms = Ac.ret [])
    (he : ∀ e es', es = e :: es' → starEach (e :: es') X.env = (false, eval e X.env) :: starEach es' X.env)
    (hpl : ((backTo pos (starEach es X.env)).any (·.1) || (backToKw pos (keywordEach kws X.env)).any (·.1.isNone)) = false)
    (run : ∀ us ws s2 vs zs H2, L2.Inv X pins σ H2 s2 → Vals vs us → Vals zs ws → wArg W wx g P pre n m sl kk σ Q vs zs H2 → wpAny (model X.prog X.w) X.A (call fv (first ++ us) (ks.zip ws)) QQ X.xe s2) :
    wpAny (model X.prog X.w) X.A (callWith pos fv first (backTo pos (starEach es X.env)) (backToKw pos (keywordEach kws X.env))) QQ X.xe s := by
  have h2 := arg_imp r q
  cases es with
  | nil =>
    refine PySem.W.callWith_KW0 (h₀ := X.base) I.ok.mod.kin hk hall ?_ hpl
    have h3 : tX W wx dsK mk σ H fun zs H2 => wArg W wx g P pre n m sl kk σ Q [] zs H2 := by
      obtain ⟨g, P, st, r, q⟩ := h2
      rw [hn rfl] at q
      exact q g H (.refl g) r [] .nil
    refine thn (pk.run pos pins s σ H _ I h3) fun ws s2 ⟨zs, H2, I2, rz, q2⟩ => ⟨I2.kIn, ?_⟩
    rw [hks]
    exact run [] ws s2 [] zs H2 I2 .nil rz q2
  | cons e es' =>
    refine PySem.W.callWith_KW (h₀ := X.base) I.ok.mod.kin hk hall (thn (pa.run pos pins s σ H _ I h2) fun us s1 ⟨vs, H1, I1, r, q⟩ => ?_) hpl (he e es' rfl)
    refine thn (pk.run pos pins s1 σ H1 _ I1 q) fun ws s2 ⟨zs, H2, I2, rz, q2⟩ => ⟨I2.kIn, ?_⟩
    rw [hks]
    exact run us ws s2 vs zs H2 I2 r rz q2
/-- f(..) of a global name -/
theorem se_call {np n : Nat} {c : List Dat → List Mob → Cou} {x : Str} {p pos : Pos} {es : List Expr} {kws : List Keyword} {ms mk : Ac (List Dat)} {sl : List Sl} (hK : X.K = W.K) (F : FnG X.prog X.w X.K X.mg X.base k f fd ps (spF W np c)) (hnp : np = ps.length) (hr : RoomG k X.A) (tk : Takes X wx) (hg : Gl X x) (hm : X.mg x = some (.ref f)) (hk : PySem.W.keepIn X.K (.ref f) = true) (cb : CB X.K fd ps n ks sl)
    (pa : SA W wx X ms es) (pk : SK W wx X mk kws) (hdb : (x == ("__debug__" : Str)) = false)
    (hall : (backToKw pos (keywordEach kws X.env)).all (·.1.isSome) = true) (hks : (backToKw pos (keywordEach kws X.env)).filterMap (·.1) = ks)
    (hn : es = [] → ms = Ac.ret [])
    (he : ∀ e es', es = e :: es' → starEach (e :: es') X.env = (false, eval e X.env) :: starEach es' X.env)
    (hpl : ((backTo pos (starEach es X.env)).any (·.1) || (backToKw pos (keywordEach kws X.env)).any (·.1.isNone)) = false) :
    SE W wx X (argA (fun _ => []) ms mk n ks.length sl (couA c)) (.Call (.Name x p) es kws pos) := ⟨fun pins s σ H Q I h => by
  obtain ⟨g, P, st, r, q⟩ := h
  refine wpAny_Call_Name_kw (ld_glob I hg hm ?_ hdb)
  refine callG hk pa pk I r q hall hks hn he hpl fun us ws s2 vs zs H2 I2 rv rz ⟨g2, st2, ds, es2, xs, l2, r2, rd, re, l1, l3, e, p2⟩ => ?_
  obtain ⟨hl, hB⟩ := cb.go hK.symm I2.env0 r2 rd re rv rz l1 l3 e
  exact run_fnB (args := ⟨us, ks.zip ws⟩) F hr tk I2 (bnd_mono hB fun vs' H' ⟨g', l, r', q'⟩ => couA_ok r' q' (hl.trans hnp.symm) (p2.le l))⟩
end
end En
set_option maxHeartbeats 4000000
/-! En15: own methods, properties, new instances; a def by its body. -/
namespace En
open PySem PySem.Spec PyProof.Rows L2
def Vw.inst : Vw → Option (Nat × List (Str × Dat))
  | .dt (.obj c fs) => some (c, fs)
  | .mb (.ins c fs) => some (c, fs)
  | _ => none
section
variable {W : Wd} {wx : WX} {g : Gh} {P : Hp} {s : Stt} {σ : L2.St} {H : Hp}
theorem VwR.inst {w : Vw} {v : V} {c : Nat} {fs : List (Str × Dat)} (r : Rel W g P s σ H) (q : VwR W g H w v) (e : w.inst = some (c, fs)) : ∃ a dx fv, v = .ref a ∧ H a = some (.ins (W.ca c) dx fv) ∧ Rf W g fs fv := by
  cases w with
  | dt d =>
    cases d <;> first | cases e | skip
    cases q with
    | obj h1 h2 => exact ⟨_, _, _, rfl, r.fz _ _ h1, h2⟩
  | mb o =>
    cases o <;> first | cases e | skip
    obtain ⟨a, ho, rfl, h1, h2⟩ := q
    cases ho <;> first | exact False.elim h2 | skip
    obtain ⟨rfl, h3⟩ := h2
    exact ⟨a, _, _, rfl, h1, h3⟩
theorem Post.noX {α : Type} {wx' : WX} {m : Ac α} {K : α → Stt → Gh → Hp → Prop} (h : Post W wx g P σ (noX m s) K) : Post W wx' g P σ (m s) K := by
  unfold En.noX at h
  cases e : m s with
  | ok a s' =>
    rw [e] at h
    exact h
  | exc x s' =>
    rw [e] at h
    exact h.elim
  | stuck =>
    rw [e] at h
    exact h.elim
end
/-! ### attributes -/
/-- which attributes a class's instances have themselves -/
def FldOk (W : Wd) (flds : Nat → Str → Bool) : Prop := ∀ c f, flds c f = true → Cls W.K (W.ca c) ∧ NoAttr W.K (W.ca c) f
def fldK (flds : Nat → Str → Bool) (w : Vw) (f : Str) : Option Rv := w.inst.bind fun p => if flds p.1 f then (p.2.lookup f).map .val else none
section
variable {W : Wd} {wx : WX} {X : Cx} {flds : Nat → Str → Bool}
theorem se_att {e : Expr} {f : Str} {m : Ac Rv} {pos : Pos} (hK : X.K = W.K) (ok : FldOk W flds) (h : SE W wx X m e) (hb : attributeBase e f X.env (eval e X.env) = eval e X.env) : SE W wx X (m.bind fun x => (lookA x).bind fun w => Ac.opt (fldK flds w f)) (.Attribute e f pos) :=
  peImp (pe_fld h hb) fun σ H Q hh => by
    obtain ⟨g, P, s, r, q⟩ := hh
    refine ⟨g, P, s, r, (Post.bindE q).mono fun x s1 g1 H1 l1 r1 q1 v hv => ?_⟩
    obtain ⟨w, e1, q2⟩ := Post.lookE q1
    obtain ⟨y, e2, q3⟩ := Post.optE q2
    unfold fldK at e2
    obtain ⟨⟨c, fs⟩, e3, e4⟩ := Option.bind_eq_some_iff.mp e2
    split at e4
    · rename_i hf
      obtain ⟨d, e5, rfl⟩ := Option.map_eq_some_iff.mp e4
      obtain ⟨a, dx, fv, rfl, k1, k2⟩ := (look_ok r1 hv e1).inst r1 e3
      obtain ⟨u, u1, u2⟩ := k2.lookup e5
      obtain ⟨c1, c2⟩ := ok c f hf
      rw [hK]
      exact ⟨a, _, dx, fv, u, rfl, k1, c1, c2, u1, q3 g1 H1 (.refl g1) r1 u u2⟩
    · cases e4
/-- o.f = e, of an object of the store -/
def atsA (flds : Nat → Str → Bool) (f : Str) (d : Dat) (o : Rv) : Ac Flw := (lookA o).bind fun w => match w with
  | .mb (.ins c fs) => if flds c f && decide (fs.length < 1000) then (setMob o (.ins c (putFd f d fs))).bind fun _ => nxA else Ac.stk
  | _ => Ac.stk
theorem atsA_ok {g : Gh} {P : Hp} {s : Stt} {σ : L2.St} {H : Hp} {f : Str} {d : Dat} {v ov : V} {o : Rv} {D : Ends} (ok : FldOk W flds) (r : Rel W g P s σ H) (qo : RvR W g P s σ H o ov) (qd : R W g d v) (h : PostS W wx g P (atsA flds f d o s) D) :
    ∃ a C dx fs, ov = .ref a ∧ H a = some (.ins C dx fs) ∧ Cls W.K C ∧ NoAttr W.K C f ∧ fs.length < 1000 ∧ D.nx σ (upd H a (.ins C dx (putF f v fs))) := by
  unfold atsA Ac.bind lookA at h
  cases e : look s o with
  | none =>
    simp only [e] at h
    exact h.elim
  | some w =>
    simp only [e, Out.bind] at h
    cases w with
    | dt _ => exact h.elim
    | mb m =>
      cases m with
      | lst _ => exact h.elim
      | dct _ => exact h.elim
      | ins c fs =>
        have h : PostS W wx g P ((if flds c f && decide (fs.length < 1000) then (setMob o (.ins c (putFd f d fs))).bind fun _ => nxA else Ac.stk) s) D := h
        by_cases hc : (flds c f && decide (fs.length < 1000)) = true
        · rw [if_pos hc] at h
          simp only [Bool.and_eq_true, decide_eq_true_eq] at hc
          obtain ⟨c1, c2⟩ := ok c f hc.1
          rcases setMob_ok (o' := .ins c (putFd f d fs)) r qo e with ⟨s', e3, a, ho, rfl, k2, k3, k4⟩ | e3
          · unfold Ac.bind at h
            rw [e3] at h
            cases ho <;> first | exact False.elim k3 | skip
            obtain ⟨rfl, k5⟩ := k3
            refine ⟨a, _, _, _, rfl, k2, c1, c2, by rw [← k5.length]; exact hc.2, ?_⟩
            exact h g σ _ (.refl g) (k4 (.ins _ _ _) ⟨rfl, k5.put qd⟩)
          · unfold Ac.bind at h
            rw [e3] at h
            exact h.elim
        · rw [if_neg hc] at h
          exact h.elim
theorem PostS.toValE {g : Gh} {P : Hp} {s : Stt} {σ : L2.St} {H : Hp} {x : Rv} {v : V} {f : Dat → Ac Flw} {D : Ends} (r : Rel W g P s σ H) (q : RvR W g P s σ H x v) (h : PostS W wx g P ((toVal x).bind f s) D) : ∃ d s' g', g.Le g' ∧ Rel W g' P s' σ H ∧ R W g' d v ∧ PostS W wx g' P (f d s') D := by
  have h2 := PostS.bindE (σ := σ) h
  cases e : toVal x s with
  | ok d s' =>
    rw [e] at h2
    obtain ⟨g', l, r', q'⟩ := toVal_ok r q e
    exact ⟨d, s', g', l, r', q', h2 g' H l r'⟩
  | exc y s' => exact absurd e toVal_ne
  | stuck =>
    rw [e] at h2
    exact h2.elim
theorem ss_att {o e : Expr} {f : Str} {mo m : Ac Rv} {pos' pos : Pos} (hK : X.K = W.K) (ok : FldOk W flds) (po : SE W wx X mo o) (pe : SE W wx X m e) (hs : swapsWith e (some (.Attribute o f pos')) pos.line X.env = pure false) :
    SS W wx X (m.bind fun x => (toVal x).bind fun d => mo.bind fun o => atsA flds f d o) (.Assign [.Attribute o f pos'] e pos) := psImp (ps_fld po pe hs) fun D σ H hh => by
  obtain ⟨g, P, s, r, q⟩ := hh
  refine ⟨g, P, s, r, (PostS.bindE q).mono fun x s1 g1 H1 l1 r1 q1 v hv => ?_⟩
  obtain ⟨d, s2, g2, l2, r2, rd, q2⟩ := PostS.toValE r1 hv q1
  refine ⟨g2, P, s2, r2, (PostS.bindE q2).mono fun y s3 g3 H3 l3 r3 q3 u hu => ?_⟩
  rw [hK]
  exact atsA_ok ok r3 hu (R.mono l3 rd) q3
end
/-! ### own methods -/
section
variable {W : Wd} {wx : WX} {X : Cx} {k n : Nat} {ks : List Str}
abbrev Disp := Nat → Option (List Sl × (List Dat → List Mob → Cou))
/-- what a table of methods must have behind it -/
def DispOk (W : Wd) (X : Cx) (k n : Nat) (ks : List Str) (m : Str) (disp : Disp) : Prop := ∀ c sl call, disp c = some (sl, call) → ∃ f fd ps np, Cls X.K (W.ca c) ∧ Meth X.K (W.ca c) m f ∧ FnG X.prog X.w X.K X.mg X.base k f fd ps (spF W np call) ∧ np = ps.length ∧ CB X.K fd ps (n + 1) ks sl
def mtdA (mx : Ac Rv) (ms mk : Ac (List Dat)) (n j : Nat) (m : Str) (disp : Disp) : Ac Rv := mx.bind fun x => match x with
  | .val d => (lookA (.val d)).bind fun w => match w.inst with
    | some (c, fs) => (match disp c with
      | some (sl, call) => if (fs.lookup m).isNone then argA (fun _ => [d]) ms mk n j sl (couA call) else Ac.stk
      | none => Ac.stk)
    | none => Ac.stk
  | _ => Ac.stk
theorem se_mtd {m : Str} {apos pos : Pos} {o : Expr} {es : List Expr} {kws : List Keyword} {mx : Ac Rv} {ms mk : Ac (List Dat)} {disp : Disp} {pl : Sem Bool} (hK : X.K = W.K) (ok : DispOk W X k n ks m disp) (hr : RoomG k X.A) (tk : Takes X wx) (po : SE W wx X mx o)
    (pa : SA W wx X ms es) (pk : SK W wx X mk kws)
    (hall : (backToKw pos (keywordEach kws X.env)).all (·.1.isSome) = true) (hks : (backToKw pos (keywordEach kws X.env)).filterMap (·.1) = ks)
    (hn : es = [] → ms = Ac.ret [])
    (he : ∀ e es', es = e :: es' → starEach (e :: es') X.env = (false, eval e X.env) :: starEach es' X.env)
    (hpl : ((backTo pos (starEach es X.env)).any (·.1) || (backToKw pos (keywordEach kws X.env)).any (·.1.isNone)) = false)
    (ht : eval (.Call (.Attribute o m apos) es kws pos) X.env = (do
      let ov ← eval o X.env
      standAt apos.atName
      let (f, first) ← holding [ov] (getMethod ov m pl)
      callWith pos f first (backTo pos (starEach es X.env)) (backToKw pos (keywordEach kws X.env)))) :
    SE W wx X (mtdA mx ms mk n ks.length m disp) (.Call (.Attribute o m apos) es kws pos) := ⟨fun pins s σ H Q I h => by
  obtain ⟨g, P, st, r, q⟩ := h
  refine PySem.W.methodCall_KW (pl := pl) (thn (po.run pins s σ H (fun v H1 => ∃ g1 s1 d c sl call fs w, Rel W g1 P s1 σ H1 ∧ R W g1 d v ∧ Vw.of s1 d = some w ∧ w.inst = some (c, fs) ∧ disp c = some (sl, call) ∧ fs.lookup m = none ∧
    Post W wx g1 P σ (argA (fun _ => [d]) ms mk n ks.length sl (couA call) s1) fun x s' g' H' => ∀ v, RvR W g' P s' σ H' x v → Q v H') I ⟨g, P, st, r, (Post.bindE q).mono fun x s1 g1 H1 l1 r1 q1 v hv => ?_⟩) fun u s1 ⟨v, H1, I1, rv, g1, st1, d, c, sl, call, fs, w, r1, rd, e1, e2, e3, e4, q1⟩ => ?_) ht
  · cases x with
    | own _ => exact q1.elim
    | bor _ => exact q1.elim
    | val d =>
      obtain ⟨w, e1, q2⟩ := Post.lookE q1
      cases e2 : w.inst with
      | none =>
        rw [e2] at q2
        exact q2.elim
      | some p =>
        obtain ⟨c, fs⟩ := p
        simp only [e2] at q2
        cases e3 : disp c with
        | none =>
          simp only [e3] at q2
          exact q2.elim
        | some p =>
          obtain ⟨sl, call⟩ := p
          simp only [e3] at q2
          by_cases hl : (fs.lookup m).isNone = true
          · rw [if_pos hl] at q2
            exact ⟨g1, s1, d, c, sl, call, fs, w, r1, hv, e1, e2, e3, Option.isNone_iff_eq_none.mp hl, q2⟩
          · rw [if_neg hl] at q2
            exact q2.elim
  · obtain ⟨f, fd, ps, np, hc, hm, F, hnp, cb⟩ := ok c sl call e3
    obtain ⟨a, dx, fv, rfl, k1, k2⟩ := (Vw.of_ok r1 rd e1).inst r1 e2
    obtain rfl : u = Value.ref a := rv
    refine getmeth_ok I1 k1 hc hm (k2.none e4) ?_
    refine callG (first := [.ref a]) hm.kp pa pk I1 r1 q1 hall hks hn he hpl fun us ws s2 vs zs H2 I2 rv rz ⟨g2, st2, ds, es2, xs, l2, r2, rds, re, l1, l3, e, p2⟩ => ?_
    have rv' : Vals (V.ref a :: vs) (Value.ref a :: us) := .cons rfl rv
    have rds' : Rs W g2 ([d] ++ ds) (V.ref a :: vs) := .cons (R.mono l2 rd) rds
    obtain ⟨hl, hB⟩ := cb.go hK.symm I2.env0 r2 rds' re rv' rz (by simp [l1]) l3 e
    exact run_fnB (args := ⟨.ref a :: us, ks.zip ws⟩) F hr tk I2 (bnd_mono hB fun vs' H' ⟨g', l, r', q'⟩ => couA_ok r' q' (hl.trans hnp.symm) (p2.le l))⟩
/-! ### properties -/
def PropOk (W : Wd) (X : Cx) (k : Nat) (f : Str) (disp : Nat → Option (List Dat → List Mob → Cou)) : Prop := ∀ c call, disp c = some call → ∃ p gA fd ps, Cls X.K (W.ca c) ∧ PropOf X.K (W.ca c) f p gA ∧ FnG X.prog X.w X.K X.mg X.base k gA fd ps (spF W 1 call) ∧ ps.length = 1 ∧ ∀ (s : Shared) (u : Value), X.K.In s.heap → BindsTo s fd ⟨[u], []⟩ (ps.zip [u])
def prpA (mx : Ac Rv) (disp : Nat → Option (List Dat → List Mob → Cou)) : Ac Rv := mx.bind fun x => match x with
  | .val d => (lookA (.val d)).bind fun w => match w.inst with
    | some (c, fs) => (match disp c with
      | some call => noX (couA call [d])
      | none => Ac.stk)
    | none => Ac.stk
  | _ => Ac.stk
theorem getpropG {pins : List (Addr × Obj)} {σ : L2.St} {H : Hp} {s : Shared} {Q : VK} {b : Bool} {E' : Value → Shared → Prop} {C p gA a dx : Addr} {fs : List (Str × V)} {f : Str} {fd : FuncData} {ps : List Str} {sp : Sp} (I : L2.Inv X pins σ H s) (ea : H a = some (.ins C dx fs)) (c : Cls X.K C) (hp : PropOf X.K C f p gA)
    (F : FnG X.prog X.w X.K X.mg X.base k gA fd ps sp) (hr : RoomG (k + 1) X.A) (hb : BindsTo { s with toks := s.toks + 1 } fd ⟨[.ref a], []⟩ (ps.zip [.ref a])) (h : sp [.ref a] H Q fun _ _ _ => False) :
    wpAny (model X.prog X.w) X.A (getAttr (.ref a) f b) (EP X pins σ Q) E' s := by
  obtain ⟨mA, O, _, _, _, _⟩ := ins_get I.hok ea
  obtain ⟨od, J, _⟩ := O.look
  obtain ⟨rest, hrec⟩ := hp.rec_
  have I1 := I.tok (s.toks + 1)
  have hc : (PySem.W.clsIn X.K C).isSome = true := by
    obtain ⟨cd, hc, _⟩ := PySem.W.any_some c.hd
    rw [hc]
    rfl
  have hri : RoomG k X.A.in1 := ⟨hr.room.in1, hr.gd⟩
  refine PySem.W.get_bind I.kIn J (PySem.W.plainGet_of (c.get f)).1 (PySem.W.findObj_data hc hp.at_ hp.get hp.tak) (PySem.W.plainGet_of (c.get f)).2 (wpAny_call (PySem.W.prop_get (s := { s with toks := s.toks + 1 }) I.kIn hrec ?_))
  refine codeAny_mono (F.run X.A.in1 X.stack { s with toks := s.toks + 1 } H ⟨[.ref a], []⟩ [.ref a] [.ref a] Q _ hri I1.env0.in1 hb (.cons rfl .nil) h) fun r s' hq => ?_
  cases r with
  | error er =>
    obtain ⟨_, _, _, _, _, _, _, _, _, _, _, _, w⟩ := hq
    exact w.elim
  | ok fl =>
    cases fl with
    | ret u =>
      obtain ⟨v, H', I3, rv, q3⟩ := I1.after hq
      show wpAny _ _ (handedOut u) _ _ _
      rw [PySem.W.handedOut_of (handed_of rv)]
      exact wpAny_pure ⟨v, H', I3, rv, q3⟩
    | next => exact False.elim hq
    | brk => exact False.elim hq
    | cont => exact False.elim hq
theorem se_prop {e : Expr} {f : Str} {pos : Pos} {mx : Ac Rv} {disp : Nat → Option (List Dat → List Mob → Cou)} (ok : PropOk W X k f disp) (hr : RoomG (k + 1) X.A) (po : SE W wx X mx e) (hab : attributeBase e f X.env (eval e X.env) = eval e X.env) : SE W wx X (prpA mx disp) (.Attribute e f pos) := ⟨fun pins s σ H Q I h => by
  obtain ⟨g, P, st, r, q⟩ := h
  refine attr_of hab (thn (po.run pins s σ H (fun v H1 => ∃ g1 s1 d c call fs w, Rel W g1 P s1 σ H1 ∧ R W g1 d v ∧ Vw.of s1 d = some w ∧ w.inst = some (c, fs) ∧ disp c = some call ∧
    Post W wx0 g1 P σ (couA call [d] s1) fun x s' g' H' => ∀ v, RvR W g' P s' σ H' x v → Q v H') I ⟨g, P, st, r, (Post.bindE q).mono fun x s1 g1 H1 l1 r1 q1 v hv => ?_⟩) fun u s1 ⟨v, H1, I1, rv, g1, st1, d, c, call, fs, w, r1, rd, e1, e2, e3, q1⟩ => ?_)
  · cases x with
    | own _ => exact q1.elim
    | bor _ => exact q1.elim
    | val d =>
      obtain ⟨w, e1, q2⟩ := Post.lookE q1
      cases e2 : w.inst with
      | none =>
        rw [e2] at q2
        exact q2.elim
      | some p =>
        obtain ⟨c, fs⟩ := p
        simp only [e2] at q2
        cases e3 : disp c with
        | none =>
          simp only [e3] at q2
          exact q2.elim
        | some call =>
          simp only [e3] at q2
          exact ⟨g1, s1, d, c, call, fs, w, r1, hv, e1, e2, e3, Post.noX q2⟩
  · obtain ⟨p, gA, fd, ps, hc, hp, F, hl, hb⟩ := ok c call e3
    obtain ⟨a, dx, fv, rfl, k1, k2⟩ := (Vw.of_ok r1 rd e1).inst r1 e2
    obtain rfl : u = Value.ref a := rv
    exact getpropG I1 k1 hc hp F hr (hb _ _ I1.kIn) (couA_ok r1 (.cons rd .nil) rfl q1)⟩
end
/-! ### a def by its body -/
def outC : Out Flw → Cou
  | .ok (.rt (.val d)) s => .ok (.val d) s.sto
  | .ok (.rt (.own o)) s => .ok (.own o) s.sto
  | .ok .nx s => .ok (.val .non) s.sto
  | .exc x s => .exc x s.sto
  | _ => .stuck
def bodyC (m : Ac Flw) (N : Nat) (ds : List Dat) (sto : List Mob) : Cou := outC (m ⟨ds.map .val ++ List.replicate (N - ds.length) .no, sto⟩)
section
variable {W : Wd}
theorem Rel.drop {g : Gh} {P : Hp} {s : Stt} {σ : L2.St} {H : Hp} (r : Rel W g P s σ H) : Rel W g P ⟨[], s.sto⟩ [] H :=
  ⟨r.fz, r.pr, rfl, r.n, r.sto, r.inj, r.stf, fun i d e => by simp at e, fun i o e => by simp at e, fun i j a ⟨o, e⟩ => by simp at e⟩
theorem Rel.enter {g : Gh} {P : Hp} {sto : List Mob} {H : Hp} {ds : List Dat} {vs : List V} {N : List Str} (r : Rel W g P ⟨[], sto⟩ [] H) (q : Rs W g ds vs) : Rel W g P ⟨ds.map .val ++ List.replicate (N.length - ds.length) .no, sto⟩ (L2.start N vs) H := by
  have val : ∀ {i : Nat} {x : Slt}, (ds.map Slt.val ++ List.replicate (N.length - ds.length) Slt.no)[i]? = some x → x ≠ .no → ∃ d, x = .val d ∧ ds[i]? = some d := fun {i x} e hx => by
    by_cases hi : i < (ds.map Slt.val).length
    · rw [List.getElem?_append_left hi, List.getElem?_map] at e
      cases h : ds[i]? with
      | none => rw [h] at e; cases e
      | some d =>
        rw [h] at e
        cases e
        exact ⟨d, rfl, rfl⟩
    · rw [List.getElem?_append_right (by omega), List.getElem?_replicate] at e
      split at e
      · cases e
        exact absurd rfl hx
      · cases e
  refine ⟨r.fz, r.pr, ?_, r.n, r.sto, r.inj, r.stf, fun i d e => ?_, fun i o e => ?_, fun i j a ⟨o, e⟩ => ?_⟩
  · unfold L2.start
    simp [q.length]
  · obtain ⟨d', h1, h2⟩ := val e (fun z => nomatch z)
    cases h1
    obtain ⟨v, k1, k2⟩ := q.get h2
    refine ⟨v, ?_, k2⟩
    unfold L2.start
    have hi : i < (vs.map some).length := by
      have := (List.getElem?_eq_some_iff.mp k1).1
      simpa using this
    rw [List.getElem?_append_left hi, List.getElem?_map, k1]
    rfl
  · obtain ⟨d', h1, _⟩ := val e (fun z => nomatch z)
    cases h1
  · obtain ⟨d', h1, _⟩ := val e (fun z => nomatch z)
    cases h1
theorem body_post {g : Gh} {P : Hp} {sto : List Mob} {H : Hp} {ds : List Dat} {vs : List V} {N : List Str} {m : Ac Flw} {Q : VK} {E : XK} (r : Rel W g P ⟨[], sto⟩ [] H) (q : Rs W g ds vs) (h : PostC W g P (bodyC m N.length ds sto) Q E) :
    tS W (fun cls d _ H => E cls d H) m { nx := fun _ H' => Q .non H', rt := Q } (L2.start N vs) H := by
  refine ⟨g, P, _, r.enter (N := N) q, ?_⟩
  unfold bodyC at h
  revert h
  generalize m ⟨ds.map .val ++ List.replicate (N.length - ds.length) .no, sto⟩ = o
  intro h
  cases o with
  | ok f s =>
    cases f with
    | nx => exact fun g' σ' H' l r' => h g' H' .non l r'.drop R.non
    | bk => exact h.elim
    | ct => exact h.elim
    | rt x =>
      cases x with
      | val d => exact fun g' σ' H' v l r' q' => h g' H' v l r'.drop q'
      | own o => exact fun g' σ' H' v l r' q' => h g' H' v l r'.drop (by
          obtain ⟨a, ho, e, k1, k2, k3, k4, k5, k6⟩ := q'
          exact ⟨a, ho, e, k1, k2, k3, k4, k5, fun i ⟨o', z⟩ => by simp at z⟩)
      | bor i => exact h.elim
  | exc x s => exact fun g' σ' H' cls d l r' q' => h g' H' cls d l r'.drop q'
  | stuck => exact h.elim
/-- THE RULE: a def, by any promise -/
theorem fnG_gen {sp : Sp} {P : Program} {w : World} {mg : Str → Option Value} {base : Heap} {k : Nat} {f : Addr} {name qual : Str} {params : Arguments} {body : List Stmt} {scope : Scope} {dV kV doc pm cdv ct oc : Value} {an od : Option Addr}
    {osl : Array (Option Value)} {N ps : List Str} (lk : W.K.lookup f = some ⟨oc, od, .func (PySem.W.fnOf name qual params body scope dV kV doc pm an cdv ct), osl⟩) (hcd : PySem.W.codeIn W.K cdv qual = true) (S : FnScope N ps scope)
    (hlen : ∀ vs H Q E, sp vs H Q E → vs.length = ps.length)
    (hbody : ∀ (X : Cx) (E : XK), X.prog = P → X.w = w → X.K = W.K → X.mg = mg → X.base = base → X.N = N → X.env.scope = scope → X.calm = true → X.ex = [] → X.fn = (fun _ => true) → X.stack = X.env :: X.outer → X.env.frame = some X.env.locals → (∀ i, k = i + 1 → RoomG i X.A) → Takes X (fun cls d _ H => E cls d H) → PassesOwn (model X.prog X.w) X.A X.env X.xe →
      ∀ (vs : List V) (H : Hp) (Q : VK), sp vs H Q E → ∃ t, PSs X body t ∧ t { nx := fun _ H' => Q .non H', rt := Q } (L2.start N vs) H) :
    FnG P w W.K mg base k f (PySem.W.fnOf name qual params body scope dV kV doc pm an cdv ct) ps sp := by
  refine ⟨hlen, fun A outer s H args Q E hr e0 hb => ?_⟩
  have KX : W.K.In s.heap := e0.mod.kin.keeps fun b o e => (e0.bs b o e).1
  refine codeAny_call_function hr.room.depth (KX _ _ lk) rfl S.co S.gen rfl (PySem.W.codeRec_of KX hcd) ?_
  refine hb.1 _ _ _ fun s2 H2 vs us e2 un ho hx r hl hsp => ?_
  have lim : s2.heap.NoLimit := e0.mod.nolimit.keeps fun b o e => (e2.bs b o e).1
  have hkind : ∀ y ∈ ps.zip us, scope.names.lookup y.1 = some .local ∨ (scope.names.lookup y.1 = some .cell ∧ ((cellsFrom (s2.heap.objs.size + 1) scope.names []).lookup y.1).isSome = true) := fun ⟨n, v⟩ hy => by
    rcases S.par n (List.of_mem_zip hy).1 with q | q
    · exact .inl q
    · exact .inr ⟨q, PySem.W.cellsFrom_some _ _ _ (.inl q)⟩
  refine wpAny_newFunctionEnv_cells (s := s2) S.kind hkind fun env he s1 x => ?_
  subst he
  refine ⟨lim.keeps x.toInCall.keep, codeAny_func ?_⟩
  have I : L2.Inv (cxOf (CX P w) P w W.K mg base N qual scope f cdv A outer s2 H2 E) [] (L2.start N vs) H2 s1 := inv_start S hr.room.hd e2 hl r x
  obtain ⟨t, ht, hq⟩ := hbody (cxOf (CX P w) P w W.K mg base N qual scope f cdv A outer s2 H2 E) E rfl rfl rfl rfl rfl rfl rfl rfl rfl rfl rfl rfl (fun i e => RoomG.deeper (k := i) (by rw [← e]; exact hr) _) (takes_of rfl rfl rfl rfl) (passes_of rfl) vs H2 Q hsp
  refine wpAny_mono (ht.run [] s1 (L2.start N vs) H2 _ I hq) (fun fl s' hs => ?_) fun e s' hs => ?_
  · have fin : ∀ {σ' : L2.St} {H' : Hp} {v : V} {u : Value}, L2.Inv (cxOf (CX P w) P w W.K mg base N qual scope f cdv A outer s2 H2 E) [] σ' H' s' → L2.RelV v u → Q v H' → CE outer P w H s Q u s' :=
      fun {σ' H' v u} J rv q => ⟨v, H', J.os.trans ho, J.bare, un.trans J.base, J.hok, rv, q⟩
    cases fl with
    | ret u =>
      obtain ⟨v, σ', H', J, rv, q⟩ := hs
      exact fin J rv q
    | next =>
      obtain ⟨σ', H', J, q⟩ := hs
      exact fin (v := V.non) (u := Value.none) J rfl q
    | brk =>
      obtain ⟨_, _, _, q⟩ := hs
      exact False.elim q
    | cont =>
      obtain ⟨_, _, _, q⟩ := hs
      exact False.elim q
  · exact wpAny_mono hs (fun _ s'' z => hx e s'' z) fun e' s'' z => hx e' s'' z
/-- a def of the text -/
theorem fnG_of {P : Program} {w : World} {mg : Str → Option Value} {base : Heap} {k : Nat} {f : Addr} {name qual : Str} {params : Arguments} {body : List Stmt} {scope : Scope} {dV kV doc pm cdv ct oc : Value} {an od : Option Addr}
    {osl : Array (Option Value)} {N ps : List Str} {m : Ac Flw} (lk : W.K.lookup f = some ⟨oc, od, .func (PySem.W.fnOf name qual params body scope dV kV doc pm an cdv ct), osl⟩) (hcd : PySem.W.codeIn W.K cdv qual = true) (S : FnScope N ps scope)
    (hbody : ∀ (X : Cx) (E : XK), X.prog = P → X.w = w → X.K = W.K → X.mg = mg → X.base = base → X.N = N → X.env.scope = scope → X.calm = true → X.ex = [] → X.fn = (fun _ => true) → X.stack = X.env :: X.outer → X.env.frame = some X.env.locals → RoomG k X.A → Takes X (fun cls d _ H => E cls d H) → PassesOwn (model X.prog X.w) X.A X.env X.xe → SSs W (fun cls d _ H => E cls d H) X m body) :
    FnG P w W.K mg base (k + 1) f (PySem.W.fnOf name qual params body scope dV kV doc pm an cdv ct) ps (spF W ps.length (bodyC m N.length)) :=
  fnG_gen lk hcd S (fun vs H Q E ⟨g, Pp, sto, ds, r, q, hl, _⟩ => by rw [← q.length]; exact hl) fun X E x1 x2 x3 x4 x5 x6 x7 x8 x9 x10 x11 x12 x13 x14 x15 vs H Q ⟨g, Pp, sto, ds, rr, rq, hld, hpost⟩ =>
    ⟨_, hbody X E x1 x2 x3 x4 x5 x6 x7 x8 x9 x10 x11 x12 (x13 k rfl) x14 x15, body_post (N := N) rr rq hpost⟩
end
end En
set_option maxHeartbeats 4000000
/-! En16: names, displays of dicts, small statements. -/
namespace En
open PySem PySem.Spec PyProof.Rows L2
section
variable {W : Wd} {wx : WX} {X : Cx}
theorem se_var {i : Nat} {x : Str} {pos : Pos} (hN : X.N[i]? = some x) (hv : Vis X.env.scope x) (hd : (x == ("__debug__" : Str)) = false) (hcd : (x == ("__classdict__" : Str)) = false) : SE W wx X (slotA i) (.Name x pos) := se_slot (pe_var hN hv hd hcd)
/-- a global name that leads to data -/
theorem se_glob {x : Str} {d : Dat} {v : V} {u : Value} {pos : Pos} (hg : Gl X x) (hm : X.mg x = some u) (rv : L2.RelV v u) (rd : ∀ g, R W g d v) (hd : (x == ("__debug__" : Str)) = false) : SE W wx X (Ac.ret (.val d)) (.Name x pos) := peImp (pe_glob hg hm rv hd) fun σ H Q h => by
  obtain ⟨g, P, s, r, q⟩ := h
  exact q g H (.refl g) r v (rd g)
theorem se_bltn {x : Str} {d : Dat} {v : V} {u : Value} {pos : Pos} (hg : Gl X x) (hm : X.mg x = none) (hv : bootBuiltins x = some u) (rv : L2.RelV v u) (rd : ∀ g, R W g d v) (hn : x ≠ "__name__") (hd : (x == ("__debug__" : Str)) = false) : SE W wx X (Ac.ret (.val d)) (.Name x pos) := peImp (pe_bltn hg hm hv rv hn hd) fun σ H Q h => by
  obtain ⟨g, P, s, r, q⟩ := h
  exact q g H (.refl g) r v (rd g)
/-! ### a display of a dict -/
inductive Rp (W : Wd) (g : Gh) : List (Dat × Dat) → List (V × V) → Prop
  | nil : Rp W g [] []
  | cons {d e : Dat} {v u : V} {ds : List (Dat × Dat)} {vs : List (V × V)} : R W g d v → R W g e u → Rp W g ds vs → Rp W g ((d, e) :: ds) ((v, u) :: vs)
theorem Rp.mono {g g' : Gh} (l : g.Le g') {ds : List (Dat × Dat)} {vs : List (V × V)} (h : Rp W g ds vs) : Rp W g' ds vs := by
  induction h with
  | nil => exact .nil
  | cons h1 h2 _ ih => exact .cons (R.mono l h1) (R.mono l h2) ih
def prsA : List (Ac Dat × Ac Dat) → Ac (List (Dat × Dat))
  | [] => Ac.ret []
  | p :: r => p.1.bind fun k => p.2.bind fun v => (prsA r).bind fun ps => Ac.ret ((k, v) :: ps)
def keysOf : List (Dat × Dat) → Option (List (Key × Dat))
  | [] => some []
  | p :: r => match kyD p.1, keysOf r with
    | some k, some kvs => some ((k, p.2) :: kvs)
    | _, _ => none
def dicA (ms : List (Ac Dat × Ac Dat)) : Ac Rv := (prsA ms).bind fun ps => match keysOf ps with
  | some kvs => if kvs.length ≤ 15 then Ac.ret (.own (.dct (mergeD [] kvs))) else Ac.stk
  | none => Ac.stk
def trsP (W : Wd) (wx : WX) (ms : List (Ac Dat × Ac Dat)) : List (TE × TE) := ms.map fun p => (tX W wx dtK p.1, tX W wx dtK p.2)
theorem prs_imp : ∀ {ms : List (Ac Dat × Ac Dat)} {g : Gh} {P : Hp} {s : Stt} {σ : L2.St} {H : Hp} {Q : List (V × V) → Hp → Prop}, Rel W g P s σ H → (Post W wx g P σ (prsA ms s) fun ps s' g' H' => ∀ vs, Rp W g' ps vs → Q vs H') → tPairs (trsP W wx ms) σ H Q
  | [], g, P, s, σ, H, Q, r, q => q g H (.refl g) r [] .nil
  | p :: ms, g, P, s, σ, H, Q, r, q => by
    refine ⟨g, P, s, r, (Post.bindE q).mono fun k s1 g1 H1 l1 r1 q1 v hv => ?_⟩
    refine ⟨g1, P, s1, r1, (Post.bindE q1).mono fun e s2 g2 H2 l2 r2 q2 u hu => ?_⟩
    refine prs_imp r2 ((Post.bindE q2).mono fun ps s3 g3 H3 l3 r3 q3 vs hvs => ?_)
    exact q3 g3 H3 (.refl g3) r3 _ (.cons (R.mono (l2.trans l3) hv) (R.mono l3 hu) hvs)
theorem keysOf_ok {g : Gh} {ps : List (Dat × Dat)} {vs : List (V × V)} (h : Rp W g ps vs) : ∀ {kvs}, keysOf ps = some kvs → ∃ kv, vs = kv.map (fun p => (kV p.1, p.2)) ∧ Rk W g kvs kv := by
  induction h with
  | nil =>
    intro kvs e
    cases e
    exact ⟨[], rfl, .nil⟩
  | @cons d e v u ds vs h1 h2 h3 ih =>
    intro kvs e
    unfold keysOf at e
    cases e1 : kyD d with
    | none => simp [e1] at e
    | some k =>
      cases e2 : keysOf ds with
      | none => simp [e1, e2] at e
      | some kvs' =>
        simp [e1, e2] at e
        subst e
        obtain ⟨kv, rfl, k2⟩ := ih e2
        obtain rfl := kyD_ok e1 h1
        exact ⟨(k, u) :: kv, rfl, .cons h2 k2⟩
theorem Rk.merge {g : Gh} : ∀ {more : List (Key × Dat)} {mv : List (Key × V)} {ds : List (Key × Dat)} {vs : List (Key × V)}, Rk W g more mv → Rk W g ds vs → Rk W g (mergeD ds more) (mergeK vs mv)
  | _, _, _, _, .nil, h => h
  | _, _, _, _, .cons (ds := r) (vs := rv) h1 h2, h => Rk.merge (more := r) (mv := rv) h2 (h.put h1)
/-- an object that may change is not frozen -/
theorem mb_free {g : Gh} {P : Hp} {s : Stt} {σ : L2.St} {H : Hp} {x : Rv} {v : V} {o : Mob} (r : Rel W g P s σ H) (q : RvR W g P s σ H x v) (e : look s x = some (.mb o)) : ∃ a, v = .ref a ∧ g.F a = none := by
  have vw : ∀ {d : Dat}, R W g d v → Vw.of s d = some (.mb o) → ∃ a, v = .ref a ∧ g.F a = none := fun {d} q e => by
    cases d <;> first | cases e | skip
    cases q with
    | ref hn => exact ⟨_, rfl, r.stf _ hn⟩
  cases x with
  | val d => exact vw q e
  | own o' =>
    obtain ⟨a, ho, e1, _, _, h, _⟩ := q
    exact ⟨a, e1, h⟩
  | bor i =>
    have q' : σ[i]? = some (some v) := q
    unfold look at e
    cases h : s.env[i]? with
    | none =>
      simp only [h] at e
      cases e
    | some z =>
      cases z with
      | no =>
        simp only [h] at e
        cases e
      | val d =>
        simp only [h] at e
        obtain ⟨v', e1, e2⟩ := r.slv i d h
        rw [q'] at e1
        cases e1
        exact vw e2 e
      | own o' =>
        obtain ⟨a, ho, e1, e2, e3, e4, _⟩ := r.slo i o' h
        rw [q'] at e1
        cases e1
        exact ⟨a, rfl, e4⟩
theorem d_update {pins : List (Addr × Obj)} {σ : L2.St} {H : Hp} {s : Shared} {a b : Addr} {kvs more : List (Key × V)} {A : Around} {E : Value → Shared → Prop} {Q : Value → Shared → Prop} (I : L2.Inv X pins σ H s) (e : H a = some (.dK kvs)) (e2 : H b = some (.dK more)) (hne : a ≠ b) (hz : kvs.length + more.length ≤ sizeLine)
    (h : ∀ s', L2.Inv X pins σ (upd H a (.dK (mergeK kvs more))) s' → Q .none s') : wpAny (model X.prog X.w) A (call (.builtin "dict.update") [.ref a, .ref b]) Q E s := by
  obtain ⟨z, hd, vs, rel, dd⟩ := dk_of I.hok e
  obtain ⟨z2, hd2, ws, rel2, dd2⟩ := dk_of I.hok e2
  refine call_meetsIn PySem.F.slot_dict_update dd.typeIs PySem.F.entry_dict_update (PySem.F.args_dict_update_2 _ _) (meets_dict_update (mixKind X.prog X.w) a b hne hd2)
    ⟨vs, ws, dd, dd2, by rw [← rel.length, ← rel2.length]; exact hz, fun h' dm _ hs => h _ ?_⟩
  have he : ∃ q, h'.get? a = some q := let ⟨q, _, _, hq, _⟩ := dm; ⟨q, hq⟩
  exact d_write (t' := s.toks) I (by rw [e]; exact True.intro) hs he (dk_new (Nat.le_trans (length_mergeK more kvs) hz) hd (KV.merge rel2 rel) dm)
theorem mtr_update : MtR X "dict.update" (rMth W wx .update) := by
  intro pins s σ H x vs v us Q I rx rs h
  obtain ⟨σ', g, P, st, a, ds, r, ra, rds, p⟩ := h
  obtain ⟨w, p2, e1, q1, e2, _, h3⟩ := Post.mthE r ra p
  have e2' : mUpdate w ds = some p2 := e2
  unfold mUpdate at e2'
  split at e2'
  · rename_i xs ys
    split at e2'
    · rename_i hz
      cases e2'
      obtain ⟨s', b, ho, rfl, k2, k3, k4, k5⟩ := h3 _ _ rfl rfl
      obtain ⟨b', eb, hb⟩ := mb_free r ra e1
      cases eb
      cases ho <;> first | exact False.elim k3 | skip
      rename_i zs
      have k3' : Rk W g xs zs := k3
      obtain ⟨u, rfl, ru⟩ := rds.one
      cases ru with
      | @dct a2 xs2 ds2 f1 f2 =>
        have hne : b ≠ a2 := fun z => by
          rw [z, f1] at hb
          cases hb
        cases rs with
        | cons r1 rn =>
          rename_i u1 us'
          cases rn
          obtain rfl : v = Value.ref b := rx
          obtain rfl : u1 = Value.ref a2 := r1
          show wpAny _ _ (call (.builtin "dict.update") [.ref b, .ref a2]) _ _ _
          exact d_update I k2 (r.fz _ _ f1) hne (by rw [← k3'.length, ← f2.length]; exact hz) fun s2 I2 => ⟨.non, _, I2, rfl, k5 g _ (.refl g) (k4 (.dK _) (Rk.merge f2 k3')) _ R.non⟩
    · cases e2'
  · cases e2'
theorem se_dic {keys : List (Option Expr)} {values : List Expr} {ms : List (Ac Dat × Ac Dat)} {pos : Pos} (h : PPs X pos keys values (trsP W wx ms)) (hall : keys.all (·.isSome) = true) (hl : keys.length = values.length) (h0 : keys ≠ []) (h15 : keys.length ≤ 15) : SE W wx X (dicA ms) (.Dict keys values pos) :=
  peImp (pe_disp h hall hl h0 h15) fun σ H Q hh => by
    obtain ⟨g, P, s, r, q⟩ := hh
    intro p hp
    obtain ⟨f1, f2, f3, f4⟩ := r.newF hp
    have r0 : Rel W g (upd P p (.dK [])) s σ (upd H p (.dK [])) := Rel.prot (o := .dct []) (ho := .dK []) (r.laid hp) upd_same f1 f2 f3 f4
    refine prs_imp r0 (((Post.bindE q).under (up_le (ho := .dK []) f2) up_none).mono fun ps s1 g1 H1 l1 r1 q1 vs hvs => ?_)
    obtain ⟨p1, p2, p3⟩ := r1.pr p _ upd_same
    cases e : keysOf ps with
    | none =>
      simp only [e] at q1
      exact q1.elim
    | some kvs =>
      simp only [e] at q1
      by_cases hz : kvs.length ≤ 15
      · rw [if_pos hz] at q1
        obtain ⟨kv, rfl, k2⟩ := keysOf_ok hvs e
        refine ⟨p1, kv, rfl, by rw [← k2.length]; exact hz, ?_⟩
        have r2 := r1.reprot (u' := .dK (mergeK [] kv)) f2
        refine q1 g1 _ (.refl g1) (r2.unprot f2) _ ⟨p, _, rfl, upd_same, show RO W g1 (.dct _) (.dK _) from Rk.merge k2 .nil, p2, f2, p3, fun j ⟨o, ho⟩ z => ?_⟩
        obtain ⟨b, hb, k1, k2, k3, k4, k5, k6⟩ := r2.slo j o ho
        rw [z] at k1
        cases k1
        rw [upd_same] at k5
        cases k5
      · rw [if_neg hz] at q1
        exact q1.elim
theorem se_dic0 {pos : Pos} : SE W wx X (Ac.ret (.own (.dct []))) (.Dict [] [] pos) := peImp pe_dnewK fun σ H Q hh => by
  obtain ⟨g, P, s, r, q⟩ := hh
  intro p hp
  obtain ⟨n1, n2⟩ := r.newOwn (o := .dct []) (ho := .dK []) hp .nil
  exact q g _ (.refl g) n1 _ n2
/-! ### statements -/
def augK (op : BOp) (a : Int) (w : Vw) : Option Int := match op, w with
  | .add, .dt (.int b) => some (a + b)
  | .sub, .dt (.int b) => some (a - b)
  | _, _ => none
def augN (i : Nat) (op : BOp) (m : Ac Rv) : Ac Flw := fun s => match s.env[i]? with
  | some (.val (.int a)) => (m.bind fun y => (lookA y).bind fun w => (Ac.opt (augK op a w)).bind fun k => (setA i (.val (.int k))).bind fun _ => nxA) s
  | _ => .stuck
theorem PostS.lookE {g : Gh} {P : Hp} {s : Stt} {x : Rv} {f : Vw → Ac Flw} {D : Ends} (h : PostS W wx g P ((lookA x).bind f s) D) : ∃ w, look s x = some w ∧ PostS W wx g P (f w s) D := by
  unfold Ac.bind lookA at h
  cases e : look s x with
  | none =>
    simp only [e] at h
    exact h.elim
  | some w =>
    simp only [e] at h
    exact ⟨w, rfl, h⟩
theorem PostS.optE {α : Type} {g : Gh} {P : Hp} {s : Stt} {o : Option α} {f : α → Ac Flw} {D : Ends} (h : PostS W wx g P ((Ac.opt o).bind f s) D) : ∃ b, o = some b ∧ PostS W wx g P (f b s) D := by
  cases o with
  | none => exact h.elim
  | some b => exact ⟨b, rfl, h⟩
theorem setA_nx {g : Gh} {P : Hp} {s : Stt} {σ : L2.St} {H : Hp} {i : Nat} {x : Rv} {v : V} {k : Ac Flw} {D : Ends} (r : Rel W g P s σ H) (q : RvR W g P s σ H x v) (h : PostS W wx g P (((setA i x).bind fun _ => k) s) D) : ∃ s' g', g.Le g' ∧ Rel W g' P s' (σ.set i (some v)) H ∧ PostS W wx g' P (k s') D :=
  setA_ok (vs := [i]) (by simp) r q (PostS.bindV [i] h)
theorem aug_imp {i : Nat} {op : BOp} {m : Ac Rv} {f : Int → Int → Int} (hf : ∀ a w k, augK op a w = some k → ∃ b, w = .dt (.int b) ∧ k = f a b) {D : Ends} {σ : L2.St} {H : Hp} (h : tS W wx (augN i op m) D σ H) : tAug i (tX W wx rvK m) (ipI f) D σ H := by
  obtain ⟨g, P, s, r, q⟩ := h
  unfold augN at q
  split at q
  · rename_i a e
    obtain ⟨v, k1, k2⟩ := r.slv i _ e
    obtain rfl := R.intE k2
    refine ⟨_, k1, g, P, s, r, (PostS.bindE q).mono fun y s1 g1 H1 l1 r1 q1 u hu => ?_⟩
    obtain ⟨w, e1, q2⟩ := PostS.lookE q1
    obtain ⟨k, e2, q3⟩ := PostS.optE q2
    obtain ⟨b, rfl, rfl⟩ := hf a w k e2
    have hb := look_ok r1 hu e1
    obtain rfl := R.intE hb
    obtain ⟨s', g', l', r', q4⟩ := setA_nx (x := .val _) (v := .int (f a b)) r1 (R.int _) q3
    exact ⟨a, b, rfl, rfl, q4 g' _ H1 (.refl g') r'⟩
  · exact q.elim
theorem ss_aug {i : Nat} {x : Str} {e : Expr} {m : Ac Rv} {op : BOp} {pos' pos : Pos} (hop : op = .add ∨ op = .sub) (hN : X.N.Nodup) (hi : X.N[i]? = some x) (hx : Loc X.env.scope x) (he : SE W wx X m e) (hf : X.fn x = true ∨ X.env.scope.names.lookup x = some .local) : SS W wx X (augN i op m) (.AugAssign (.Name x pos') op.py e pos) := by
  rcases hop with rfl | rfl
  · exact psImp (ps_aug hN hi hx he ip_add hf) fun D σ H h => aug_imp (fun a w k e => by
      unfold augK at e
      split at e <;> first | cases e; exact ⟨_, rfl, rfl⟩ | (rename_i hh; cases hh) | cases e) h
  · exact psImp (ps_aug hN hi hx he ip_sub hf) fun D σ H h => aug_imp (fun a w k e => by
      unfold augK at e
      split at e <;> first | cases e; exact ⟨_, rfl, rfl⟩ | (rename_i hh; cases hh) | cases e) h
def parA2 (i j : Nat) (ms : Ac (List Dat)) : Ac Flw := ms.bind fun ds => match ds with
  | [a, b] => (setA i (.val a)).bind fun _ => (setA j (.val b)).bind fun _ => nxA
  | _ => Ac.stk
def parA3 (i j l : Nat) (ms : Ac (List Dat)) : Ac Flw := ms.bind fun ds => match ds with
  | [a, b, c] => (setA i (.val a)).bind fun _ => (setA j (.val b)).bind fun _ => (setA l (.val c)).bind fun _ => nxA
  | _ => Ac.stk
theorem ss_par {i j : Nat} {x y : Str} {a b : Expr} {ms : Ac (List Dat)} {px py pt pos : Pos} {kt k2 pt2} (hc : X.calm = true) (hN : X.N.Nodup) (hi : X.N[i]? = some x) (hj : X.N[j]? = some y) (hij : i ≠ j)
    (hx : X.env.scope.names.lookup x = some .local) (hy : X.env.scope.names.lookup y = some .local) (ha : SA W wx X ms [a, b])
    (hw : swappedStores [.Tuple [.Name x px, .Name y py] kt pt] (.Tuple [a, b] k2 pt2) X.env = pure (some [x, y]))
    (hs : swapsWithSole [.Tuple [.Name x px, .Name y py] kt pt] (.Tuple [a, b] k2 pt2) pos.line X.env = pure false) :
    SS W wx X (parA2 i j ms) (.Assign [.Tuple [.Name x px, .Name y py] kt pt] (.Tuple [a, b] k2 pt2) pos) := psImp (ps_par hc hN hi hj hij hx hy ha hw hs) fun D σ H h => by
  obtain ⟨g, P, s, r, q⟩ := h
  refine ⟨g, P, s, r, (PostS.bindE q).mono fun ds s1 g1 H1 l1 r1 q1 vs hv => ?_⟩
  cases hv with
  | nil => exact q1.elim
  | cons h1 t =>
    cases t with
    | nil => exact q1.elim
    | cons h2 t =>
      cases t with
      | cons _ _ => exact q1.elim
      | nil =>
        obtain ⟨s2, g2, l2, r2, q2⟩ := setA_nx (x := .val _) r1 h1 q1
        obtain ⟨s3, g3, l3, r3, q3⟩ := setA_nx (x := .val _) r2 (R.mono l2 h2) q2
        exact ⟨_, _, rfl, q3 g3 _ H1 (.refl g3) r3⟩
theorem ss_par3 {i j l : Nat} {x y z : Str} {a b c : Expr} {ms : Ac (List Dat)} {px py pz pt pos : Pos} {kt k2 pt2} (hc : X.calm = true) (hN : X.N.Nodup) (hi : X.N[i]? = some x) (hj : X.N[j]? = some y) (hl : X.N[l]? = some z) (hij : i ≠ j) (hil : i ≠ l) (hjl : j ≠ l)
    (hx : X.env.scope.names.lookup x = some .local) (hy : X.env.scope.names.lookup y = some .local) (hz : X.env.scope.names.lookup z = some .local) (ha : SA W wx X ms [a, b, c])
    (hw : swappedStores [.Tuple [.Name x px, .Name y py, .Name z pz] kt pt] (.Tuple [a, b, c] k2 pt2) X.env = pure (some [x, y, z]))
    (hs : swapsWithSole [.Tuple [.Name x px, .Name y py, .Name z pz] kt pt] (.Tuple [a, b, c] k2 pt2) pos.line X.env = pure false) :
    SS W wx X (parA3 i j l ms) (.Assign [.Tuple [.Name x px, .Name y py, .Name z pz] kt pt] (.Tuple [a, b, c] k2 pt2) pos) := psImp (ps_par3 hc hN hi hj hl hij hil hjl hx hy hz ha hw hs) fun D σ H h => by
  obtain ⟨g, P, s, r, q⟩ := h
  refine ⟨g, P, s, r, (PostS.bindE q).mono fun ds s1 g1 H1 l1 r1 q1 vs hv => ?_⟩
  cases hv with
  | nil => exact q1.elim
  | cons h1 t =>
    cases t with
    | nil => exact q1.elim
    | cons h2 t =>
      cases t with
      | nil => exact q1.elim
      | cons h3 t =>
        cases t with
        | cons _ _ => exact q1.elim
        | nil =>
          obtain ⟨s2, g2, l2, r2, q2⟩ := setA_nx (x := .val _) r1 h1 q1
          obtain ⟨s3, g3, l3, r3, q3⟩ := setA_nx (x := .val _) r2 (R.mono l2 h2) q2
          obtain ⟨s4, g4, l4, r4, q4⟩ := setA_nx (x := .val _) r3 (R.mono (l2.trans l3) h3) q3
          exact ⟨_, _, _, rfl, q4 g4 _ H1 (.refl g4) r4⟩
end
end En
set_option maxHeartbeats 4000000
/-! Eo1: an instance is made (it lies in the store); a classmethod is called through its class. -/
namespace En
open PySem PySem.Spec PyProof.Rows L2
/-- behind the arguments: a new instance, its __init__ -/
def mkK (c : Nat) (call : List Dat → List Mob → Cou) (xs : List Dat) : Ac Rv := fun s => match call xs (s.sto ++ [.ins c []]) with
  | .ok (.val .non) sto => .ok (.val (.ref s.sto.length)) { s with sto := sto }
  | .exc x sto => .exc x { s with sto := sto }
  | _ => .stuck
section
variable {W : Wd} {wx : WX} {X : Cx} {k : Nat} {f C : Addr} {fd : FuncData} {ps ks : List Str} {sp : Sp}
theorem run_mkG {pins : List (Addr × Obj)} {σ : L2.St} {H : Hp} {s : Shared} {Q : VK} {kw : List (Str × Value)} {us : List Value} (M : Mk X.K C f) (F : FnG X.prog X.w X.K X.mg X.base k f fd ps sp) (hr : RoomG (k + 1) X.A) (tk : Takes X wx)
    (I : L2.Inv X pins σ H s)
    (h : ∀ A : Around, Env0 X.prog X.w X.K X.mg X.base A X.stack { s with heap := (s.heap.push PySem.W.emptyDict).push (PySem.W.instObj C s.heap.objs.size) } (upd (upd H s.heap.objs.size (.own (s.heap.objs.size + 1))) (s.heap.objs.size + 1) (.ins C s.heap.objs.size [])) →
      BndN (CX X.prog X.w) X.prog X.w X.K X.mg X.base fd ⟨.ref (s.heap.objs.size + 1) :: us, kw⟩ ps A X.stack { s with heap := (s.heap.push PySem.W.emptyDict).push (PySem.W.instObj C s.heap.objs.size) } (upd (upd H s.heap.objs.size (.own (s.heap.objs.size + 1))) (s.heap.objs.size + 1) (.ins C s.heap.objs.size [])) (fun cls d H' => wx cls d σ H')
        fun zv H2 => sp zv H2 (fun v H2 => v = .non ∧ Q (.ref (s.heap.objs.size + 1)) H2) fun cls d H' => wx cls d σ H') :
    wpAny (model X.prog X.w) X.A (call (.ref C) us kw) (EP X pins σ Q) X.xe s := by
  have I2 := L2.Inv.made (C := C) I
  refine wpAny_call (make_map (f := f) I.kIn M.makes M.init (beq_iff_eq.mp M.fn) (codeAny_mono (F.runB _ X.stack _ _ ⟨.ref (s.heap.objs.size + 1) :: us, kw⟩ _ _ (hr.make C us kw)
    (I2.env0.make C us kw) (h _ (I2.env0.make C us kw))) fun r s' hq => ?_))
  cases r with
  | error e => exact tk e s' (XE.of_call I2 (fun _ _ _ h => h) hq)
  | ok fl =>
    cases fl with
    | ret u =>
      obtain ⟨v, H', I3, rv, ev, q3⟩ := I2.after hq
      subst ev
      exact ⟨rv, V.ref (s.heap.objs.size + 1), H', I3, rfl, q3⟩
    | next => exact False.elim hq
    | brk => exact False.elim hq
    | cont => exact False.elim hq
/-- the new instance lies in the store -/
theorem mk_rel {g : Gh} {P : Hp} {s : Stt} {σ : L2.St} {H : Hp} {c : Nat} {x dx : Addr} (r : Rel W g P s σ H) (hx : H x = none) (hd : H dx = none) (hne : dx ≠ x) :
    Rel W (g.st x) P { s with sto := s.sto ++ [.ins c []] } σ (upd (upd H dx (.own x)) x (.ins (W.ca c) dx [])) ∧ R W (g.st x) (.ref s.sto.length) (.ref x) := by
  have r1 : Rel W g P s σ (upd H dx (.own x)) := r.laid hd
  have hx1 : (upd H dx (.own x)) x = none := by
    rw [upd_ne (Ne.symm hne)]
    exact hx
  obtain ⟨r2, ⟨a, ho, e0, hH, hR, hF, hP, hn, hs⟩⟩ := r1.newOwn (o := .ins c []) (ho := .ins (W.ca c) dx []) hx1 ⟨rfl, .nil⟩
  cases e0
  exact r2.toSto hH hR hF hP hn hs
theorem mkK_ok {g g3 : Gh} {P : Hp} {s : Stt} {σ : L2.St} {H3 : Hp} {np c : Nat} {call : List Dat → List Mob → Cou} {ds : List Dat} {vs : List V} {Q : VK} {x : Addr} (l3 : g.Le g3) (r3 : Rel W g3 P { s with sto := s.sto ++ [.ins c []] } σ H3) (q3 : R W g3 (.ref s.sto.length) (.ref x))
    (q : Rs W g3 ds vs) (hl : ds.length = np)
    (h : Post W wx g P σ (mkK c call ds s) fun y s' g' H' => ∀ v, RvR W g' P s' σ H' y v → Q v H') :
    spF W np call vs H3 (fun v H2 => v = .non ∧ Q (.ref x) H2) fun cls d H' => wx cls d σ H' := by
  refine ⟨g3, _, s.sto ++ [.ins c []], ds, r3.callee, q, hl, ?_⟩
  unfold mkK at h
  cases e : call ds (s.sto ++ [.ins c []]) with
  | ok y sto =>
    rw [e] at h
    cases y with
    | own o => exact h.elim
    | bor i => exact h.elim
    | val d =>
      cases d <;> first | exact h.elim | skip
      intro g' H' v l r' q'
      have e2 : v = .non := by
        cases q'
        rfl
      refine ⟨e2, ?_⟩
      have rb := r3.back l r'
      have hq : R W g' (.ref s.sto.length) (.ref x) := R.mono l q3
      exact h g' H' (l3.trans l) rb _ hq
  | exc y sto =>
    rw [e] at h
    exact fun g' H' cls d l r' q' => h g' H' cls d (l3.trans l) (r3.back l r') q'
  | stuck =>
    rw [e] at h
    exact h
/-- C(..) of a global name -/
theorem se_mk {np n c : Nat} {call : List Dat → List Mob → Cou} {x : Str} {p pos : Pos} {es : List Expr} {kws : List Keyword} {ms mk : Ac (List Dat)} {sl : List Sl} (hK : X.K = W.K) (M : Mk X.K (W.ca c) f) (F : FnG X.prog X.w X.K X.mg X.base k f fd ps (spF W np call)) (hnp : np = ps.length) (hr : RoomG (k + 1) X.A) (tk : Takes X wx) (hg : Gl X x) (hm : X.mg x = some (.ref (W.ca c))) (cb : CB X.K fd ps (n + 1) ks sl)
    (pa : SA W wx X ms es) (pk : SK W wx X mk kws) (hdb : (x == ("__debug__" : Str)) = false)
    (hall : (backToKw pos (keywordEach kws X.env)).all (·.1.isSome) = true) (hks : (backToKw pos (keywordEach kws X.env)).filterMap (·.1) = ks)
    (hn : es = [] → ms = Ac.ret [])
    (he : ∀ e es', es = e :: es' → starEach (e :: es') X.env = (false, eval e X.env) :: starEach es' X.env)
    (hpl : ((backTo pos (starEach es X.env)).any (·.1) || (backToKw pos (keywordEach kws X.env)).any (·.1.isNone)) = false) :
    SE W wx X (argA (fun n => [.ref n]) ms mk n ks.length sl (mkK c call)) (.Call (.Name x p) es kws pos) := ⟨fun pins s σ H Q I h => by
  obtain ⟨g, P, st, r, q⟩ := h
  refine wpAny_Call_Name_kw (ld_glob I hg hm ?_ hdb)
  refine callG M.kp pa pk I r q hall hks hn he hpl fun us ws s2 vs zs H2 I2 rv rz ⟨g2, st2, ds, es2, xs, l2, r2, rd, re, l1, l3, e, p2⟩ => ?_
  have hx : H2 (s2.heap.objs.size + 1) = none := I2.hok.fresh (Nat.le_succ _)
  have hd : H2 s2.heap.objs.size = none := I2.hok.fresh (Nat.le_refl _)
  have hne : s2.heap.objs.size ≠ s2.heap.objs.size + 1 := Nat.ne_of_lt (Nat.lt_succ_self _)
  have I3 := L2.Inv.made (C := W.ca c) I2
  have rv' : Vals (V.ref (s2.heap.objs.size + 1) :: vs) (Value.ref (s2.heap.objs.size + 1) :: us) := .cons rfl rv
  obtain ⟨r3, q3⟩ := mk_rel (c := c) r2 hx hd hne
  have g3 : Rs W (g2.st (s2.heap.objs.size + 1)) ([.ref st2.sto.length] ++ ds) (V.ref (s2.heap.objs.size + 1) :: vs) := .cons q3 (Rs.mono Gh.le_st rd)
  refine run_mkG (f := f) M F hr tk I2 fun A0 e0 => ?_
  obtain ⟨hl, hB⟩ := cb.go hK.symm e0 r3 g3 (Rs.mono Gh.le_st re) rv' rz (by simp [l1]) l3 e
  exact bnd_mono hB fun vs' H' ⟨g', l, r', q'⟩ => mkK_ok (Gh.le_st.trans l) r' (R.mono l q3) q' (hl.trans hnp.symm) p2⟩
/-- C.m is a static method: its record at p, its def at g -/
structure SMet (K : PySem.W.Frag) (C : Addr) (mc : Value) (m : Str) (g : Addr) : Prop where
  at_ : ∃ p rest, PySem.W.findCls K (.ref C) mc m = some (.get (.builtin "staticmethod.__get__") (.ref p) .none (.ref C)) ∧ PySem.W.recIn K p "staticmethod" = some (.ref g :: rest)
  hv : PySem.W.handedIn (.ref g) = true
  kp : PySem.W.keepIn K (.ref g) = true
/-- C.m(..), m a static method of the class C -/
theorem se_smt {np n c : Nat} {mc : Value} {call : List Dat → List Mob → Cou} {m : Str} {apos pos : Pos} {o : Expr} {es : List Expr} {kws : List Keyword} {ms mk : Ac (List Dat)} {sl : List Sl} {pl : Sem Bool} (hK : X.K = W.K) (po : SE W wx X (Ac.ret (.val (.cls c))) o)
    (r0 : ClX.CRead X.K (W.ca c) mc) (sm : SMet X.K (W.ca c) mc m f) (F : FnG X.prog X.w X.K X.mg X.base k f fd ps (spF W np call)) (hnp : np = ps.length) (hr : RoomG k X.A) (tk : Takes X wx) (cb : CB X.K fd ps n ks sl)
    (pa : SA W wx X ms es) (pk : SK W wx X mk kws)
    (hall : (backToKw pos (keywordEach kws X.env)).all (·.1.isSome) = true) (hks : (backToKw pos (keywordEach kws X.env)).filterMap (·.1) = ks)
    (hn : es = [] → ms = Ac.ret [])
    (he : ∀ e es', es = e :: es' → starEach (e :: es') X.env = (false, eval e X.env) :: starEach es' X.env)
    (hpl : ((backTo pos (starEach es X.env)).any (·.1) || (backToKw pos (keywordEach kws X.env)).any (·.1.isNone)) = false)
    (ht : eval (.Call (.Attribute o m apos) es kws pos) X.env = (do
      let ov ← eval o X.env
      standAt apos.atName
      let (f, first) ← holding [ov] (getMethod ov m pl)
      callWith pos f first (backTo pos (starEach es X.env)) (backToKw pos (keywordEach kws X.env)))) :
    SE W wx X (argA (fun _ => []) ms mk n ks.length sl (couA call)) (.Call (.Attribute o m apos) es kws pos) := ⟨fun pins s σ H Q I h => by
  obtain ⟨g, P, st, r, q⟩ := h
  have q0 : Post W wx g P σ (((Ac.ret (Rv.val (.cls c))).bind fun _ => argA (fun _ => []) ms mk n ks.length sl (couA call)) st) fun x s' g' H' => ∀ v, RvR W g' P s' σ H' x v → Q v H' := q
  refine PySem.W.methodCall_KW (pl := pl) (thn (po.run pins s σ H (fun v H1 => v = .ref (W.ca c) ∧ ∃ g1 s1, Rel W g1 P s1 σ H1 ∧
    Post W wx g1 P σ (argA (fun _ => []) ms mk n ks.length sl (couA call) s1) fun x s' g' H' => ∀ v, RvR W g' P s' σ H' x v → Q v H') I ⟨g, P, st, r, fun g1 H1 l1 r1 v hv => ⟨by cases hv; rfl, g1, st, r1, (Post.bindE q0 : Post W wx g P σ (.ok (Rv.val (.cls c)) st) _) g1 H1 l1 r1⟩⟩) fun u s1 ⟨v, H1, I1, rv, ev, g1, st1, r1, q1⟩ => ?_) ht
  · subst ev
    obtain rfl : u = Value.ref (W.ca c) := rv
    obtain ⟨p, rest, e1, e2⟩ := sm.at_
    refine PySem.W.method_cls I1.kIn r0.ga (PySem.W.cls_bind I1.kIn r0.rd e1 (wpAny_call (PySem.W.sm_get (s := { s1 with toks := s1.toks + 1 }) I1.kIn e2 (PySem.W.handed_on sm.hv ?_))))
    refine callG (first := []) sm.kp pa pk (I1.tok _) r1 q1 hall hks hn he hpl fun us ws s2 vs zs H2 I2 rv rz ⟨g2, st2, ds, es2, xs, l2, r2, rds, re, l1, l3, e, p2⟩ => ?_
    obtain ⟨hl, hB⟩ := cb.go hK.symm I2.env0 r2 rds re rv rz l1 l3 e
    exact run_fnB (args := ⟨us, ks.zip ws⟩) F hr tk I2 (bnd_mono hB fun vs' H' ⟨g', l, r', q'⟩ => couA_ok r' q' (hl.trans hnp.symm) (p2.le l))⟩
/-- the call of a bound classmethod's record -/
theorem run_cmG {pins : List (Addr × Obj)} {σ : L2.St} {H : Hp} {s : Shared} {Q : VK} {q g : Addr} {us : List Value} (F : FnG X.prog X.w X.K X.mg X.base k g fd ps sp) (hr : RoomG k X.A) (tk : Takes X wx) (I : L2.Inv X ((q, PySem.W.methodObj (.ref g) (.ref C)) :: pins) σ H s)
    (hb : BndN (CX X.prog X.w) X.prog X.w X.K X.mg X.base fd ⟨.ref C :: us, []⟩ ps X.A X.stack s H (fun cls d H' => wx cls d σ H') fun zv H2 => sp zv H2 Q fun cls d H' => wx cls d σ H') : wpAny (model X.prog X.w) X.A (call (.ref q) us) (EP X pins σ Q) X.xe s := by
  have z : wpAny (model X.prog X.w) X.A (call (.ref q) us) (EP X ((q, PySem.W.methodObj (.ref g) (.ref C)) :: pins) σ Q) X.xe s := by
    refine wpAny_call (PySem.W.method_call (ClX.pin_at I) (codeAny_mono (F.runB X.A X.stack s H ⟨.ref C :: us, []⟩ Q _ hr I.env0 hb) fun r s' hq => ?_))
    cases r with
    | error e => exact tk e s' (XE.of_call I (fun _ _ _ h => h) hq)
    | ok fl =>
      cases fl with
      | ret u => exact I.after hq
      | next => exact False.elim hq
      | brk => exact False.elim hq
      | cont => exact False.elim hq
  exact thn z fun _ _ y => ClX.unpinE y
/-- C.m(e, ..), m a classmethod -/
theorem se_cmt {np n c : Nat} {mc : Value} {pa_ : Addr} {call : List Dat → List Mob → Cou} {m : Str} {apos pos : Pos} {o e0 : Expr} {es : List Expr} {ms : Ac (List Dat)} {sl : List Sl} {pl : Sem Bool} (hK : X.K = W.K) (po : SE W wx X (Ac.ret (.val (.cls c))) o)
    (r0 : ClX.CRead X.K (W.ca c) mc) (cm : ClX.CMet X.K (W.ca c) mc m pa_ f) (F : FnG X.prog X.w X.K X.mg X.base k f fd ps (spF W np call)) (hnp : np = ps.length) (hr : RoomG k X.A) (tk : Takes X wx) (cb : CB X.K fd ps (n + 1) [] sl)
    (pa : SA W wx X ms (e0 :: es)) (hst : starEach (e0 :: es) X.env = (false, eval e0 X.env) :: starEach es X.env) (hpl : (backTo pos (starEach es X.env)).any (·.1) = false)
    (ht : eval (.Call (.Attribute o m apos) (e0 :: es) [] pos) X.env = (do
      let ov ← eval o X.env
      standAt apos.atName
      let (f, first) ← holding [ov] (getMethod ov m pl)
      callWith pos f first (backTo pos (starEach (e0 :: es) X.env)) (backToKw pos (keywordEach [] X.env)))) :
    SE W wx X (argA (fun _ => [.cls c]) ms (Ac.ret []) n 0 sl (couA call)) (.Call (.Attribute o m apos) (e0 :: es) [] pos) := ⟨fun pins s σ H Q I h => by
  obtain ⟨g, P, st, r, q⟩ := h
  have q0 : Post W wx g P σ (((Ac.ret (Rv.val (.cls c))).bind fun _ => argA (fun _ => [.cls c]) ms (Ac.ret []) n 0 sl (couA call)) st) fun x s' g' H' => ∀ v, RvR W g' P s' σ H' x v → Q v H' := q
  refine PySem.W.methodCall_KW (pl := pl) (thn (po.run pins s σ H (fun v H1 => v = .ref (W.ca c) ∧ ∃ g1 s1, Rel W g1 P s1 σ H1 ∧
    Post W wx g1 P σ (argA (fun _ => [.cls c]) ms (Ac.ret []) n 0 sl (couA call) s1) fun x s' g' H' => ∀ v, RvR W g' P s' σ H' x v → Q v H') I ⟨g, P, st, r, fun g1 H1 l1 r1 v hv => ⟨by cases hv; rfl, g1, st, r1, (Post.bindE q0 : Post W wx g P σ (.ok (Rv.val (.cls c)) st) _) g1 H1 l1 r1⟩⟩) fun u s1 ⟨v, H1, I1, rv, ev, g1, st1, r1, q1⟩ => ?_) ht
  subst ev
  obtain rfl : u = Value.ref (W.ca c) := rv
  refine ClX.getmethcm_ok I1 r0 cm fun s2 I2 => ?_
  have h2 := arg_imp (σ := σ) (H := H1) (Q := Q) r1 q1
  refine ClX.callwith_cm I2 (ClX.base_none I1 (Nat.le_refl _)) cm.fi (thn (pa.run pos _ s2 σ H1 _ I2 h2) fun us s3 ⟨vs, H2, I3, rv, q2⟩ => ⟨⟨ClX.pin_at I3, I3.kIn⟩, ?_⟩) hst hpl
  obtain ⟨g3, P3, st3, r3, q3⟩ := q2
  obtain ⟨g4, st4, ds, es2, xs, l4, r4, rds, re, l1, l3, e, p2⟩ := (q3 : Post W wx g3 P3 σ (.ok [] st3) _) g3 H2 (.refl g3) r3 [] .nil
  have hz : es2 = [] := List.length_eq_zero_iff.mp l3
  subst hz
  have rv' : Vals (V.ref (W.ca c) :: vs) (Value.ref (W.ca c) :: us) := .cons rfl rv
  have rds' : Rs W g4 ([.cls c] ++ ds) (V.ref (W.ca c) :: vs) := .cons (.cls c) rds
  obtain ⟨hl, hB⟩ := cb.go (ws := []) hK.symm I3.env0 r4 rds' (.nil : Rs W g4 [] []) rv' .nil (by simp [l1]) rfl e
  exact run_cmG F hr tk I3 (bnd_mono hB fun vs' H' ⟨g', l, r', q'⟩ => couA_ok r' q' (hl.trans hnp.symm) (p2.le l))⟩
end
end En
set_option maxHeartbeats 4000000
/-! Eo2: match of a text against written texts. -/
namespace En
open PySem PySem.Spec PyProof.Rows L2
def litOf : Pattern → Option Str
  | .MatchValue (.Constant (.str x) _ _) _ => some x
  | _ => none
def litsOf : List Pattern → Option (List Str)
  | [] => some []
  | p :: r => match litOf p, litsOf r with
    | some x, some xs => some (x :: xs)
    | _, _ => none
/-- the texts of a case's pattern -/
def patOf : Pattern → Option (List Str)
  | .MatchOr ps _ => litsOf ps
  | p => (litOf p).map fun x => [x]
def pickA (z : Str) (d : Ac Flw) : List (List Str × Ac Flw) → Ac Flw
  | [] => d
  | p :: r => if p.1.contains z then p.2 else pickA z d r
def matA (m : Ac Rv) (cs : List (List Str × Ac Flw)) (d : Ac Flw) : Ac Flw := m.bind fun x => (lookA x).bind fun w => match w with
  | .dt (.str z) => pickA z d cs
  | _ => Ac.stk
section
variable {W : Wd} {wx : WX} {X : Cx}
theorem holding_str {α : Type} {z : Str} {t : Tok} {m : Sem α} : holding [.str z t] m = m := rfl
theorem mp_lit {p : Pattern} {x z : Str} {t : Tok} {s : Shared} {env : Env} {A : Around} {E : Value → Shared → Prop} {Q : Option (List (Str × Value)) → Shared → Prop} (hp : litOf p = some x)
    (h : ∀ n, Q (if x == z then some [] else none) { s with toks := n }) : wpAny (model X.prog X.w) A (matchPattern p env (.str z t)) Q E s := by
  unfold litOf at hp
  split at hp
  · cases hp
    rw [matchPattern]
    refine wpAny_bind (Calls.Constant_str (wpAny_bind (wpAny_standAt (wpAny_bind (PyProof.Rows.eq_str ?_)))))
    rename_i x0 _ _ _
    show wpAny _ _ (truthy (.bool (z == x)) >>= fun b => if b = true then pure (some []) else pure none) _ _ _
    have e : (z == x) = (x == z) := by
      by_cases q : z = x
      · rw [q]
      · rw [beq_false_of_ne q, beq_false_of_ne (Ne.symm q)]
    rw [e]
    refine wpAny_bind (wpAny_pure ?_)
    have h3 := h (s.toks + 1)
    cases q : x == z with
    | true =>
      rw [q] at h3
      exact wpAny_pure h3
    | false =>
      rw [q] at h3
      exact wpAny_pure h3
  · cases hp
theorem mp_first {z : Str} {t : Tok} {env : Env} {A : Around} {E : Value → Shared → Prop} : ∀ {ps : List Pattern} {xs : List Str} {s : Shared} {Q : Option (List (Str × Value)) → Shared → Prop}, litsOf ps = some xs →
    (∀ n, Q (if xs.contains z then some [] else none) { s with toks := n }) → wpAny (model X.prog X.w) A (matchFirst ps env (.str z t)) Q E s
  | [], xs, s, Q, hp, h => by
    cases hp
    rw [matchFirst]
    exact wpAny_pure (h s.toks)
  | p :: r, xs, s, Q, hp, h => by
    unfold litsOf at hp
    split at hp
    · rename_i x ys h1 h2
      cases hp
      rw [matchFirst]
      refine wpAny_bind (mp_lit (X := X) h1 fun n => ?_)
      by_cases q : (x == z) = true
      · rw [if_pos q]
        have h3 := h n
        have e : (x :: ys).contains z = true := by
          rw [List.contains_cons, show (z == x) = true from by rw [eq_of_beq q]; exact beq_self_eq_true _]
          rfl
        rw [if_pos e] at h3
        exact wpAny_pure h3
      · rw [if_neg q]
        refine mp_first h2 fun n2 => ?_
        have h3 := h n2
        have e : (x :: ys).contains z = ys.contains z := by
          rw [List.contains_cons, show (z == x) = false from by
            rw [Bool.not_eq_true] at q
            refine beq_false_of_ne fun e => ?_
            rw [e, beq_self_eq_true] at q
            cases q]
          rfl
        rw [e] at h3
        exact h3
    · cases hp
theorem lits_names {ps : List Pattern} {xs : List Str} (h : litsOf ps = some xs) : namesOfAll (ps.take 1) = [] := by
  cases ps with
  | nil => rfl
  | cons p r =>
    unfold litsOf at h
    split at h
    · rename_i x ys h1 h2
      unfold litOf at h1
      split at h1
      · rw [List.take_succ_cons, List.take_zero, namesOfAll, namesOfAll, Pattern.names]
        rfl
      · cases h1
    · cases h
theorem mp_pat {p : Pattern} {xs : List Str} {z : Str} {t : Tok} {s : Shared} {env : Env} {A : Around} {E : Value → Shared → Prop} {Q : Option (List (Str × Value)) → Shared → Prop} (hp : patOf p = some xs)
    (h : ∀ n, Q (if xs.contains z then some [] else none) { s with toks := n }) : wpAny (model X.prog X.w) A (matchPattern p env (.str z t)) Q E s := by
  unfold patOf at hp
  split at hp
  · rename_i ps q
    rw [matchPattern]
    refine wpAny_bind (mp_first hp fun n => ?_)
    have h3 := h n
    by_cases e : xs.contains z = true
    · rw [if_pos e] at h3 ⊢
      refine wpAny_pure ?_
      rw [lits_names hp]
      exact h3
    · rw [if_neg e] at h3 ⊢
      exact wpAny_pure h3
  · obtain ⟨x, e, rfl⟩ := Option.map_eq_some_iff.mp hp
    refine mp_lit (X := X) e fun n => ?_
    have h3 := h n
    have e2 : [x].contains z = (x == z) := by
      rw [List.contains_cons, List.contains_nil, Bool.or_false]
      by_cases q : z = x
      · rw [q]
      · rw [beq_false_of_ne q, beq_false_of_ne (Ne.symm q)]
    rw [e2] at h3
    exact h3
/-- the cases, with their actions -/
inductive McOk (W : Wd) (wx : WX) (X : Cx) : List MatchCase → List (List Str × Ac Flw) → Ac Flw → Prop
  | nil : McOk W wx X [] [] nxA
  | dflt {q : Pos} {body : List Stmt} {d : Ac Flw} : SSs W wx X d body → McOk W wx X [⟨.MatchAs none none q, none, body⟩] [] d
  | cons {p : Pattern} {xs : List Str} {body : List Stmt} {m d : Ac Flw} {r : List MatchCase} {cs : List (List Str × Ac Flw)} : patOf p = some xs → SSs W wx X m body → McOk W wx X r cs d → McOk W wx X (⟨p, none, body⟩ :: r) ((xs, m) :: cs) d
theorem mc_run {z : Str} {t : Tok} {pins : List (Addr × Obj)} {σ : L2.St} {H : Hp} {D : Ends} : ∀ {mcs : List MatchCase} {cs : List (List Str × Ac Flw)} {d : Ac Flw} {s : Shared} {b : Bool}, McOk W wx X mcs cs d → L2.Inv X pins σ H s → tS W wx (pickA z d cs) D σ H →
    wpAny (model X.prog X.w) X.A (matchCases mcs X.env (.str z t) b) (SP X pins D) X.xe s
  | _, _, _, s, b, .nil, I, h => by
    rw [matchCases]
    obtain ⟨g, P, st, r, q⟩ := h
    exact wpAny_pure ⟨σ, H, I, q g σ H (.refl g) r⟩
  | _, _, _, s, b, .dflt (q := q) (body := body) (d := d) hb, I, h => by
    rw [matchCases]
    refine wpAny_bind (wpAny_holding ?_)
    rw [matchPattern]
    refine wpAny_pure ?_
    show wpAny _ _ (holding _ (pure ()) >>= fun _ => (pure true : Sem Bool) >>= fun ok => if ok = true then execs body X.env else matchCases [] X.env (.str z t) false) _ _ _
    refine wpAny_bind (wpAny_holding (wpAny_pure (wpAny_bind (wpAny_pure ?_))))
    exact hb.run pins _ σ H D I h
  | _, _, _, s, b, .cons (p := p) (xs := xs) (body := body) (m := m) (d := d) (r := r) (cs := cs) hp hb hr, I, h => by
    rw [matchCases]
    refine wpAny_bind (wpAny_holding (mp_pat (X := X) hp fun n => ?_))
    by_cases e : xs.contains z = true
    · rw [if_pos e]
      have h2 : tS W wx m D σ H := by
        have : pickA z d ((xs, m) :: cs) = m := by
          show (if xs.contains z then m else pickA z d cs) = m
          rw [if_pos e]
        rw [this] at h
        exact h
      refine wpAny_bind (wpAny_holding (wpAny_pure (wpAny_bind (wpAny_pure ?_))))
      exact hb.run pins _ σ H D (I.tok _) h2
    · rw [if_neg e]
      have h2 : tS W wx (pickA z d cs) D σ H := by
        have : pickA z d ((xs, m) :: cs) = pickA z d cs := by
          show (if xs.contains z then m else pickA z d cs) = _
          rw [if_neg e]
        rw [this] at h
        exact h
      exact mc_run hr (I.tok _) h2
theorem ss_mat {e : Expr} {m d : Ac Flw} {me : Ac Rv} {mcs : List MatchCase} {cs : List (List Str × Ac Flw)} {pos : Pos} (he : SE W wx X me e) (hc : McOk W wx X mcs cs d) : SS W wx X (matA me cs d) (.Match e mcs pos) := ⟨fun pins s σ H D I h => by
  obtain ⟨g, P, st, r, q⟩ := h
  show wpAny _ _ (standAt pos >>= fun _ => eval e X.env >>= fun v => matchCases mcs X.env v true) _ _ _
  refine wpAny_bind (wpAny_standAt (wpAny_bind (thn (he.run pins s σ H (fun v H1 => ∃ z, v = .str z ∧ tS W wx (pickA z d cs) D σ H1) I ⟨g, P, st, r, (PostS.bindE (σ := σ) q).mono fun x s1 g1 H1 l1 r1 q1 v hv => ?_⟩) fun u s1 ⟨v, H1, I1, rv, z, ev, q1⟩ => ?_)))
  · obtain ⟨w, e1, q2⟩ := PostS.lookE q1
    cases w with
    | mb o => exact q2.elim
    | dt d' =>
      cases d' <;> first | exact q2.elim | skip
      rename_i z
      have hq := look_ok r1 hv e1
      cases hq
      exact ⟨z, rfl, g1, P, s1, r1, q2⟩
  · subst ev
    obtain ⟨t, rfl⟩ := rv
    exact mc_run hc I1 q1⟩
end
end En
set_option maxHeartbeats 4000000
/-! Eo3: comprehensions of two clauses. -/
namespace En
open PySem PySem.Spec PyProof.Rows L2
/-- a turn of the outer clause: the list as it has grown -/
def st2A (a : Rv → Ac Unit) (mt : Ac Bool) (m1 : Ac (List Dat)) (step : Dat → Ac (Option Dat)) (own vs1 : List Nat) (acc : List Dat) (d : Dat) : Ac (List Dat) := noX ((a (.val d)).bind fun _ => mt.bind fun k => if k then m1.bind fun ds1 => (wipA vs1).bind fun _ => (trnA step acc ds1).bind fun acc' => (wipA own).bind fun _ => Ac.ret acc'
  else (wipA own).bind fun _ => Ac.ret acc)
def tr2A (st : List Dat → Dat → Ac (List Dat)) : List Dat → List Dat → Ac (List Dat)
  | acc, [] => Ac.ret acc
  | acc, d :: r => (st acc d).bind fun acc' => tr2A st acc' r
def lc2A (m : Ac (List Dat)) (a : Rv → Ac Unit) (mt : Ac Bool) (m1 : Ac (List Dat)) (a1 : Rv → Ac Unit) (mt1 : Ac Bool) (me : Ac Dat) (own vs1 : List Nat) : Ac Rv :=
  m.bind fun ds => Ac.get.bind fun s0 => (wipA own).bind fun _ => (tr2A (st2A a mt m1 (stpA a1 mt1 me vs1) own vs1) [] ds).bind fun ys => fun s => .ok (.own (.lst ys)) { s with env := bakS s0.env s.env own }
section
variable {W : Wd} {wx : WX} {X : Cx} {g g' : Gh} {P P' : Hp} {s : Stt} {σ : L2.St} {H : Hp} {vs : List Nat}
theorem wipe_in {i : Nat} : ∀ {vs : List Nat} {σ : L2.St}, i ∈ vs → ∀ x, (L2.wipe σ vs)[i]? = some x → x = none
  | [], _, h, _, _ => by cases h
  | v :: vs, σ, h, x, e => by
    have e' : ((L2.wipe σ vs).set v none)[i]? = some x := e
    by_cases hv : v = i
    · subst hv
      rcases getE_set e' with ⟨_, z⟩ | ⟨z, _⟩
      · exact z
      · exact absurd rfl z
    · have hi' : i ∈ vs := by
        rcases List.mem_cons.mp h with h | h
        · exact absurd h.symm hv
        · exact h
      rcases getE_set e' with ⟨z, _⟩ | ⟨_, z⟩
      · exact absurd z hv
      · exact wipe_in hi' x z
theorem wipe_sub {vs1 own : List Nat} (h : ∀ i ∈ vs1, i ∈ own) : L2.wipe (L2.wipe σ vs1) own = L2.wipe σ own := by
  apply List.ext_getElem?
  intro i
  by_cases hi : i ∈ own
  · cases e1 : (L2.wipe (L2.wipe σ vs1) own)[i]? with
    | none =>
      rw [List.getElem?_eq_none_iff, L2.wipe_length, L2.wipe_length] at e1
      symm
      rw [List.getElem?_eq_none_iff, L2.wipe_length]
      exact e1
    | some x =>
      have hl := (List.getElem?_eq_some_iff.mp e1).1
      rw [L2.wipe_length, L2.wipe_length] at hl
      cases e2 : (L2.wipe σ own)[i]? with
      | none =>
        rw [List.getElem?_eq_none_iff, L2.wipe_length] at e2
        omega
      | some y => rw [wipe_in hi x e1, wipe_in hi y e2]
  · have h1 : i ∉ vs1 := fun z => hi (h i z)
    rw [L2.wipe_out hi, L2.wipe_out h1, L2.wipe_out hi]
theorem PostV.sub {α : Type} {o : Out α} {σ' : L2.St} {own vs1 : List Nat} {K : α → Stt → Gh → L2.St → Hp → Prop} (h : PostV W wx0 g P σ own o K) (hv : ∀ i ∈ vs1, i ∈ own) (e : L2.wipe σ' own = L2.wipe σ own) : PostV W wx0 g P σ' vs1 o K := by
  cases o with
  | ok a s => exact fun g2 σ2 H2 l2 r e2 => h g2 σ2 H2 l2 r (by rw [← wipe_sub hv, e2, wipe_sub hv, e])
  | exc x s => exact h
  | stuck => exact h
theorem tr2A_nox {st : List Dat → Dat → Ac (List Dat)} (hs : ∀ acc d s x s', st acc d s ≠ .exc x s') : ∀ (ds acc : List Dat) (s : Stt) (x : Dat) (s' : Stt), tr2A st acc ds s ≠ .exc x s'
  | [], acc, s, x, s', e => by cases e
  | d :: r, acc, s, x, s', e => by
    unfold tr2A Ac.bind at e
    cases q : st acc d s with
    | ok o s1 =>
      rw [q] at e
      exact tr2A_nox hs r o s1 x s' e
    | exc z s1 => exact absurd q (hs acc d s z s1)
    | stuck =>
      rw [q] at e
      cases e
theorem st2A_nox {a : Rv → Ac Unit} {mt : Ac Bool} {m1 : Ac (List Dat)} {step : Dat → Ac (Option Dat)} {own vs1 : List Nat} (acc : List Dat) (d : Dat) (s : Stt) (x : Dat) (s' : Stt) : st2A a mt m1 step own vs1 acc d s ≠ .exc x s' := by
  unfold st2A noX
  intro e
  split at e <;> cases e
/-- ahead of turn i of the outer clause -/
def lc2At (W : Wd) (wx : WX) (P : Hp) (σ : L2.St) (own : List Nat) (s1 : Stt) (Q : VK) (st : List Dat → Dat → Ac (List Dat)) (ds : List Dat) (g1 : Gh) (D : Addr) (i n : Nat) (H : Hp) : Prop :=
  n + i = ds.length ∧ ∃ g2 s2 acc accV, g1.Le g2 ∧ Rel W g2 (upd P D (.lst accV)) s2 (L2.wipe σ own) H ∧ Rs W g2 acc accV ∧ PostV W wx0 g2 P (L2.wipe σ own) own (tr2A st acc (ds.drop i) s2) (lcEnd W wx P σ own s1 Q)
/-- ahead of turn j of the inner one -/
def lc2In (W : Wd) (P : Hp) (σ σ2 : L2.St) (own vs1 : List Nat) (step : Dat → Ac (Option Dat)) (F : List Dat → Ac (List Dat)) (K : List Dat → Stt → Gh → L2.St → Hp → Prop) (ds : List Dat) (g1 : Gh) (D : Addr) (j n : Nat) (H : Hp) : Prop :=
  n + j = ds.length ∧ ∃ g2 s2 acc accV, g1.Le g2 ∧ Rel W g2 (upd P D (.lst accV)) s2 (L2.wipe σ2 vs1) H ∧ Rs W g2 acc accV ∧ PostV W wx0 g2 P (L2.wipe σ own) own (trnA step acc (ds.drop j) s2) fun acc' s' g' σ' _ => PostV W wx0 g' P σ' own (F acc' s') K
theorem lc2_imp {m m1 : Ac (List Dat)} {a a1 : Rv → Ac Unit} {mt mt1 : Ac Bool} {me : Ac Dat} {own vs1 : List Nat} {Q : VK} (hv : ∀ i ∈ vs1, i ∈ own) (h : tX W wx rvK (lc2A m a mt m1 a1 mt1 me own vs1) σ H Q) :
    tLc2 (tI W wx m) (tG W wx0 a own) (tX W wx0 (eqK Bool) mt) (tI W wx0 m1) (tG W wx0 a1 vs1) (tX W wx0 (eqK Bool) mt1) (tX W wx0 dtK me) own vs1 σ H Q := by
  obtain ⟨g, P, s, r, q⟩ := h
  refine ⟨g, P, s, r, (Post.bindE q).mono fun ds s1 g1 H1 l1 r1 q1 J hJ => ?_⟩
  intro D hD
  obtain ⟨f1, f2, f3, f4⟩ := r1.newF hD
  have start : PostV W wx0 g1 P (L2.wipe σ own) own (tr2A (st2A a mt m1 (stpA a1 mt1 me vs1) own vs1) [] ds { s1 with env := wipS s1.env own }) (lcEnd W wx P σ own s1 Q) := by
    have q2 : Post W wx g1 P σ (((tr2A (st2A a mt m1 (stpA a1 mt1 me vs1) own vs1) [] ds).bind fun ys => fun s => .ok (Rv.own (.lst ys)) { s with env := bakS s1.env s.env own }) { s1 with env := wipS s1.env own }) (fun b s' g' H' => ∀ v, (rvK (W := W)).rel g' P s' σ H' b v → Q v H') := q1
    unfold Ac.bind at q2
    cases e : tr2A (st2A a mt m1 (stpA a1 mt1 me vs1) own vs1) [] ds { s1 with env := wipS s1.env own } with
    | ok ys s' =>
      rw [e] at q2
      exact fun g' σ' H' l r _ _ => Post.le q2 l
    | exc x s' => exact absurd e (tr2A_nox st2A_nox ds [] _ x s')
    | stuck =>
      rw [e] at q2
      exact q2.elim
  refine ⟨lc2At W wx P σ own s1 Q (st2A a mt m1 (stpA a1 mt1 me vs1) own vs1) ds g1 D, ?_, ?_⟩
  · refine ⟨ds.length, rfl, g1, _, [], [], .refl g1, ?_, .nil, start⟩
    exact Rel.prot (o := .lst []) (ho := .lst []) ((r1.wip own).laid hD) upd_same f1 f2 f3 fun i ⟨o, e⟩ z => by
      obtain ⟨h1, h2⟩ := wipS_get e (fun z => nomatch z)
      rw [L2.wipe_out h1] at z
      exact f4 i ⟨o, h2⟩ z
  rintro i n H2 ⟨hn, g2, s2, acc, accV, l2, r2, rs, q2⟩
  obtain ⟨p1, p2, p3⟩ := r2.pr D _ upd_same
  by_cases hi : i < ds.length
  · refine .inr ⟨hJ.go g2 _ s2 _ H2 i l2 r2 hi, lc2At W wx P σ own s1 Q (st2A a mt m1 (stpA a1 mt1 me vs1) own vs1) ds g1 D (i + 1) (n - 1), fun H' n' => ⟨n - 1, by omega, n'⟩, fun x H3 y => ?_⟩
    obtain ⟨g3, d, l3, r3, e3, rd⟩ := hJ.yld g2 _ s2 _ H2 i x H3 l2 r2 hi y
    have ed : ds.drop i = d :: ds.drop (i + 1) := by
      have hd : ds[i] = d := by
        have := List.getElem?_eq_getElem hi
        rw [e3] at this
        exact (Option.some.inj this).symm
      rw [List.drop_eq_getElem_cons hi, hd]
    rw [ed] at q2
    have q3 := PostV.bindE (PostV.noX (wx' := wx0) (PostV.bindE (PostV.le q2 l3)))
    refine ⟨g3, _, s2, .val d, r3, rd, (q3.under (up_le (ho := .lst accV) f2) up_none).mono fun _ s4 g4 σ4 H4 l4 r4 e4 q5 => ⟨e4.trans wipe_idem, ?_⟩⟩
    have e4' : L2.wipe σ4 own = L2.wipe σ own := e4.trans wipe_idem
    refine ⟨g4, _, s4, r4, (((PostV.bindE q5).under (up_le (ho := .lst accV) f2) up_none).post).mono fun k s5 g5 H5 l5 r5 q6 k' hk => ?_⟩
    cases hk
    cases k with
    | false =>
      have r7 := r5.wip own
      have q8 := q6 g5 _ H5 (.refl g5) (r7.unprot f2) wipe_idem
      rw [e4'] at q8 r7
      exact ⟨by omega, g5, _, acc, accV, (l2.trans l3).trans (l4.trans l5), r7, Rs.mono (l3.trans (l4.trans l5)) rs, q8⟩
    | true =>
      refine ⟨g5, _, s5, r5, (((PostV.bindE q6).under (up_le (ho := .lst accV) f2) up_none).post).mono fun ds1 s6 g6 H6 l6 r6 q7 J1 hJ1 => ?_⟩
      have lg : g1.Le g6 := (l2.trans l3).trans ((l4.trans l5).trans l6)
      refine ⟨lc2In W P σ σ4 own vs1 (stpA a1 mt1 me vs1) (fun acc' => (wipA own).bind fun _ => Ac.ret acc') (fun acc' sx gx σx _ => PostV W wx0 gx P σx own (tr2A (st2A a mt m1 (stpA a1 mt1 me vs1) own vs1) acc' (ds.drop (i + 1)) sx) (lcEnd W wx P σ own s1 Q)) ds1 g6 D, ?_, ?_⟩
      · have q7' : PostV W wx0 g6 P σ4 own (((trnA (stpA a1 mt1 me vs1) acc ds1).bind fun acc' => (wipA own).bind fun _ => Ac.ret acc') { s6 with env := wipS s6.env vs1 }) _ := q7
        exact ⟨ds1.length, rfl, g6, _, acc, accV, .refl g6, r6.wip vs1, Rs.mono (l3.trans ((l4.trans l5).trans l6)) rs, PostV.wip (PostV.bindE q7') (wipe_idem.trans e4'.symm)⟩
      rintro j n1 H7 ⟨hn1, g7, s7, ac, acV, l7, r7, rs7, q8⟩
      by_cases hj : j < ds1.length
      · refine .inr ⟨hJ1.go g7 _ s7 _ H7 j l7 r7 hj, lc2In W P σ σ4 own vs1 (stpA a1 mt1 me vs1) (fun acc' => (wipA own).bind fun _ => Ac.ret acc') _ ds1 g6 D (j + 1) (n1 - 1), fun H' n' => ⟨n1 - 1, by omega, n'⟩, fun x1 H8 y1 => ?_⟩
        obtain ⟨g8, d1, l8, r8, e8, rd1⟩ := hJ1.yld g7 _ s7 _ H7 j x1 H8 l7 r7 hj y1
        have ed1 : ds1.drop j = d1 :: ds1.drop (j + 1) := by
          have hd : ds1[j] = d1 := by
            have := List.getElem?_eq_getElem hj
            rw [e8] at this
            exact (Option.some.inj this).symm
          rw [List.drop_eq_getElem_cons hj, hd]
        rw [ed1] at q8
        have q9 := PostV.bindE (PostV.noX (wx' := wx0) (PostV.bindE (PostV.le q8 l8)))
        have ew : L2.wipe (L2.wipe σ4 vs1) own = L2.wipe (L2.wipe σ own) own := by rw [wipe_sub hv, e4', wipe_idem]
        refine ⟨g8, _, s7, .val d1, r8, rd1, (PostV.sub (q9.under (up_le (ho := .lst acV) f2) up_none) hv ew).mono fun _ s9 g9 σ9 H9 l9 r9 e9 q10 => ⟨e9.trans wipe_idem, ?_⟩⟩
        have e9' : L2.wipe σ9 vs1 = L2.wipe σ4 vs1 := e9.trans wipe_idem
        have e9o : L2.wipe (L2.wipe σ own) own = L2.wipe (L2.wipe σ4 vs1) own := ew.symm
        refine ⟨g9, _, s9, r9, (((PostV.bindE q10).under (up_le (ho := .lst acV) f2) up_none).post).mono fun k s10 g10 H10 l10 r10 q11 k' hk => ?_⟩
        cases hk
        cases k with
        | false =>
          have r11 := r10.wip vs1
          have q12 := q11 g10 _ H10 (.refl g10) (r11.unprot f2) (wipe_sub hv)
          rw [e9'] at q12 r11
          exact ⟨by omega, g10, _, ac, acV, (l7.trans l8).trans (l9.trans l10), r11, Rs.mono (l8.trans (l9.trans l10)) rs7, PostV.wip q12 e9o⟩
        | true =>
          refine ⟨g10, _, s10, r10, (((PostV.bindE q11).under (up_le (ho := .lst acV) f2) up_none).post).mono fun yd s11 g11 H11 l11 r11 q12 v hvd => ?_⟩
          have r12 := r11.wip vs1
          have q13 := q12 g11 _ H11 (.refl g11) (r12.unprot f2) (wipe_sub hv)
          rw [e9'] at q13 r12
          have q14 : PostV W wx0 g11 P (L2.wipe σ4 vs1) own ((if ac.length < sizeLine then trnA (stpA a1 mt1 me vs1) (ac ++ [yd]) (ds1.drop (j + 1)) else Ac.stk) { s11 with env := wipS s11.env vs1 }) _ := q13
          have rs' : Rs W g11 ac acV := Rs.mono (l8.trans (l9.trans (l10.trans l11))) rs7
          by_cases hl : ac.length < sizeLine
          · rw [if_pos hl] at q14
            refine ⟨acV, (r11.pr D _ upd_same).1, by rw [← rs'.length]; exact hl, by omega, g11, _, ac ++ [yd], acV ++ [v], (l7.trans l8).trans (l9.trans (l10.trans l11)), r12.reprot f2, rs'.append (.cons hvd .nil), PostV.wip q14 e9o⟩
          · rw [if_neg hl] at q14
            exact q14.elim
      · have hj' : j = ds1.length := by omega
        subst hj'
        rw [List.drop_length] at q8
        refine .inl ⟨hJ1.stop g7 _ s7 _ H7 l7 r7, ?_⟩
        have q9 := q8 g7 (L2.wipe σ4 vs1) H7 (.refl g7) (r7.unprot f2) (by rw [wipe_sub hv, e4', wipe_idem])
        have r9 := r7.wip own
        rw [wipe_sub hv, e4'] at r9
        have q10 := q9 g7 (L2.wipe σ own) H7 (.refl g7) (r9.unprot f2) (by rw [wipe_idem, wipe_sub hv, e4'])
        exact ⟨by omega, g7, _, ac, acV, lg.trans l7, r9, rs7, q10⟩
  · have hi' : i = ds.length := by omega
    subst hi'
    rw [List.drop_length] at q2
    refine .inl ⟨hJ.stop g2 _ s2 _ H2 l2 r2, ?_⟩
    have r3 : Rel W g2 P s2 (L2.wipe σ own) H2 := r2.unprot f2
    have q4 := q2 g2 _ H2 (.refl g2) r3 rfl rfl
    have r4 := Rel.bak r1 l2 r2
    refine q4 g2 H2 (.refl g2) (r4.unprot f2) _ ⟨D, _, rfl, p1, rs, p2, f2, p3, fun j ⟨o, e⟩ z => ?_⟩
    obtain ⟨b, hb, k1, k2, k3, k4, k5, k6⟩ := r4.slo j o e
    rw [z] at k1
    cases k1
    rw [upd_same] at k5
    cases k5
theorem se_lc2 {elt tg iter tg1 iter1 : Expr} {ifs ifs1 : List Expr} {scope : Scope} {own : List (Str × Nat)} {vs1 : List Nat} {pos : Pos} {m m1 : Ac (List Dat)} {a a1 : Rv → Ac Unit} {mt mt1 : Ac Bool} {me : Ac Dat} (hc : X.calm = true) (hN : X.N.Nodup) (hi : SI W wx X tg m iter) (ok : BlkOk X.N X.env.scope scope own) (hv : ∀ i ∈ vs1, i ∈ own.map (·.2))
    (hg : BlkX X scope fun Y => SG W wx0 Y a (own.map (·.2)) tg) (ht : BlkX X scope fun Y => PTs Y ifs (tX W wx0 (eqK Bool) mt)) (hi1 : BlkX X scope fun Y => SI W wx0 Y tg1 m1 iter1) (hg1 : BlkX X scope fun Y => SG W wx0 Y a1 vs1 tg1) (ht1 : BlkX X scope fun Y => PTs Y ifs1 (tX W wx0 (eqK Bool) mt1)) (he : BlkX X scope fun Y => SD W wx0 Y me elt)
    (hs : ∀ x, foldedSetIterable iter X.env x = pure x) (hs1 : ∀ env x, foldedSetIterable iter1 env x = pure x) :
    SE W wx X (lc2A m a mt m1 a1 mt1 me (own.map (·.2)) vs1) (.ListComp elt [⟨tg, iter, ifs, 0⟩, ⟨tg1, iter1, ifs1, 0⟩] scope pos) := peImp (pe_lc2 hc hN hi ok hv hg ht hi1 hg1 ht1 he hs hs1) fun σ H Q h => lc2_imp hv h
end
end En
set_option maxHeartbeats 4000000
/-! Eo4: dicts of the module with text keys: read, asked. -/
namespace En
open PySem PySem.Spec PyProof.Rows L2
structure KdOk (W : Wd) (w : World) (d : Addr) (kvs : List (Str × Dat)) : Prop where
  kd : ∃ es n, KDict W.K w d es n
  at_ : ∀ z, (∃ dd u v, kvs.lookup z = some dd ∧ PySem.W.nsIn W.K d z = some (some u) ∧ L2.RelV v u ∧ ∀ g, R W g dd v) ∨ (kvs.lookup z = none ∧ PySem.W.nsIn W.K d z = some none)
def kgetA (kvs : List (Str × Dat)) (m : Ac Rv) : Ac Rv := m.bind fun x => (lookA x).bind fun w => match w with
  | .dt (.str z) => Ac.opt ((kvs.lookup z).map .val)
  | _ => Ac.stk
def kinA (neg : Bool) (kvs : List (Str × Dat)) (m : Ac Rv) : Ac Rv := m.bind fun x => (lookA x).bind fun w => match w with
  | .dt (.str z) => Ac.ret (.val (.bl ((kvs.lookup z).isSome != neg)))
  | _ => Ac.stk
section
variable {W : Wd} {wx : WX} {X : Cx} {d : Addr} {kvs : List (Str × Dat)} {x : Str} {p pos : Pos} {m : Ac Rv}
theorem se_kget {i : Expr} (hK : X.K = W.K) (k : KdOk W X.w d kvs) (hg : Gl X x) (hm : X.mg x = some (.ref d)) (pi : SE W wx X m i) (hs : PlainIx i) (hdb : (x == ("__debug__" : Str)) = false) :
    SE W wx X (kgetA kvs m) (.Subscript (.Name x p) i pos) := peImp (pe_ix (r := rIxD X.K X.w) ix_kdict (pe_glob (v := .ref d) hg hm rfl hdb) pi hs) fun σ H Q hh => by
  obtain ⟨g, P, s, r, q⟩ := hh
  refine ⟨g, P, s, r, (Post.bindE q).mono fun y s1 g1 H1 l1 r1 q1 v hv => ?_⟩
  obtain ⟨w, e1, q2⟩ := Post.lookE q1
  cases w with
  | mb o => exact q2.elim
  | dt d' =>
    cases d' <;> first | exact q2.elim | skip
    rename_i z
    have hq := look_ok r1 hv e1
    cases hq
    obtain ⟨⟨es, n, K1⟩, K2⟩ := k
    rcases K2 z with ⟨dd, u, v', e2, e3, rv, rd⟩ | ⟨e2, _⟩
    · have q3 : Post W wx g1 P σ (Ac.opt ((kvs.lookup z).map Rv.val) s1) _ := q2
      rw [e2] at q3
      refine ⟨d, z, v', rfl, rfl, ⟨es, n, u, by rw [hK]; exact K1.at_, K1.lit, by rw [hK]; exact e3, rv⟩, ?_⟩
      exact q3 g1 H1 (.refl g1) r1 v' (rd g1)
    · have q3 : Post W wx g1 P σ (Ac.opt ((kvs.lookup z).map Rv.val) s1) _ := q2
      rw [e2] at q3
      exact q3.elim
theorem se_kin {a : Expr} (hK : X.K = W.K) (k : KdOk W X.w d kvs) (hg : Gl X x) (hm : X.mg x = some (.ref d)) (pa : SE W wx X m a) (hdb : (x == ("__debug__" : Str)) = false) (hmk : behindInMarks .In (.Name x p) = false) :
    SE W wx X (kinA false kvs m) (.Compare a [.In] [.Name x p] pos) := by
  obtain ⟨⟨es, n, K1⟩, K2⟩ := k
  rw [← hK] at K1
  refine peImp (pe_cmpR (op_in_kd K1) pa (pe_glob (v := .ref d) hg hm rfl hdb) hmk) fun σ H Q hh => ?_
  obtain ⟨g, P, s, r, q⟩ := hh
  refine ⟨g, P, s, r, (Post.bindE q).mono fun y s1 g1 H1 l1 r1 q1 v hv => ?_⟩
  obtain ⟨w, e1, q2⟩ := Post.lookE q1
  cases w with
  | mb o => exact q2.elim
  | dt d' =>
    cases d' <;> first | exact q2.elim | skip
    rename_i z
    have hq := look_ok r1 hv e1
    cases hq
    have q3 := q2 g1 H1 (.refl g1) r1
    rcases K2 z with ⟨dd, u, v', e2, e3, rv, rd⟩ | ⟨e2, e3⟩
    · refine ⟨z, some u, rfl, rfl, by rw [hK]; exact e3, q3 _ ?_⟩
      rw [e2]
      exact R.bl true
    · refine ⟨z, none, rfl, rfl, by rw [hK]; exact e3, q3 _ ?_⟩
      rw [e2]
      exact R.bl false
theorem se_knin {a : Expr} (hK : X.K = W.K) (k : KdOk W X.w d kvs) (hg : Gl X x) (hm : X.mg x = some (.ref d)) (pa : SE W wx X m a) (hdb : (x == ("__debug__" : Str)) = false) (hmk : behindInMarks .NotIn (.Name x p) = false) :
    SE W wx X (kinA true kvs m) (.Compare a [.NotIn] [.Name x p] pos) := by
  obtain ⟨⟨es, n, K1⟩, K2⟩ := k
  rw [← hK] at K1
  refine peImp (pe_cmpR (op_notIn_kd K1) pa (pe_glob (v := .ref d) hg hm rfl hdb) hmk) fun σ H Q hh => ?_
  obtain ⟨g, P, s, r, q⟩ := hh
  refine ⟨g, P, s, r, (Post.bindE q).mono fun y s1 g1 H1 l1 r1 q1 v hv => ?_⟩
  obtain ⟨w, e1, q2⟩ := Post.lookE q1
  cases w with
  | mb o => exact q2.elim
  | dt d' =>
    cases d' <;> first | exact q2.elim | skip
    rename_i z
    have hq := look_ok r1 hv e1
    cases hq
    have q3 := q2 g1 H1 (.refl g1) r1
    rcases K2 z with ⟨dd, u, v', e2, e3, rv, rd⟩ | ⟨e2, e3⟩
    · refine ⟨z, some u, rfl, rfl, by rw [hK]; exact e3, q3 _ ?_⟩
      rw [e2]
      exact R.bl false
    · refine ⟨z, none, rfl, rfl, by rw [hK]; exact e3, q3 _ ?_⟩
      rw [e2]
      exact R.bl true
end
end En
set_option maxHeartbeats 4000000
/-! Eo5: == and != of instances whose class has its own __eq__. -/
namespace PySem.W
open PySem PySem.Calls PyProof.Rows Builtin
section
variable {prog : Program} {w : World} {A : Around} {E : Value → Shared → Prop} {s : Shared} {K : Frag} {x y C L f : Addr} {h₀ : Heap} {m : Str → Option Value} {ox oy : Obj} {od oe : Option Obj}
theorem ne_bind (self : Value) : bindSpecial (.builtin "object.__ne__") self = pure (.builtin "object.__ne__", [self]) := F.cmp_object.ne.bind self
theorem ne_entry (X : K.In s.heap) (I : InstAt s.heap x ox C od) (hu : A.units < cLine) (hs : findIn K (.ref C) "__eq__" = some (some (.ref f))) (hf : isFn K (.ref f) = true) {Q : Fin → Shared → Prop}
    (hcall : wpAny (model prog w) A (call (.ref f) [.ref x, .ref y]) (fun v s' => ∃ b, v = .bool b ∧ Q (.done (.ret (.bool (!b)))) s') E s) :
    wpAny (model prog w) A (Builtin.«object.__ne__» ⟨[.ref x, .ref y], []⟩) Q E s := by
  unfold Builtin.«object.__ne__»
  repeat (first
    | with_reducible refine wpAny_cRoomFor hu ?_
    | (refine wpAny_bind (m := callSpecialIfBound? (.ref x) (Str.ofString "__eq__") [.ref y])
        (ifBound_K X I hs hf (wpAny_mono hcall (fun r s' hr => by
          obtain ⟨b, rfl, hq⟩ := hr
          repeat (first | exact hq | exact wpAny_pure hq | exact wpAny_truthy_bool hq | (refine wpAny_bind (m := truthy (.bool _)) (wpAny_truthy_bool ?_)) | wp_step)) fun _ _ e => e)))
    | wp_step)
theorem ne_try (X : K.In s.heap) (I : InstAt s.heap x ox C od) (hu : A.units + 1 < cLine) (hs : findIn K (.ref C) "__eq__" = some (some (.ref f))) (hf : isFn K (.ref f) = true) (hn : findIn K (.ref C) "__ne__" = some (some (.builtin "object.__ne__")))
    (hm : mroIn K C (.type "object") = some true) {Q : Option Value → Shared → Prop}
    (hcall : wpAny (model prog w) A.in1 (call (.ref f) [.ref x, .ref y]) (fun v s' => ∃ b, v = .bool b ∧ Q (some (.bool (!b))) s') E s) : wpAny (model prog w) A (tryCompare (.ref x) "__ne__" (.ref y)) Q E s := by
  unfold tryCompare
  have sub : Looks (model prog w) s.heap (isInstance (.ref x) (.type "object")) true := I.type.andThen (looks_mroIn X hm)
  have run : wpAny (model prog w) A (call (.builtin "object.__ne__") [.ref x, .ref y]) (fun v s' => ∃ b, v = .bool (!b) ∧ Q (some (.bool (!b))) s') E s := by
    refine wpAny_call (codeAny_call_builtin F.cmp_object.ne.plain F.cmpEntry_ne (check_slot F.cmpKind_ne F.cmpSplit_ne sub (F.cmpArgs_ne _ _) ?_))
    refine ne_entry (A := A.in1) X I hu hs hf (wpAny_mono hcall (fun v s' hv => ?_) fun _ _ e => e)
    obtain ⟨b, rfl, hq⟩ := hv
    exact ⟨b, rfl, b, rfl, hq⟩
  refine wpAny_bind ?_
  simp only [callSpecialIfBound?, bindSpecialIfBound?]
  refine wpAny_holding (wpAny_bind (wpAny_bind (wpAny_bind (I.type.here ((looks_findIn X hn).here ?_)))))
  simp only [ne_bind]
  refine wpAny_bind (wpAny_askSetting (wpAny_ite ?_))
  have fin : wpAny (model prog w) A (call (.builtin "object.__ne__") ([.ref x] ++ [.ref y]) >>= fun v => pure (some v)) (fun r s' => wpAny (model prog w) A (match r with
      | some .notImplemented => pure none
      | none => pure none
      | some v => pure (some v)) Q E s') E s := wpAny_bind (wpAny_mono run (fun v s' h' => by
    obtain ⟨b, rfl, hq⟩ := h'
    exact wpAny_pure (wpAny_pure hq)) fun _ _ h' => h')
  split
  · exact wpAny_bind (wpAny_pure (wpAny_pure fin))
  · exact wpAny_tryCatch (wpAny_bind (wpAny_pure (wpAny_pure fin)))
theorem ne_K (hu : A.units + 1 < cLine) (X : K.In s.heap) (I : InstAt s.heap x ox C od) (I' : InstAt s.heap y oy C oe) (hs : findIn K (.ref C) "__eq__" = some (some (.ref f))) (hf : isFn K (.ref f) = true) (hn : findIn K (.ref C) "__ne__" = some (some (.builtin "object.__ne__")))
    (hm : mroIn K C (.type "object") = some true) {Q : Value → Shared → Prop}
    (hcall : wpAny (model prog w) A.in1 (call (.ref f) [.ref x, .ref y]) (fun v s' => ∃ b, v = .bool b ∧ Q (.bool (!b)) s') E s) : wpAny (model prog w) A (compareOp .NotEq (.ref x) (.ref y)) Q E s := by
  show wpAny _ _ (richCompare .NotEq (.ref x) (.ref y)) _ _ _
  unfold richCompare
  simp only [oneThing_ref]
  refine wpAny_holding (wpAny_bind (wpAny_cRoomFor (Nat.lt_of_succ_lt hu) ?_))
  rw [cmpInfo_NotEq]
  dsimp only
  refine wpAny_bind (I.type.here (wpAny_bind (I'.type.here ?_)))
  rw [show (Value.ref C != Value.ref C) = false from by simp]
  simp only [Bool.false_eq_true, if_false]
  refine wpAny_bind (wpAny_pure ?_)
  simp only [Bool.false_eq_true, if_false]
  refine wpAny_bind (ne_try X I hu hs hf hn hm (wpAny_mono hcall (fun v s' hv => ?_) fun _ _ e => e))
  obtain ⟨b, rfl, hq⟩ := hv
  exact ⟨b, rfl, wpAny_pure hq⟩
end
end PySem.W
set_option maxHeartbeats 4000000
/-! Eo6: == and != of instances, in the small language. -/
namespace En
open PySem PySem.Spec PyProof.Rows L2
/-- a class with its own __eq__ at f -/
structure OEqC (K : PySem.W.Frag) (C f : Addr) : Prop where
  eq : PySem.W.findIn K (.ref C) "__eq__" = some (some (.ref f))
  fn : PySem.W.isFn K (.ref f) = true
  ne : PySem.W.findIn K (.ref C) "__ne__" = some (some (.builtin "object.__ne__"))
  mr : PySem.W.mroIn K C (.type "object") = some true
def bneA (neg : Bool) : Rv → Ac Rv
  | .val (.bl b) => Ac.ret (.val (.bl (b != neg)))
  | _ => Ac.stk
def oeqA (neg : Bool) (ma mb : Ac Rv) (disp : Nat → Option (List Dat → List Mob → Cou)) : Ac Rv := ma.bind fun x => mb.bind fun y => match x, y with
  | .val d, .val e => (lookA (.val d)).bind fun w => (lookA (.val e)).bind fun w' => match w.inst, w'.inst with
    | some (c, _), some (c', _) => if c = c' then (match disp c with
      | some call => (noX (couA call [d, e])).bind (bneA neg)
      | none => Ac.stk) else Ac.stk
    | _, _ => Ac.stk
  | _, _ => Ac.stk
section
variable {W : Wd} {wx : WX} {X : Cx} {k : Nat}
def OeqOk (W : Wd) (X : Cx) (k : Nat) (disp : Nat → Option (List Dat → List Mob → Cou)) : Prop := ∀ c call, disp c = some call → ∃ f fd ps, OEqC X.K (W.ca c) f ∧ FnG X.prog X.w X.K X.mg X.base k f fd ps (spF W 2 call) ∧ ps.length = 2 ∧ ∀ (s : Shared) (u v : Value), X.K.In s.heap → BindsTo s fd ⟨[u, v], []⟩ (ps.zip [u, v])
theorem oeq_run {neg : Bool} {pins : List (Addr × Obj)} {σ : L2.St} {H : Hp} {s : Shared} {Q : VK} {C f a b dx dy : Addr} {fs gs : List (Str × V)} {fd : FuncData} {ps : List Str} {sp : Sp} (I : L2.Inv X pins σ H s) (ea : H a = some (.ins C dx fs)) (eb : H b = some (.ins C dy gs)) (o : OEqC X.K C f)
    (F : FnG X.prog X.w X.K X.mg X.base k f fd ps sp) (hr : RoomG (k + 1) X.A) (hb : BindsTo s fd ⟨[.ref a, .ref b], []⟩ (ps.zip [.ref a, .ref b]))
    (h : sp [.ref a, .ref b] H (fun v H' => ∃ r, v = .bl r ∧ Q (.bl (r != neg)) H') fun _ _ _ => False) :
    wpAny (model X.prog X.w) X.A (compareOp (if neg then .NotEq else .Eq) (.ref a) (.ref b)) (EP X pins σ Q) X.xe s := by
  obtain ⟨mA, J, _⟩ := ins_get I.hok ea
  obtain ⟨mB, J', _⟩ := ins_get I.hok eb
  obtain ⟨od, J, _⟩ := J.look
  obtain ⟨oe, J', _⟩ := J'.look
  obtain ⟨m, hF⟩ := I.fr
  have rv : Vals [V.ref a, V.ref b] [Value.ref a, Value.ref b] := .cons rfl (.cons rfl .nil)
  cases neg with
  | true =>
    refine PySem.W.ne_K (by have := hr.room.units; omega) I.kIn J J' o.eq o.fn o.ne o.mr ?_
    have hri : RoomG k X.A.in1 := ⟨hr.room.in1, hr.gd⟩
    refine wpAny_call (codeAny_mono (F.run X.A.in1 X.stack s H ⟨[.ref a, .ref b], []⟩ [.ref a, .ref b] [.ref a, .ref b] _ _ hri I.env0.in1 hb rv h) fun r s' hq => ?_)
    cases r with
    | error er =>
      obtain ⟨_, _, _, _, _, _, _, _, _, _, _, _, w⟩ := hq
      exact w.elim
    | ok fl =>
      cases fl with
      | ret u =>
        obtain ⟨v, H', I3, rw', r, ev, q3⟩ := I.after hq
        subst ev
        obtain rfl : u = Value.bool r := rw'
        refine ⟨r, rfl, .bl (!r), H', I3, rfl, ?_⟩
        have e : (r != true) = !r := by cases r <;> rfl
        rw [← e]
        exact q3
      | next => exact False.elim hq
      | brk => exact False.elim hq
      | cont => exact False.elim hq
  | false =>
    show wpAny _ _ (richCompare .Eq (.ref a) (.ref b)) _ _ _
    refine PySem.W.cmp_K (op := .Eq) (tb := .ref C) (by have := hr.room.units; omega) hF I.ok.mod.kin J J'.type (by simp [PySem.W.notFirst]) o.eq o.fn ?_
    refine wpAny_call (codeAny_mono (F.run X.A X.stack s H ⟨[.ref a, .ref b], []⟩ [.ref a, .ref b] [.ref a, .ref b] _ _ (hr.mono (Nat.le_succ k)) I.env0 hb rv h) fun r s' hq => ?_)
    cases r with
    | error er =>
      obtain ⟨_, _, _, _, _, _, _, _, _, _, _, _, w⟩ := hq
      exact w.elim
    | ok fl =>
      cases fl with
      | ret u =>
        obtain ⟨v, H', I3, rw', r, ev, q3⟩ := I.after hq
        subst ev
        obtain rfl : u = Value.bool r := rw'
        have e : (r != false) = r := by cases r <;> rfl
        rw [e] at q3
        exact ⟨.bl r, H', I3, rfl, q3⟩
      | next => exact False.elim hq
      | brk => exact False.elim hq
      | cont => exact False.elim hq
/-- the operation by values -/
def rOeq (W : Wd) (wx : WX) (neg : Bool) (disp : Nat → Option (List Dat → List Mob → Cou)) : R2 := fun v u H Q => ∃ g P s σ d e c fs gs w w' call, Rel W g P s σ H ∧ R W g d v ∧ R W g e u ∧ Vw.of s d = some w ∧ w.inst = some (c, fs) ∧ Vw.of s e = some w' ∧ w'.inst = some (c, gs) ∧ disp c = some call ∧
  Post W wx0 g P σ (couA call [d, e] s) fun x s' g' H' => Post W wx g' P σ (bneA neg x s') fun y s2 g2 H2 => ∀ v, RvR W g2 P s2 σ H2 y v → Q v H2
theorem op_oeq {neg : Bool} {disp : Nat → Option (List Dat → List Mob → Cou)} (ok : OeqOk W X k disp) (hr : RoomG (k + 1) X.A) : OpR X (compareOp (if neg then .NotEq else .Eq)) (rOeq W wx neg disp) := by
  intro pins s σ H x y v u Q I rx ry h
  obtain ⟨g, P, st, σ', d, e, c, fs, gs, w, w', call, r, rd, re, e1, e2, e3, e4, e5, q⟩ := h
  obtain ⟨f, fd, ps, o, F, hl, hb⟩ := ok c call e5
  obtain ⟨a, dx, fv, rfl, k1, k2⟩ := (Vw.of_ok r rd e1).inst r e2
  obtain ⟨b, dy, gv, rfl, k3, k4⟩ := (Vw.of_ok r re e3).inst r e4
  obtain rfl : v = Value.ref a := rx
  obtain rfl : u = Value.ref b := ry
  refine oeq_run I k1 k3 o F hr (hb _ _ _ I.kIn) (couA_ok (wx := wx0) (σ := σ') (np := 2) r (.cons rd (.cons re .nil)) rfl ?_)
  refine q.mono fun x s1 g1 H1 l1 r1 q1 v hv => ?_
  cases x with
  | own o => exact q1.elim
  | bor i => exact q1.elim
  | val d =>
    cases d <;> first | exact q1.elim | skip
    rename_i bb
    cases hv
    exact ⟨bb, rfl, q1 g1 H1 (.refl g1) r1 _ (R.bl _)⟩
theorem se_oeq {neg : Bool} {a b : Expr} {ma mb : Ac Rv} {pos : Pos} {disp : Nat → Option (List Dat → List Mob → Cou)} (ok : OeqOk W X k disp) (hr : RoomG (k + 1) X.A) (pa : SE W wx X ma a) (pb : SE W wx X mb b) (hm : behindInMarks (if neg then .NotEq else .Eq) b = false) :
    SE W wx X (oeqA neg ma mb disp) (.Compare a [if neg then .NotEq else .Eq] [b] pos) := peImp (pe_cmpR (op_oeq (W := W) (wx := wx) (neg := neg) ok hr) pa pb hm) fun σ H Q hh => by
  obtain ⟨g, P, s, r, q⟩ := hh
  refine ⟨g, P, s, r, (Post.bindE q).mono fun x s1 g1 H1 l1 r1 q1 v hv => ?_⟩
  cases x with
  | own o => exact ⟨g1, P, s1, r1, (Post.bindE q1).mono fun y s2 g2 H2 l2 r2 q2 u hu => q2.elim⟩
  | bor i => exact ⟨g1, P, s1, r1, (Post.bindE q1).mono fun y s2 g2 H2 l2 r2 q2 u hu => q2.elim⟩
  | val d =>
    refine ⟨g1, P, s1, r1, (Post.bindE q1).mono fun y s2 g2 H2 l2 r2 q2 u hu => ?_⟩
    cases y with
    | own o => exact q2.elim
    | bor i => exact q2.elim
    | val e =>
      obtain ⟨w, e1, q3⟩ := Post.lookE q2
      obtain ⟨w', e2, q4⟩ := Post.lookE q3
      cases e3 : w.inst with
      | none =>
        rw [e3] at q4
        exact q4.elim
      | some p =>
        obtain ⟨c, fs⟩ := p
        cases e4 : w'.inst with
        | none =>
          rw [e3, e4] at q4
          exact q4.elim
        | some p' =>
          obtain ⟨c', gs⟩ := p'
          simp only [e3, e4] at q4
          by_cases hc : c = c'
          · subst hc
            rw [if_pos rfl] at q4
            cases e5 : disp c with
            | none =>
              simp only [e5] at q4
              exact q4.elim
            | some call =>
              simp only [e5] at q4
              exact ⟨g2, P, s2, σ, d, e, c, fs, gs, w, w', call, r2, R.mono l2 hv, hu, e1, e3, e2, e4, e5, Post.noX (wx' := wx0) (Post.bindE q4)⟩
          · rw [if_neg hc] at q4
            exact q4.elim
end
end En
set_option maxHeartbeats 4000000
/-! Eq1: f-strings; int of a text; o.f += e. -/
namespace En
open PySem PySem.Spec PyProof.Rows L2
/-- {x}, x a text or a number -/
def fmtA (m : Ac Rv) : Ac Rv := m.bind fun x => (lookA x).bind fun w => match w with
  | .dt (.str y) => if y.length ≤ sizeLine then Ac.ret (.val (.str y)) else Ac.stk
  | .dt (.int i) => if i.natAbs.log2 < 1920 then Ac.ret (.val (.str (toString i))) else Ac.stk
  | _ => Ac.stk
def jnA {ε : Type} (f : ε → Ac Rv) : List ε → Str → Ac Rv
  | [], acc => Ac.ret (.val (.str acc))
  | e :: es, acc => (f e).bind fun x => match x with
    | .val (.str y) => if (acc ++ y).length ≤ sizeLine then jnA f es (acc ++ y) else Ac.stk
    | _ => Ac.stk
section
variable {W : Wd} {wx : WX} {X : Cx}
theorem se_fmt {e : Expr} {m : Ac Rv} {pos : Pos} (h : SE W wx X m e) : SE W wx X (fmtA m) (.FormattedValue e (-1) none pos) := peImp (pe_fmt h) fun σ H Q hh => by
  obtain ⟨g, P, s, r, q⟩ := hh
  refine ⟨g, P, s, r, (Post.bindE q).mono fun y s1 g1 H1 l1 r1 q1 v hv => ?_⟩
  obtain ⟨w, e1, q2⟩ := Post.lookE q1
  cases w with
  | mb o => exact q2.elim
  | dt d' =>
    have hq := look_ok r1 hv e1
    cases d' <;> first | exact q2.elim | skip
    · rename_i i
      cases hq
      by_cases hc : i.natAbs.log2 < 1920
      · have q3 : Post W wx g1 P σ ((if i.natAbs.log2 < 1920 then Ac.ret (Rv.val (.str (toString i))) else Ac.stk) s1) _ := q2
        rw [if_pos hc] at q3
        exact .inr ⟨i, rfl, hc, q3 g1 H1 (.refl g1) r1 _ (.str _)⟩
      · have q3 : Post W wx g1 P σ ((if i.natAbs.log2 < 1920 then Ac.ret (Rv.val (.str (toString i))) else Ac.stk) s1) _ := q2
        rw [if_neg hc] at q3
        exact q3.elim
    · rename_i z
      cases hq
      by_cases hc : z.length ≤ sizeLine
      · have q3 : Post W wx g1 P σ ((if z.length ≤ sizeLine then Ac.ret (Rv.val (.str z)) else Ac.stk) s1) _ := q2
        rw [if_pos hc] at q3
        exact .inl ⟨z, rfl, hc, q3 g1 H1 (.refl g1) r1 _ (.str _)⟩
      · have q3 : Post W wx g1 P σ ((if z.length ≤ sizeLine then Ac.ret (Rv.val (.str z)) else Ac.stk) s1) _ := q2
        rw [if_neg hc] at q3
        exact q3.elim
theorem jn_imp {ε : Type} {f : ε → Ac Rv} {σ : L2.St} {Q : VK} : ∀ (irs : List ε) (acc : Str) (H : Hp), tX W wx rvK (jnA f irs acc) σ H Q → tJs (irs.map fun e => tX W wx rvK (f e)) acc σ H fun out H1 => Q (.str out) H1
  | [], acc, H, h => by
    obtain ⟨g, P, s, r, q⟩ := h
    exact q g H (.refl g) r _ (.str acc)
  | e :: es, acc, H, h => by
    obtain ⟨g, P, s, r, q⟩ := h
    refine ⟨g, P, s, r, (Post.bindE q).mono fun y s1 g1 H1 l1 r1 q1 v hv => ?_⟩
    cases y with
    | own _ => exact q1.elim
    | bor _ => exact q1.elim
    | val d =>
      cases d <;> first | exact q1.elim | skip
      rename_i z
      cases hv
      have q2 : Post W wx g1 P σ ((if (acc ++ z).length ≤ sizeLine then jnA f es (acc ++ z) else Ac.stk) s1) _ := q1
      by_cases hc : (acc ++ z).length ≤ sizeLine
      · rw [if_pos hc] at q2
        exact ⟨z, rfl, hc, jn_imp es (acc ++ z) H1 ⟨g1, P, s1, r1, q2⟩⟩
      · rw [if_neg hc] at q2
        exact q2.elim
theorem se_jn {ε : Type} {f : ε → Ac Rv} {v1 v2 : Expr} {rest : List Expr} {irs : List ε} {pos : Pos} (h : PJ X (v1 :: v2 :: rest) (irs.map fun e => tX W wx rvK (f e))) : SE W wx X (jnA f irs Str.empty) (.JoinedStr (v1 :: v2 :: rest) pos) :=
  peImp (pe_joined h) fun σ H Q hh => jn_imp irs _ H hh
theorem se_jn1 {e : Expr} {m : Ac Rv} {pos : Pos} (h : SE W wx X m e) : SE W wx X m (.JoinedStr [e] pos) := pe_joined1 h
/-! ### int of a text -/
def intTA (m : Ac Rv) : Ac Rv := m.bind fun x => (lookA x).bind fun w => match w with
  | .dt (.str a) => if a.length ≤ 640 then Ac.opt ((PySem.intText? a).map fun n => Rv.val (.int n)) else Ac.stk
  | _ => Ac.stk
theorem se_intT {e : Expr} {m : Ac Rv} {x : Str} {p pos : Pos} (hg : Gl X x) (hm : X.mg x = none) (hv : bootBuiltins x = some (.type "int")) (pa : SE W wx X m e) (hn : x ≠ "__name__") (hdb : (x == ("__debug__" : Str)) = false)
    (he : starEach [e] X.env = (false, eval e X.env) :: starEach [] X.env) (hpl : (backTo pos (starEach [] X.env)).any (·.1) = false) : SE W wx X (intTA m) (.Call (.Name x p) [e] [] pos) :=
  peImp (pe_callTy call_int_str hg hm hv (pa_cons pa pa_nil he) hn hdb he hpl) fun σ H Q hh => by
    obtain ⟨g, P, s, r, q⟩ := hh
    refine ⟨g, P, s, r, (Post.bindE q).mono fun y s1 g1 H1 l1 r1 q1 v hv => ?_⟩
    obtain ⟨w, e1, q2⟩ := Post.lookE q1
    cases w with
    | mb o => exact q2.elim
    | dt d' =>
      have hq := look_ok r1 hv e1
      cases d' <;> first | exact q2.elim | skip
      rename_i z
      cases hq
      have q3 : Post W wx g1 P σ ((if z.length ≤ 640 then Ac.opt ((PySem.intText? z).map fun n => Rv.val (.int n)) else Ac.stk) s1) _ := q2
      by_cases hc : z.length ≤ 640
      · rw [if_pos hc] at q3
        obtain ⟨n, e2, q4⟩ := Post.optE q3
        obtain ⟨k, e3, rfl⟩ := Option.map_eq_some_iff.mp e2
        exact ⟨z, k, rfl, e3, hc, q4 g1 H1 (.refl g1) r1 _ (.int _)⟩
      · rw [if_neg hc] at q3
        exact q3.elim
/-! ### o.f += e -/
variable {flds : Nat → Str → Bool}
def fauP (c : Nat) (f : Str) (d : Dat) (o : Rv) : Ac Flw := (lookA o).bind fun w => match w with
  | .mb (.ins c' fs) => if decide (c' = c) && decide (fs.length < 1000) then (setMob o (.ins c (putFd f d fs))).bind fun _ => nxA else Ac.stk
  | _ => Ac.stk
def fauA (flds : Nat → Str → Bool) (f : Str) (op : Int → Int → Int) (mo m : Ac Rv) : Ac Flw := mo.bind fun o => match o with
  | .val d => (lookA (.val d)).bind fun w => match w with
    | .mb (.ins c fs) => if flds c f then (match fs.lookup f with
      | some (.int a) => m.bind fun y => (lookA y).bind fun w2 => (match w2 with
        | .dt (.int b) => fauP c f (.int (op a b)) (.val d)
        | _ => Ac.stk)
      | _ => Ac.stk) else Ac.stk
    | _ => Ac.stk
  | _ => Ac.stk
theorem fauP_ok {g : Gh} {P : Hp} {s : Stt} {σ : L2.St} {H : Hp} {c : Nat} {f : Str} {d : Dat} {v ov : V} {o : Rv} {D : Ends} (r : Rel W g P s σ H) (qo : RvR W g P s σ H o ov) (qd : R W g d v) (h : PostS W wx g P (fauP c f d o s) D) :
    ∃ a dx fs, ov = .ref a ∧ H a = some (.ins (W.ca c) dx fs) ∧ fs.length < 1000 ∧ D.nx σ (upd H a (.ins (W.ca c) dx (putF f v fs))) := by
  unfold fauP Ac.bind lookA at h
  cases e : look s o with
  | none =>
    simp only [e] at h
    exact h.elim
  | some w =>
    simp only [e, Out.bind] at h
    cases w with
    | dt _ => exact h.elim
    | mb m =>
      cases m with
      | lst _ => exact h.elim
      | dct _ => exact h.elim
      | ins c' fs =>
        have h : PostS W wx g P ((if decide (c' = c) && decide (fs.length < 1000) then (setMob o (.ins c (putFd f d fs))).bind fun _ => nxA else Ac.stk) s) D := h
        by_cases hc : (decide (c' = c) && decide (fs.length < 1000)) = true
        · rw [if_pos hc] at h
          simp only [Bool.and_eq_true, decide_eq_true_eq] at hc
          obtain ⟨rfl, hl⟩ := hc
          rcases setMob_ok (o' := .ins c' (putFd f d fs)) r qo e with ⟨s', e3, a, ho, rfl, k2, k3, k4⟩ | e3
          · unfold Ac.bind at h
            rw [e3] at h
            cases ho <;> first | exact False.elim k3 | skip
            obtain ⟨rfl, k5⟩ := k3
            refine ⟨a, _, _, rfl, k2, by rw [← k5.length]; exact hl, ?_⟩
            exact h g σ _ (.refl g) (k4 (.ins _ _ _) ⟨rfl, k5.put qd⟩)
          · unfold Ac.bind at h
            rw [e3] at h
            exact h.elim
        · rw [if_neg hc] at h
          exact h.elim
theorem fau_imp {f : Str} {op : Int → Int → Int} {mo m : Ac Rv} {D : Ends} {σ : L2.St} {H : Hp} (hK : X.K = W.K) (ok : FldOk W flds) (h : tS W wx (fauA flds f op mo m) D σ H) :
    sFldAug X.K (tX W wx rvK mo) (tX W wx rvK m) (fun x y H Q => ∃ i j, x = .int i ∧ y = .int j ∧ Q (.int (op i j)) H) f D σ H := by
  obtain ⟨g, P, s, r, q⟩ := h
  refine ⟨g, P, s, r, (PostS.bindE q).mono fun o s1 g1 H1 l1 r1 q1 v hv => ?_⟩
  cases o with
  | own _ => exact q1.elim
  | bor _ => exact q1.elim
  | val d =>
    obtain ⟨w, e1, q2⟩ := PostS.lookE q1
    cases w with
    | dt _ => exact q2.elim
    | mb mm =>
      cases mm with
      | lst _ => exact q2.elim
      | dct _ => exact q2.elim
      | ins c fs =>
        have q3 : PostS W wx g1 P ((if flds c f then (match fs.lookup f with
          | some (.int a) => m.bind fun y => (lookA y).bind fun w2 => (match w2 with
            | .dt (.int b) => fauP c f (.int (op a b)) (.val d)
            | _ => Ac.stk)
          | _ => Ac.stk) else Ac.stk) s1) D := q2
        by_cases hf : flds c f = true
        · rw [if_pos hf] at q3
          obtain ⟨c1, c2⟩ := ok c f hf
          have hv1 : RvR W g1 P s1 σ H1 (.val d) v := hv
          obtain ⟨a, dx, fv, rfl, k1, k2⟩ := (look_ok r1 hv1 e1).inst (c := c) (fs := fs) r1 rfl
          cases e2 : fs.lookup f with
          | none =>
            simp only [e2] at q3
            exact q3.elim
          | some z =>
            cases z <;> first | (simp only [e2] at q3; exact q3.elim) | skip
            rename_i i
            simp only [e2] at q3
            obtain ⟨u, u1, u2⟩ := k2.lookup e2
            cases u2
            rw [hK]
            refine ⟨a, _, dx, fv, _, rfl, k1, c1, c2, u1, g1, P, s1, r1, (PostS.bindE q3).mono fun y s2 g2 H2 l2 r2 q4 uy hy => ?_⟩
            obtain ⟨w2, e3, q5⟩ := PostS.lookE q4
            cases w2 with
            | mb _ => exact q5.elim
            | dt d2 =>
              have hq := look_ok r2 hy e3
              cases d2 <;> first | exact q5.elim | skip
              rename_i j
              cases hq
              have hv' : R W g2 d (.ref a) := R.mono l2 hv1
              obtain ⟨a', dx', fs', ea, k3, k4, k5⟩ := fauP_ok r2 (o := .val d) hv' (.int (op i j)) q5
              cases ea
              exact ⟨i, j, rfl, rfl, dx', fs', k3, k4, k5⟩
        · rw [if_neg hf] at q3
          exact q3.elim
theorem ss_fau {o e : Expr} {f : Str} {mo m : Ac Rv} {op : BOp} {tpos pos : Pos} (hK : X.K = W.K) (ok : FldOk W flds) (hop : op = .add ∨ op = .sub) (po : SE W wx X mo o) (pe : SE W wx X m e) :
    SS W wx X (fauA flds f (fun i j => if op = .add then i + j else i - j) mo m) (.AugAssign (.Attribute o f tpos) op.py e pos) := by
  rcases hop with rfl | rfl
  · exact psImp (ps_fldaug po pe in_add) fun D σ H h => fau_imp hK ok h
  · exact psImp (ps_fldaug po pe in_sub) fun D σ H h => fau_imp hK ok h
end
end En
set_option maxHeartbeats 4000000
/-! Eq2: dict of a tuple of pairs. -/
namespace En
open PySem PySem.Spec PyProof.Rows L2
def pairsD : List Dat → Option (List (Key × Dat))
  | [] => some []
  | .tup [k, v] :: r => (match kyD k, pairsD r with
    | some ky, some kvs => some ((ky, v) :: kvs)
    | _, _ => none)
  | _ => none
def dctA (m : Ac Rv) : Ac Rv := m.bind fun x => (lookA x).bind fun w => match w with
  | .dt (.tup xs) => Ac.opt ((pairsD xs).map fun kvs => Rv.own (.dct (mergeD [] kvs)))
  | _ => Ac.stk
section
variable {X : Cx} {pins : List (Addr × Obj)} {σ : L2.St} {H : Hp} {s : Shared}
theorem sqZ_plain {a : Addr} {xs : List V} (I : L2.Inv X pins σ H s) (h : SqZ X.K H a xs) : ∃ its : List Value, Vals xs its ∧ PySem.PlainSeq "tuple" s.heap a its.toArray ∧ xs.length ≤ sizeLine := by
  rcases h with ⟨o, h, hd⟩ | ⟨o, its, n, hk, hc, hd, hs, hz, r⟩
  · obtain ⟨e, z, its, r, o', e', hc, n, hs⟩ := I.hok a _ h
    rw [e] at e'
    cases e'
    exact ⟨its, r, ⟨o, n, e, hc, hd, hs⟩, z⟩
  · refine ⟨its.toList, r, ⟨o, n, I.kIn a o hk, hc, hd, by simpa using hs⟩, ?_⟩
    rw [r.length]
    simpa using hz
theorem prs_of (I : L2.Inv X pins σ H s) : ∀ {ps : List Addr} {kvs : List (Key × V)}, Paired (fun p kv => SqT X.K H p [kV kv.1, kv.2]) ps kvs →
    ∃ qs : List (Key × Value × Value), KV kvs (qs.map fun q => (q.1, q.2.2)) ∧ qs.length = ps.length ∧ ∀ (j : Nat) (q : Key × Value × Value), qs[j]? = some q → ∃ b, ps[j]? = some b ∧ IsTup s.heap b #[q.2.1, q.2.2] ∧ keyIs q.1 q.2.1 = true
  | _, _, .nil => ⟨[], .nil, rfl, fun j q e => by simp at e⟩
  | _, _, .cons (a := p) (b := kv) h t => by
    obtain ⟨qs, r, hl, hp⟩ := prs_of I t
    obtain ⟨its, rv, ht, _⟩ := I.tuple h
    obtain ⟨u, y, rfl, ru, ry⟩ := vals2 rv
    refine ⟨(kv.1, u, y) :: qs, .cons ⟨rfl, ry⟩ r, by rw [List.length_cons, List.length_cons, hl], fun j q e => ?_⟩
    cases j with
    | zero =>
      cases e
      exact ⟨p, rfl, ht, kV_is (P := X.prog) (w := X.w) ru⟩
    | succ j => exact hp j q (by simpa using e)
def rDct (K : PySem.W.Frag) : List V → Hp → VK → Prop := fun xs H Q => ∃ (a : Addr) (ps : List Addr) (kvs : List (Key × V)), xs = [.ref a] ∧ SqZ K H a (ps.map V.ref) ∧ Paired (fun p kv => SqT K H p [kV kv.1, kv.2]) ps kvs ∧
    ∀ p, H p = none → Q (.ref p) (upd H p (.dK (mergeK [] kvs)))
theorem call_dctZ (hcalm : X.calm = true) : CallR X (.type "dict") (rDct X.K) := by
  rintro pins s σ H xs us Q I r ⟨a, ps, kvs, rfl, hq, hp, q⟩
  obtain ⟨u, rfl, rx⟩ := vals1 r
  cases rx
  obtain ⟨its, rv, pl, hz⟩ := sqZ_plain I hq
  have ei := refs_at rv
  subst ei
  rw [List.length_map] at hz
  obtain ⟨qs, rel, hl, hpr⟩ := prs_of I hp
  have ok : PySem.PlainSeq "tuple" s.heap a (ps.map Value.ref).toArray ∧ PySem.PairItems s.heap (ps.map Value.ref).toArray (fun j => ps.getD j 0) (qs.map (·.2)) := by
    refine ⟨pl, by simp [hl], fun j k v e => ?_⟩
    obtain ⟨q0, e1, e2⟩ := List.getElem?_map .. ▸ e |> fun (z : (qs[j]?).map (·.2) = some (k, v)) => Option.map_eq_some_iff.mp z
    obtain ⟨b, h1, h2, h3⟩ := hpr j q0 e1
    cases q0 with
    | mk k0 q1 =>
      cases e2
      refine ⟨by simp [h1], .inl ?_⟩
      show s.heap.IsTuple (ps.getD j 0) #[_, _]
      rw [List.getD_eq_getElem?_getD, h1]
      exact h2
  have hv : PySem.PairsHave (mixKind X.prog X.w) (qs.map (·.2)).length (PySem.PairRel (qs.map (·.2))) (qs.map fun q => (q.1, q.2.2)) := by
    refine ⟨by simp, fun i key v e => ?_⟩
    have e : (qs.map (·.2))[i]? = some (key, v) := e
    rw [List.getElem?_map] at e
    obtain ⟨q0, e1, e2⟩ := Option.map_eq_some_iff.mp e
    obtain ⟨b, h1, h2, h3⟩ := hpr i q0 e1
    cases q0 with
    | mk k0 q1 =>
      cases e2
      exact ⟨k0, by rw [List.getElem?_map, e1]; rfl, h3⟩
  refine PySem.call_dict_pairs (PySem.PairArg.tuple a (ps.map Value.ref).toArray (fun j => ps.getD j 0) (qs.map (·.2))) (I.ok.hd hcalm) ok hv (by simp [hl, hz]) fun h' tk hd' k => ?_
  have hm : (s.heap.objs.size == sysModules) = false := beq_eq_false_iff_ne.mpr (Nat.ne_of_gt I.big)
  have hlen : (mergeK [] kvs).length ≤ sizeLine := by
    refine Nat.le_trans (length_mergeK kvs []) ?_
    rw [List.length_nil, Nat.zero_add, rel.length, List.length_map, hl]
    exact hz
  exact ⟨.ref s.heap.objs.size, upd H s.heap.objs.size (.dK (mergeK [] kvs)), I.laid (t' := tk) (fun b o e => k b o (by simp) e) (Nat.le_refl _) (show ObjOk X.prog X.w _ _ _ (.dK (mergeK [] kvs)) from ⟨hlen, hm, merged [] (qs.map fun q => (q.1, q.2.2)), KV.merge rel .nil, hd'⟩), rfl, q _ (I.hok.fresh (Nat.le_refl _))⟩
end
section
variable {W : Wd} {wx : WX} {X : Cx} {g : Gh} {P : Hp} {s : Stt} {σ : L2.St} {H : Hp}
theorem pairsD_ok (r : Rel W g P s σ H) : ∀ {xs : List Dat} {vs : List V} {kvs : List (Key × Dat)}, Rs W g xs vs → pairsD xs = some kvs → ∃ (ps : List Addr) (ks : List (Key × V)), vs = ps.map V.ref ∧ Rk W g kvs ks ∧ Paired (fun p kv => SqT W.K H p [kV kv.1, kv.2]) ps ks
  | _, _, _, .nil, e => by
    cases e
    exact ⟨[], [], rfl, .nil, .nil⟩
  | d :: ds, _, kvs, .cons h1 h2, e => by
    cases d <;> first | cases e | skip
    rename_i ys
    match ys, e with
    | [k, v], e =>
      have e' : (match kyD k, pairsD ds with
        | some ky, some kvs => some ((ky, v) :: kvs)
        | _, _ => none) = some kvs := e
      cases e1 : kyD k with
      | none => simp [e1] at e'
      | some ky =>
        cases e2 : pairsD ds with
        | none => simp [e1, e2] at e'
        | some kv2 =>
          simp only [e1, e2] at e'
          cases e'
          obtain ⟨ps, ks, rfl, k1, k2⟩ := pairsD_ok r h2 e2
          obtain ⟨a, us, rfl, f1, f2⟩ := R.tupH r h1
          obtain ⟨u1, u2, rfl, g1, g2⟩ := Rs.two f2
          obtain rfl := kyD_ok e1 g1
          exact ⟨a :: ps, (ky, u2) :: ks, rfl, .cons g2 k1, .cons f1 k2⟩
theorem se_dct {e : Expr} {m : Ac Rv} {x : Str} {p pos : Pos} (hK : X.K = W.K) (hc : X.calm = true) (hg : Gl X x) (hm : X.mg x = none) (hv : bootBuiltins x = some (.type "dict")) (pa : SE W wx X m e) (hn : x ≠ "__name__") (hdb : (x == ("__debug__" : Str)) = false)
    (he : starEach [e] X.env = (false, eval e X.env) :: starEach [] X.env) (hpl : (backTo pos (starEach [] X.env)).any (·.1) = false) : SE W wx X (dctA m) (.Call (.Name x p) [e] [] pos) :=
  peImp (pe_callTy (call_dctZ hc) hg hm hv (pa_cons pa pa_nil he) hn hdb he hpl) fun σ H Q hh => by
    obtain ⟨g, P, s, r, q⟩ := hh
    refine ⟨g, P, s, r, (Post.bindE q).mono fun y s1 g1 H1 l1 r1 q1 v hv => ?_⟩
    obtain ⟨w, e1, q2⟩ := Post.lookE q1
    cases w with
    | mb o => exact q2.elim
    | dt d' =>
      have hq := look_ok r1 hv e1
      cases d' <;> first | exact q2.elim | skip
      rename_i xs
      obtain ⟨n, e2, q3⟩ := Post.optE q2
      obtain ⟨kvs, e3, rfl⟩ := Option.map_eq_some_iff.mp e2
      cases hq with
      | tup z1 z2 =>
        obtain ⟨ps, ks, rfl, k1, k2⟩ := pairsD_ok r1 z2 e3
        refine ⟨_, ps, ks, rfl, by rw [hK]; exact sqZ_mono r1.fz z1, by rw [hK]; exact k2, fun p hp => ?_⟩
        obtain ⟨n1, n2⟩ := r1.newOwn (o := .dct (mergeD [] kvs)) (ho := .dK (mergeK [] ks)) hp (show RO W g1 (.dct _) (.dK _) from Rk.merge k1 .nil)
        exact q3 g1 _ (.refl g1) n1 _ n2
end
end En
set_option maxHeartbeats 4000000
namespace En
open PySem PySem.Spec PyProof.Rows L2
section
variable {prog : Program} {w : World} {A : Around} {E : Value → Shared → Prop} {s : Shared}
theorem putM {d : Addr} {kvs : List (Key × Value)} {k : Key} {key v : Value} {Q : Unit → Shared → Prop} (hkey : (mixKind prog w).is k key = true) (hm : s.heap.DictOf (mixKind prog w) d kvs) (hsz : kvs.length ≤ sizeLine)
    (hQ : ∀ h', h'.DictOf (mixKind prog w) d (stored kvs k v) → Heap.SameBut d s.heap h' → Q () { s with heap := h' }) : wpAny (model prog w) A (dictPut d ((mixKind prog w).hash k) key v) Q E s := by
  obtain ⟨o, es, ep, ho, hc, hd, hk, hp, hn⟩ := hm
  have hes : es.size ≤ sizeLine := by
    have e1 := hp.length
    rw [Array.length_toList] at e1
    omega
  unfold dictPut
  refine wpAny_bind (wpAny_dictFind_of hkey ho hd hk ?_)
  have hidx : (es.findIdx? fun e => (mixKind prog w).is k e.key) = kvs.findIdx? fun kv => decide (kv.1 = k) := by
    rw [← hp.findIdx k]
    obtain ⟨l⟩ := es
    simp
  cases hi : es.findIdx? fun e => (mixKind prog w).is k e.key with
  | some i =>
    refine wpAny_updateDict ho hd (hQ _ ⟨_, _, ep, Heap.get?_update_self _ ho (Obj.isFreed_of_dict (Obj.data_mapDict hd _)), hc.mapDict _, Obj.data_mapDict hd _, hk.modify _ _, ?_, ?_⟩ (Heap.SameBut.update ..))
    · rw [stored, if_pos (any_of_findIdx_some (hidx ▸ hi))]
      have hl : (es.toList.findIdx? fun e => (mixKind prog w).is k e.key) = some i := by
        rw [← hi]
        obtain ⟨l⟩ := es
        simp
      have z := hp.modify hn hl v
      obtain ⟨l⟩ := es
      simpa using z
    · rw [stored, if_pos (any_of_findIdx_some (hidx ▸ hi)), keys_map_store]
      exact hn
  | none =>
    have hnot : k ∉ kvs.map (·.1) := not_mem_of_findIdx_none (hidx ▸ hi)
    have hany : ¬ (kvs.any fun kv => decide (kv.1 = k)) = true := fun z => by
      obtain ⟨q, q1, q2⟩ := List.any_eq_true.mp z
      exact hnot (List.mem_map.mpr ⟨q, q1, of_decide_eq_true q2⟩)
    refine wpAny_updateDictKeys (hz := hes) ho hd (hQ _ ⟨_, _, ep + 1, Heap.get?_update_self _ ho (Obj.isFreed_of_dict (Obj.data_mapDictKeys hd _)), hc.mapDictKeys _, Obj.data_mapDictKeys hd _, hk.push hkey _, ?_, ?_⟩ (Heap.SameBut.update ..))
    · rw [stored, if_neg hany]
      have z := hp.append hkey ((mixKind prog w).hash k) v
      obtain ⟨l⟩ := es
      simpa using z
    · rw [stored, if_neg hany, List.map_append, List.nodup_append]
      refine ⟨hn, by simp, fun a ha b hb e => ?_⟩
      simp only [List.map_cons, List.map_nil, List.mem_singleton] at hb
      exact hnot (by rw [← hb, ← e]; exact ha)
theorem mergeM {d m : Addr} {kvs more : List (Key × Value)} {Q : Unit → Shared → Prop} (hdm : d ≠ m) (hmS : (m == sysModules) = false) (hd : s.heap.DictOf (mixKind prog w) d kvs) (ho : s.heap.DictOf (mixKind prog w) m more)
    (hsz : kvs.length + more.length ≤ sizeLine) (hQ : ∀ h', h'.DictOf (mixKind prog w) d (merged kvs more) → Heap.SameBut d s.heap h' → Q () { s with heap := h' }) : wpAny (model prog w) A (mergeMapping d (.ref m) false) Q E s := by
  obtain ⟨od, esd, epd, hod, hcd, hdd, hkd, hpd, hnd⟩ := id hd
  obtain ⟨oo, eso, epo, hoo, hco, hdo', hko, hpo, hno⟩ := id ho
  have hlen : more.length = eso.size := by rw [← hpo.length]; simp
  have loop : wpAny (model prog w) A (do
      let l ← dictEntries m
      let epoch ← dictEpoch m
      forIn (List.range l.size) PUnit.unit fun i (_ : PUnit) => (do
          let l' ← dictEntries m
          match l'[i]? with
            | some e => do
              holding [e.key, e.val] (dictPut d e.hash e.key e.val)
              let ep' ← dictEpoch m
              if (ep' != epoch) = true then do
                  (unsupported "dict.changed-during-merge" : Sem PUnit)
                  pure (ForInStep.yield PUnit.unit)
                else pure (ForInStep.yield PUnit.unit)
            | _ => do
              (unsupported "dict.changed-during-merge" : Sem PUnit)
              pure (ForInStep.yield PUnit.unit) : Sem (ForInStep PUnit))
      pure ()) Q E s := by
    refine wpAny_bind (wpAny_dictEntries hoo hdo' ?_)
    refine wpAny_bind (wpAny_dictEpoch hoo hdo' ?_)
    refine wpAny_bind ?_
    refine wpAny_forIn_list _
      (fun rest _ s' => ∃ h' i, s' = { s with heap := h' } ∧ rest = List.range' i (eso.size - i) ∧ i ≤ eso.size ∧ h'.DictOf (mixKind prog w) d (merged kvs (more.take i)) ∧ h'.get? m = some oo ∧ Heap.SameBut d s.heap h')
      _ ?_ ?_ _ _ ⟨s.heap, 0, rfl, by rw [List.range_eq_range']; rfl, Nat.zero_le _, by simpa [merged] using hd, hoo, Heap.SameBut.refl _ _⟩
    · rintro x rest b s' ⟨h', i, rfl, hr, hi, hd', hoo', hs'⟩
      have hlt : i < eso.size := by
        rcases Nat.lt_or_ge i eso.size with h | h
        · exact h
        · rw [Nat.sub_eq_zero_of_le h] at hr
          cases hr
      have hx : x = i ∧ rest = List.range' (i + 1) (eso.size - (i + 1)) := by
        have e : eso.size - i = (eso.size - (i + 1)) + 1 := by omega
        rw [e, List.range'_succ] at hr
        injection hr with h1 h2
        exact ⟨h1, h2⟩
      obtain ⟨rfl, hrest⟩ := hx
      refine wpAny_bind (wpAny_dictEntries hoo' hdo' ?_)
      rw [Array.getElem?_eq_getElem hlt]
      have hk2 : ∃ kv, more[x]? = some kv := ⟨more[x]'(by rw [hlen]; exact hlt), List.getElem?_eq_getElem _⟩
      obtain ⟨⟨k, v⟩, hkv⟩ := hk2
      obtain ⟨hkey, hval⟩ := hpo.get? (e := eso[x]) (by simp [hlt]) hkv
      obtain ⟨k', hkey', hhash⟩ := hko eso[x] (Array.getElem_mem hlt)
      obtain rfl : k' = k := (mixKind prog w).inj _ _ _ hkey' hkey
      show wpAny _ _ (holding [eso[x].key, eso[x].val] (dictPut d eso[x].hash eso[x].key eso[x].val) >>= _) _ _ _
      rw [hhash, hval]
      have hmx : (merged kvs (more.take x)).length ≤ sizeLine := by
        have e1 := merged_length_le kvs (more.take x)
        rw [List.length_take] at e1
        omega
      refine wpAny_bind (wpAny_holding (putM hkey hd' hmx fun h'' hd'' hs'' => ?_))
      have hoo'' : h''.get? m = some oo := (hs''.2 m (Ne.symm hdm)).trans hoo'
      refine wpAny_bind (wpAny_dictEpoch hoo'' hdo' ?_)
      rw [if_neg (by simp)]
      exact wpAny_pure ⟨h'', x + 1, rfl, hrest, hlt, by rw [merged_take_succ kvs more x (k', v) hkv]; exact hd'', hoo'', hs'.trans hs''⟩
    · rintro b s' ⟨h', i, rfl, hr, hi, hd', hoo', hs'⟩
      have hin : i = eso.size := by
        rcases Nat.lt_or_ge i eso.size with h | h
        · have e : eso.size - i = (eso.size - (i + 1)) + 1 := by omega
          rw [e, List.range'_succ] at hr
          cases hr
        · exact Nat.le_antisymm hi h
      refine wpAny_pure (hQ h' ?_ hs')
      rw [hin, ← hlen, List.take_length] at hd'
      exact hd'
  unfold mergeMapping
  refine wpAny_bind (wpAny_isInstance ho.typeIs isSubtype_dict_dict ?_)
  simp only [if_true]
  refine wpAny_bind (wpAny_specialOf ho.typeIs PySem.F.slot_dict_iter.lookup (wpAny_bind (wpAny_pure ?_)))
  simp only [beq_self_eq_true, hmS, Bool.false_eq_true, if_false]
  refine wpAny_bind (wpAny_dictEntries hod hdd ?_)
  split
  · refine wpAny_bind (wpAny_dictEntries hoo hdo' ?_)
    refine wpAny_bind ?_
    rw [← Array.forIn_toList]
    refine wpAny_forIn_list _ (fun rest _ s' => s' = s ∧ ∀ e ∈ rest, e ∈ eso.toList) _ ?_ ?_ _ _ ⟨rfl, fun e he => he⟩
    · rintro x rest b s' ⟨rfl, hx⟩
      have hx' : x ∈ eso := by simpa using hx x List.mem_cons_self
      obtain ⟨k', hkey', _⟩ := hko x hx'
      have hnr : ∀ a, x.key ≠ .ref a := fun a z => by
        rw [z] at hkey'
        cases k' <;> cases hkey'
      split
      · rename_i a z
        exact absurd z (hnr a)
      · exact wpAny_pure ⟨rfl, fun e he => hx e (List.mem_cons_of_mem _ he)⟩
    · rintro b s' ⟨rfl, _⟩
      exact loop
  · exact loop
end
end En
set_option maxHeartbeats 4000000
/-! Eq4: {**d, k: v}. -/
namespace En
open PySem PySem.Spec PyProof.Rows L2
def tDup (td tk tv : TE) : TE := fun σ H Q => ∀ p, H p = none → td σ (upd H p (.dK [])) fun x H1 => H1 p = some (.dK []) ∧ ∃ a kvs, x = .ref a ∧ H1 a = some (.dK kvs) ∧ a ≠ p ∧ kvs.length < sizeLine ∧
  ∀ p2, upd H1 p (.dK (mergeK [] kvs)) p2 = none → tk σ (upd (upd H1 p (.dK (mergeK [] kvs))) p2 (.dK [])) fun y H2 => tv σ H2 fun z H3 => H3 p = some (.dK (mergeK [] kvs)) ∧ H3 p2 = some (.dK []) ∧ p2 ≠ p ∧
    ∃ ky, y = kV ky ∧ Q (.ref p) (upd (upd H3 p2 (.dK (mergeK [] [(ky, z)]))) p (.dK (mergeK (mergeK [] kvs) (mergeK [] [(ky, z)]))))
section
variable {X : Cx}
theorem dup_list {env : Env} {ke de ve : Expr} {pos : Pos} : (evalEachOpt [none, some ke] env).zip ((evalEach [de, ve] env).map fun v => do let x ← v; standAt pos; pure x) = [(none, do let x ← eval de env; standAt pos; pure x), (some (eval ke env), do let x ← eval ve env; standAt pos; pure x)] := by
  simp [evalEachOpt, evalEach, evalOpt]
theorem w_mono {pins : List (Addr × Obj)} {σ : L2.St} {H : Hp} {s : Shared} {p : Addr} {kvs more : List (Key × V)} {vs ws : List (Key × Value)} {h' : Heap} (I : L2.Inv X pins σ H s) (e : H p = some (.dK kvs)) (rel : KV kvs vs) (rel2 : KV more ws) (hz : kvs.length + more.length ≤ sizeLine)
    (dm : h'.DictOf (mixKind X.prog X.w) p (merged vs ws)) (hs : Heap.SameBut p s.heap h') : L2.Inv X pins σ (upd H p (.dK (mergeK kvs more))) { s with heap := h' } := by
  obtain ⟨z, hd, _, _, dd⟩ := dk_of I.hok e
  have he : ∃ q, h'.get? p = some q := let ⟨q, _, _, hq, _⟩ := dm; ⟨q, hq⟩
  exact d_write (t' := s.toks) I (by rw [e]; exact True.intro) hs he (dk_new (Nat.le_trans (length_mergeK more kvs) hz) hd (KV.merge rel2 rel) dm)
theorem pe_dup {ke de ve : Expr} {td tk tv : TE} {pos : Pos} (hd : PE X de td) (hk : PE X ke tk) (hv : PE X ve tv) : PE X (.Dict [none, some ke] [de, ve] pos) (tDup td tk tv) := ⟨fun pins s σ H Q I q => by
  rw [arm_eval_Dict, dup_list]
  refine wpAny_bind (wpAny_standAt ?_)
  unfold dictDisplay
  simp only [List.forIn_cons, List.forIn_nil, List.isEmpty_nil, if_true, List.nil_append, List.length_singleton, List.isEmpty_cons, Bool.false_eq_true, if_false]
  have hn := I.hok.fresh (Nat.le_refl s.heap.objs.size)
  have I1 := I.laid (a := s.heap.objs.size) (o := .dK []) (h' := s.heap.push { cls := .type "dict", data := .dict #[] }) (t' := s.toks) (fun _ _ q => Heap.get?_push_of_some _ q) (Nat.le_refl _) (dk_empty s.heap I.big)
  refine wpAny_bind (wpAny_bind (wpAny_bind (wpAny_pure ?_)))
  dsimp only
  refine wpAny_bind (wpAny_alloc (wpAny_bind (wpAny_holding (wpAny_bind (thn (hd.run pins _ σ _ _ I1 (q _ hn)) fun v s1 ⟨x, H1, I2, rx, e1, a, kvs, ex, e2, hne, hz, q1⟩ => wpAny_bind (wpAny_standAt (wpAny_pure ?_)))))))
  subst ex
  obtain rfl : v = Value.ref a := rx
  obtain ⟨z0, hd0, vs0, r0, dd0⟩ := dk_of I2.hok e1
  cases r0
  obtain ⟨z1, hd1, vs1, r1, dd1⟩ := dk_of I2.hok e2
  refine wpAny_bind (wpAny_onRaise (wpAny_tryCatch (wpAny_onRaise (wpAny_holding (mergeM (Ne.symm hne) hd1 dd0 dd1 (by rw [List.length_nil, Nat.zero_add, ← r1.length]; omega) fun h' dm sb => ?_)))))
  have I3 := w_mono I2 e1 .nil r1 (by rw [List.length_nil, Nat.zero_add]; omega) dm sb
  refine wpAny_pure ?_
  simp only [List.nil_append, List.length_singleton, List.isEmpty_cons, Bool.false_eq_true, if_false, show ((1 : Nat) == 17) = false from rfl]
  refine wpAny_bind (wpAny_pure (wpAny_pure ?_))
  simp only [List.isEmpty_cons, Bool.false_eq_true, if_false]
  have hn2 := I3.hok.fresh (Nat.le_refl h'.objs.size)
  have I4 := I3.laid (a := h'.objs.size) (o := .dK []) (h' := h'.push { cls := .type "dict", data := .dict #[] }) (t' := s1.toks) (fun _ _ q => Heap.get?_push_of_some _ q) (Nat.le_refl _) (dk_empty h' I3.big)
  refine wpAny_bind (wpAny_bind (wpAny_holding (wpAny_subDict (knd := mixKind X.prog X.w) (by simp) (evalPairs_cons (thn (hk.run pins _ σ _ _ I4 (q1 _ hn2)) fun ku s2 ⟨y, H2, I5, ry, q2⟩ => ?_)))))
  refine wpAny_bind (thn (hv.run pins s2 σ H2 _ I5 q2) fun zu s3 ⟨z, H3, I6, rz, p1, p2, p3, ky, ey, q3⟩ => wpAny_bind (wpAny_standAt (wpAny_pure (evalPairs_nil ?_))))
  subst ey
  obtain ⟨_, hd2, vs2, r2, dd2⟩ := dk_of I6.hok p2
  cases r2
  have one : KV [(ky, z)] [(ky, zu)] := .cons ⟨rfl, rz⟩ .nil
  refine ⟨[(ky, zu)], ⟨kV_is (P := X.prog) (w := X.w) ry, rfl, trivial⟩, dd2, fun h2 dm2 sb2 => ?_⟩
  have I7 := w_mono I6 p2 .nil one (by show 0 + 1 ≤ sizeLine; decide) dm2 sb2
  have I8 := I7.tok (s3.toks + 1)
  have p1' : upd H3 h'.objs.size (.dK (mergeK [] [(ky, z)])) s.heap.objs.size = some (.dK (mergeK [] kvs)) := by
    rw [upd_ne (Ne.symm p3)]
    exact p1
  obtain ⟨_, hd3, vs3, r3, dd3⟩ := dk_of I8.hok p1'
  obtain ⟨_, hd4, vs4, r4, dd4⟩ := dk_of I8.hok (upd_same : upd H3 h'.objs.size (.dK (mergeK [] [(ky, z)])) h'.objs.size = _)
  have hlen : (mergeK [] kvs).length + (mergeK [] [(ky, z)]).length ≤ sizeLine := by
    have e1 := length_mergeK kvs []
    have e2 := length_mergeK [(ky, z)] []
    simp only [List.length_nil, List.length_singleton] at e1 e2
    omega
  refine wpAny_bind (wpAny_onRaise (wpAny_holding (mergeM (Ne.symm p3) hd4 dd3 dd4 (by rw [← r3.length, ← r4.length]; exact hlen) fun h3 dm3 sb3 => ?_)))
  have I9 := w_mono I8 p1' r3 r4 hlen dm3 sb3
  exact wpAny_pure (wpAny_pure ⟨.ref s.heap.objs.size, _, I9, rfl, q3⟩)⟩
end
def dupA (md : Ac Rv) (mk mv : Ac Dat) : Ac Rv := md.bind fun x => match x with
  | .val (.dct kvs) => if kvs.length < sizeLine then mk.bind fun k => mv.bind fun v => (match kyD k with
    | some ky => Ac.ret (.own (.dct (mergeD (mergeD [] kvs) (mergeD [] [(ky, v)]))))
    | none => Ac.stk) else Ac.stk
  | _ => Ac.stk
section
variable {W : Wd} {wx : WX} {X : Cx}
theorem se_dup {ke de ve : Expr} {md : Ac Rv} {mk mv : Ac Dat} {pos : Pos} (pd : SE W wx X md de) (pk : SD W wx X mk ke) (pv : SD W wx X mv ve) : SE W wx X (dupA md mk mv) (.Dict [none, some ke] [de, ve] pos) :=
  peImp (pe_dup pd pk pv) fun σ H Q hh => by
    obtain ⟨g, P, s, r, q⟩ := hh
    intro p hp
    obtain ⟨f1, f2, f3, f4⟩ := r.newF hp
    have r0 : Rel W g (upd P p (.dK [])) s σ (upd H p (.dK [])) := Rel.prot (o := .dct []) (ho := .dK []) (r.laid hp) upd_same f1 f2 f3 f4
    refine ⟨g, _, s, r0, ((Post.bindE q).under (up_le (ho := .dK []) f2) up_none).mono fun x s1 g1 H1 l1 r1 q1 v hv => ?_⟩
    obtain ⟨p1, p2, p3⟩ := r1.pr p _ upd_same
    cases x with
    | own _ => exact q1.elim
    | bor _ => exact q1.elim
    | val d =>
      cases d <;> first | exact q1.elim | skip
      rename_i kvs
      have q2 : Post W wx g1 P σ ((if kvs.length < sizeLine then mk.bind fun k => mv.bind fun v => (match kyD k with
        | some ky => Ac.ret (Rv.own (.dct (mergeD (mergeD [] kvs) (mergeD [] [(ky, v)]))))
        | none => Ac.stk) else Ac.stk) s1) _ := q1
      have hv1 : R W g1 (.dct kvs) v := hv
      cases hv1 with
      | dct h1 h2 =>
        rename_i a kv
        by_cases hz : kvs.length < sizeLine
        · rw [if_pos hz] at q2
          refine ⟨p1, a, kv, rfl, r1.fz _ _ h1, fun e => ?_, by rw [← h2.length]; exact hz, fun w hw => ?_⟩
          · rw [e, p2] at h1
            cases h1
          · have ra := r1.reprot (u' := .dK (mergeK [] kv)) f2
            obtain ⟨e1, e2, e3, e4⟩ := ra.newF hw
            have rb : Rel W g1 (upd (upd P p (.dK (mergeK [] kv))) w (.dK [])) s1 σ (upd (upd H1 p (.dK (mergeK [] kv))) w (.dK [])) := Rel.prot (o := .dct []) (ho := .dK []) (ra.laid hw) upd_same e1 e2 e3 e4
            have up1 : ∀ b o, P b = some o → (upd (upd P p (.dK (mergeK [] kv))) w (.dK [])) b = some o := fun b o e => up_le (ho := .dK []) e2 b o (up_le (ho := .dK (mergeK [] kv)) f2 b o e)
            have up2 : ∀ b, (upd (upd P p (.dK (mergeK [] kv))) w (.dK [])) b = none → P b = none := fun b e => up_none b (up_none b e)
            refine ⟨g1, _, s1, rb, ((Post.bindE q2).under up1 up2).mono fun k s2 g2 H2 l2 r2 q3 y hy => ?_⟩
            refine ⟨g2, _, s2, r2, ((Post.bindE q3).under up1 up2).mono fun d s3 g3 H3 l3 r3 q4 z hz2 => ?_⟩
            have k1 := r3.pr w _ upd_same
            have hwp : w ≠ p := fun e => by rw [e, upd_same] at hw; cases hw
            have k2 := r3.pr p (.dK (mergeK [] kv)) (by rw [upd_ne (Ne.symm hwp)]; exact upd_same)
            cases ek : kyD k with
            | none =>
              simp only [ek] at q4
              exact q4.elim
            | some ky =>
              simp only [ek] at q4
              refine ⟨k2.1, k1.1, hwp, ky, kyD_ok ek (R.mono l3 hy), ?_⟩
              have rc := r3.reprot (u' := .dK (mergeK [] [(ky, z)])) e2
              have rd := (rc.unprot e2).reprot (u' := .dK (mergeK (mergeK [] kv) (mergeK [] [(ky, z)]))) f2
              have m1 : Rk W g3 (mergeD [] kvs) (mergeK [] kv) := Rk.merge (Rk.mono (l2.trans l3) h2) .nil
              have m2 : Rk W g3 (mergeD [] [(ky, d)]) (mergeK [] [(ky, z)]) := Rk.merge (.cons hz2 .nil) .nil
              refine q4 g3 _ (.refl g3) (rd.unprot f2) _ ⟨p, _, rfl, upd_same, show RO W g3 (.dct _) (.dK _) from Rk.merge m2 m1, k2.2.1, f2, k2.2.2, fun j ⟨o, ho⟩ e => ?_⟩
              obtain ⟨b, hb, n1, n2, n3, n4, n5, n6⟩ := rd.slo j o ho
              rw [e] at n1
              cases n1
              rw [upd_same] at n5
              cases n5
        · rw [if_neg hz] at q2
          exact q2.elim
end
end En
set_option maxHeartbeats 4000000
/-! Eq5: an instance is called. -/
namespace En
open PySem PySem.Spec PyProof.Rows L2
section
variable {W : Wd} {wx : WX} {X : Cx} {k n : Nat}
theorem run_fnC {f : Addr} {fd : FuncData} {ps : List Str} {sp : Sp} {pins : List (Addr × Obj)} {σ : L2.St} {H : Hp} {s : Shared} {Q : VK} {args : Args} (F : FnG X.prog X.w X.K X.mg X.base k f fd ps sp) (hr : RoomG k X.A) (tk : Takes X wx)
    (I : L2.Inv X pins σ H s) (hb : BndN (CX X.prog X.w) X.prog X.w X.K X.mg X.base fd args ps X.A X.stack s H (fun cls d H' => wx cls d σ H') fun vs H2 => sp vs H2 Q fun cls d H' => wx cls d σ H') :
    codeAny (model X.prog X.w) X.A (.call (.ref f) args) (fun r s' => match r with | .ok (.ret v) => EP X pins σ Q v s' | .ok _ => False | .error e => X.xe e s') s := by
  refine codeAny_mono (F.runB X.A X.stack s H args Q _ hr I.env0 hb) fun r s' hq => ?_
  cases r with
  | error e => exact tk e s' (XE.of_call I (fun _ _ _ h => h) hq)
  | ok fl => cases fl <;> first | exact I.after hq | exact False.elim hq
def CaoOk (W : Wd) (X : Cx) (k n : Nat) (disp : Disp) : Prop := ∀ c sl call, disp c = some (sl, call) → ∃ f fd ps np, StX.CallO X.K (W.ca c) f ∧ FnG X.prog X.w X.K X.mg X.base k f fd ps (spF W np call) ∧ np = ps.length ∧ CB X.K fd ps (n + 1) [] sl
/-- of the class c still -/
def sameC (d : Dat) (c : Nat) (m : Ac Rv) : Ac Rv := (lookA (.val d)).bind fun w => match w.inst with
  | some (c', _) => if c' = c then m else Ac.stk
  | none => Ac.stk
def caoA (mx : Ac Rv) (ms : Ac (List Dat)) (n : Nat) (disp : Disp) : Ac Rv := mx.bind fun x => match x with
  | .val d => (lookA (.val d)).bind fun w => match w.inst with
    | some (c, _) => (match disp c with
      | some (sl, call) => argA (fun _ => [d]) ms (Ac.ret []) n 0 sl fun xs => sameC d c (couA call xs)
      | none => Ac.stk)
    | none => Ac.stk
  | _ => Ac.stk
theorem se_cao {fe e : Expr} {es : List Expr} {pos : Pos} {mx : Ac Rv} {ms : Ac (List Dat)} {disp : Disp} (hK : X.K = W.K) (ok : CaoOk W X k n disp) (hr : RoomG k X.A) (tk : Takes X wx) (po : SE W wx X mx fe) (pa : SA W wx X ms (e :: es))
    (ht : eval (.Call fe (e :: es) [] pos) X.env = (do callWith pos (← eval fe X.env) [] (backTo pos (starEach (e :: es) X.env)) (backToKw pos (keywordEach [] X.env))))
    (he : starEach (e :: es) X.env = (false, eval e X.env) :: starEach es X.env) (hpl : (backTo pos (starEach es X.env)).any (·.1) = false) : SE W wx X (caoA mx ms n disp) (.Call fe (e :: es) [] pos) := ⟨fun pins s σ H Q I h => by
  obtain ⟨g, P, st, r, q⟩ := h
  refine Call_ (thn (po.run pins s σ H (fun v H1 => ∃ g1 s1 d c sl call fs w, Rel W g1 P s1 σ H1 ∧ R W g1 d v ∧ Vw.of s1 d = some w ∧ w.inst = some (c, fs) ∧ disp c = some (sl, call) ∧
    Post W wx g1 P σ (argA (fun _ => [d]) ms (Ac.ret []) n 0 sl (fun xs => sameC d c (couA call xs)) s1) fun x s' g' H' => ∀ v, RvR W g' P s' σ H' x v → Q v H') I ⟨g, P, st, r, (Post.bindE q).mono fun x s1 g1 H1 l1 r1 q1 v hv => ?_⟩) fun u s1 ⟨v, H1, I1, rv, g1, st1, d, c, sl, call, fs, w, r1, rd, e1, e2, e3, q1⟩ => ?_) ht
  · cases x with
    | own _ => exact q1.elim
    | bor _ => exact q1.elim
    | val d =>
      obtain ⟨w, e1, q2⟩ := Post.lookE q1
      cases e2 : w.inst with
      | none =>
        rw [e2] at q2
        exact q2.elim
      | some p =>
        obtain ⟨c, fs⟩ := p
        simp only [e2] at q2
        cases e3 : disp c with
        | none =>
          simp only [e3] at q2
          exact q2.elim
        | some p =>
          obtain ⟨sl, call⟩ := p
          simp only [e3] at q2
          exact ⟨g1, s1, d, c, sl, call, fs, w, r1, hv, e1, e2, e3, q2⟩
  · obtain ⟨f, fd, ps, np, co, F, hnp, cb⟩ := ok c sl call e3
    obtain ⟨a, dx, fv, rfl, k1, k2⟩ := (Vw.of_ok r1 rd e1).inst r1 e2
    obtain rfl : u = Value.ref a := rv
    refine StX.callO_with (thn (pa.run pos pins s1 σ H1 _ I1 (arg_imp r1 q1)) fun us s2 ⟨vs, H2, I2, rvs, q2⟩ => ?_) he hpl
    obtain ⟨g3, P3, st3, r3, q3⟩ := q2
    obtain ⟨g4, st4, ds, es2, xs, l4, r4, rds, re, l1, l3, e4, p2⟩ := (q3 : Post W wx g3 P3 σ (.ok [] st3) _) g3 H2 (.refl g3) r3 [] .nil
    have hz : es2 = [] := List.length_eq_zero_iff.mp l3
    subst hz
    have rd4 : R W g4 d (.ref a) := R.mono l4 rd
    obtain ⟨w4, e5, p3⟩ := Post.lookE p2
    cases e6 : w4.inst with
    | none =>
      simp only [e6] at p3
      exact p3.elim
    | some p =>
      obtain ⟨c4, fs4⟩ := p
      simp only [e6] at p3
      by_cases hc : c4 = c
      · subst hc
        rw [if_pos rfl] at p3
        obtain ⟨a4, dx4, fv4, ea, k3, _⟩ := (Vw.of_ok r4 rd4 e5).inst r4 e6
        cases ea
        obtain ⟨ox, od, J, hd⟩ := StX.insC_at I2 (a := a) (C := W.ca c4) (.inr ⟨dx4, fv4, k3⟩)
        have rv' : Vals (V.ref a :: vs) (Value.ref a :: us) := .cons rfl rvs
        have rds' : Rs W g4 ([d] ++ ds) (V.ref a :: vs) := .cons rd4 rds
        obtain ⟨hl, hB⟩ := cb.go (ws := []) hK.symm I2.env0 r4 rds' (.nil : Rs W g4 [] []) rv' .nil (by simp [l1]) rfl e4
        exact ⟨⟨_, ox, od, J, hd⟩, wpAny_call (PySem.W.kco_code I2.kIn J hd co.at_ co.fn co.fi (run_fnC (args := ⟨.ref a :: us, []⟩) F hr tk I2 (bnd_mono hB fun vs' H' ⟨g', l, r', q'⟩ => couA_ok r' q' (hl.trans hnp.symm) (p3.le l))))⟩
      · rw [if_neg hc] at p3
        exact p3.elim⟩
end
end En
set_option maxHeartbeats 4000000
/-! Eq6: x op= e, the class of x having that operator itself. -/
namespace En
open PySem PySem.Spec PyProof.Rows L2
structure IopC (K : PySem.W.Frag) (C : Addr) (op : Operator) (f : Addr) : Prop where
  at_ : PySem.W.findIn K (.ref C) (dunderI op.info.2) = some (some (.ref f))
  fn : PySem.W.isFn K (.ref f) = true
  sf : PySem.W.selfFirst K C = true
def iadA (i : Nat) (me : Ac Dat) (disp : Nat → Option (List Dat → List Mob → Cou)) : Ac Flw := fun s => match s.env[i]? with
  | some (.val d) => (me.bind fun e => (lookA (.val d)).bind fun w => match w.inst with
    | some (c, _) => (match disp c with
      | some call => (couA call [d, e]).bind fun r => (setA i r).bind fun _ => nxA
      | none => Ac.stk)
    | none => Ac.stk) s
  | _ => .stuck
section
variable {W : Wd} {wx : WX} {X : Cx} {k : Nat} {op : Operator}
def IadOk (W : Wd) (X : Cx) (k : Nat) (op : Operator) (disp : Nat → Option (List Dat → List Mob → Cou)) : Prop := ∀ c call, disp c = some call → ∃ f fd ps, IopC X.K (W.ca c) op f ∧ FnG X.prog X.w X.K X.mg X.base k f fd ps (spF W 2 call) ∧ ps.length = 2 ∧
  ∀ (s : Shared) (u v : Value), X.K.In s.heap → BindsTo s fd ⟨[u, v], []⟩ (ps.zip [u, v])
theorem ss_iad {i : Nat} {x : Str} {e : Expr} {me : Ac Dat} {disp : Nat → Option (List Dat → List Mob → Cou)} {pos' pos : Pos} (ok : IadOk W X k op disp) (hr : RoomG k X.A) (tk : Takes X wx) (hN : X.N.Nodup) (hi : X.N[i]? = some x) (hx : Loc X.env.scope x) (pe : SD W wx X me e)
    (hf : X.fn x = true ∨ X.env.scope.names.lookup x = some .local) : SS W wx X (iadA i me disp) (.AugAssign (.Name x pos') op e pos) := ⟨fun pins s σ H D I h => by
  obtain ⟨g, P, st, r, q⟩ := h
  unfold iadA at q
  split at q
  · rename_i d ed
    obtain ⟨v, e1, rv⟩ := r.slv i d ed
    obtain ⟨m, hn, hl⟩ := I.loc
    have vis : Vis X.env.scope x := by rcases hx with k | k; exact .inl k; exact .inr (.inl k)
    obtain ⟨u, ru, l⟩ := hl i x v hi e1 vis
    refine wpAny_AugAssign_Name ?_
    have go : wpAny (model X.prog X.w) X.A (eval e X.env) (fun w s₂ => wpAny (model X.prog X.w) X.A (inplaceOp op u w) (fun r s₃ => wpAny (model X.prog X.w) X.A (storeName X.env x r) (fun _ => SP X pins D .next) X.xe s₃) X.xe s₂) X.xe s := by
      refine thn (pe.run pins s σ H (fun y H1 => ∃ g1 s1 e, Rel W g1 P s1 σ H1 ∧ g.Le g1 ∧ R W g1 e y ∧ PostS W wx g1 P (((lookA (.val d)).bind fun w => match w.inst with
        | some (c, _) => (match disp c with
          | some call => (couA call [d, e]).bind fun r => (setA i r).bind fun _ => nxA
          | none => Ac.stk)
        | none => Ac.stk) s1) D) I ⟨g, P, st, r, (PostS.bindE q).mono fun e s1 g1 H1 l1 r1 q1 y hy => ⟨g1, s1, e, r1, l1, hy, q1⟩⟩) fun wv s1 ⟨y, H1, I1, ry, g1, st1, e2, r1, l1, re, q1⟩ => ?_
      obtain ⟨w, e3, q2⟩ := PostS.lookE q1
      cases e4 : w.inst with
      | none =>
        simp only [e4] at q2
        exact q2.elim
      | some p =>
        obtain ⟨c, fs⟩ := p
        simp only [e4] at q2
        cases e5 : disp c with
        | none =>
          simp only [e5] at q2
          exact q2.elim
        | some call =>
          simp only [e5] at q2
          obtain ⟨f, fd, ps, co, F, hl2, hb⟩ := ok c call e5
          have rv1 : R W g1 d v := R.mono l1 rv
          obtain ⟨a, dx, fv, rfl, k1, k2⟩ := (Vw.of_ok r1 rv1 e3).inst r1 e4
          obtain rfl : u = Value.ref a := ru
          obtain ⟨mA, O, _⟩ := ins_get I1.hok k1
          obtain ⟨od, J, _⟩ := O.look
          obtain ⟨m2, hF⟩ := I1.fr
          have vals : Vals [V.ref a, y] [Value.ref a, wv] := .cons rfl (.cons ry .nil)
          have sp : spF W 2 call [.ref a, y] H1 (fun z H2 => ∃ g2 s2 rz, Rel W g2 P s2 σ H2 ∧ RvR W g2 P s2 σ H2 rz z ∧ PostS W wx g2 P (((setA i rz).bind fun _ => nxA) s2) D) fun cls dd H' => wx cls dd σ H' :=
            couA_ok r1 (.cons rv1 (.cons re .nil)) rfl ((PostS.bindE q2).mono fun rz s2 g2 H2 l2 r2 q3 z hz => ⟨g2, s2, rz, r2, hz, q3⟩)
          refine PySem.W.ksp_inplace hF I1.ok.mod.kin J co.sf co.at_ co.fn ?_
          refine wpAny_mono (run_fnG (args := ⟨[.ref a, wv], []⟩) F hr tk I1 (hb s1 _ _ I1.kIn) vals sp) (fun zu s2 hz => ?_) fun _ _ z => z
          obtain ⟨z, H2, I2, rz, g2, st2, rr, r2, hz2, q4⟩ := hz
          have fin : wpAny (model X.prog X.w) X.A (storeName X.env x zu) (fun _ => SP X pins D .next) X.xe s2 := by
            obtain ⟨s', g', l', r', q5⟩ := setA_nx r2 hz2 q4
            exact store_ok I2 hN hi hx rz (fun s3 I3 => ⟨_, H2, I3, q5 g' _ H2 (.refl g') r'⟩) hf
          cases zu <;> first | exact fin | skip
          cases z <;> first | exact (nomatch rz) | (obtain ⟨_, e⟩ := rz; cases e)
    rcases l with ⟨hk, hm⟩ | ⟨hk, c, hc, hcell⟩
    · exact wpAny_loadName_local I.ok.kind hk hn hm go
    · rcases hk with hk | hk
      · exact wpAny_loadName_cell I.ok.kind hk hc hcell go
      · rcases hx with k | k
        · have : X.env.scope.names.lookup x = some .free := hk
          rw [k] at this
          cases this
        · have : X.env.scope.names.lookup x = some .free := hk
          rw [k] at this
          cases this
  · exact q.elim⟩
end
end En
set_option maxHeartbeats 4000000
/-! Eq7: sets of texts: a text is added. -/
namespace En
open PySem PySem.Spec PyProof.Rows L2
def keyS (e : Int × Value) : Str := match e.2 with
  | .str x _ => x
  | _ => Str.empty
def GoodS (w : World) (e : Int × Value) : Prop := ∃ x tk, e.2 = Value.str x tk ∧ e.1 = hashStr w x
/-- the set of texts at a holds just those of l, each once -/
def SetS (w : World) (h : Heap) (a : Addr) (l : List Str) : Prop := ∃ o es ep t, h.get? a = some o ∧ o.ExactSet ∧ o.data = .set es ep t ∧ (∀ e ∈ es.toList, GoodS w e) ∧ (es.toList.map keyS).Perm l ∧ l.Nodup ∧
  es.size < scanBound ∧ t.fits es.size = true ∧ Ris t.place.toList ∧ (w.params.followText "set-order" = true ∨ t.led = true)
section
variable {P : Program} {w : World} {A : Around} {E : Value → Shared → Prop} {s : Shared} {a : Addr} {l : List Str}
theorem SetS.at {h h' : Heap} (R : SetS w h a l) (k : ∀ o, h.get? a = some o → h'.get? a = some o) : SetS w h' a l := by
  obtain ⟨o, es, ep, t, ho, r⟩ := R
  exact ⟨o, es, ep, t, k o ho, r⟩
theorem sKind (x : Str) (u : Tok) : (strKind P w).is x (.str x u) = true := by
  show Value.isStrOf x (.str x u) = true
  simp [Value.isStrOf]
theorem goodS_elems {es : List (Int × Value)} (g : ∀ e ∈ es, GoodS w e) : ElemsOf (strKind P w) es := fun e he => by
  obtain ⟨x, tk, h1, h2⟩ := g e he
  exact ⟨⟨x, by rw [h1]; exact sKind x tk, h2⟩, by rw [h1] <;> rfl⟩
theorem goodS_is {e : Int × Value} (g : GoodS w e) (k : Str) : (strKind P w).is k e.2 = true ↔ keyS e = k := by
  obtain ⟨x, tk, h1, _⟩ := g
  unfold keyS
  rw [h1]
  constructor
  · intro z
    exact (strKind P w).inj (.str x tk) x k (sKind x tk) z
  · rintro rfl
    exact sKind x tk
theorem setS_tail {g : Bool → Sem Unit} (hg : ∀ (b : Bool) (s₁ : Shared) (Q' : Unit → Shared → Prop), Q' () s₁ → wpAny (model P w) A (g b) Q' E s₁)
    {o : Obj} {es es1 : Array (Int × Value)} {ep : Nat} {t t2 : SetTable} (ho : s.heap.get? a = some o) (hex : o.ExactSet) (hd : o.data = .set es ep t) (g1 : ∀ e ∈ es1.toList, GoodS w e) (p1 : (es1.toList.map keyS).Perm l) (nd : l.Nodup)
    (hb1 : es1.size < scanBound) (hf2 : t2.fits es1.size = true) (hr : Ris t2.place.toList) (hl : w.params.followText "set-order" = true ∨ t2.led = true) {wd : Bool} {R : Option Bool → Shared → Prop}
    (hR : ∀ h', Heap.SameBut a s.heap h' → SetS w h' a l → R (some true) { s with heap := h' }) :
    wpAny (model P w) A (do
        storeSet a es1 t2
        if (!wd && t2.tooFull) = true then do
            g (relayAll t2 es1 (SetTable.grown es1.size)).2.2
            storeSet a (relayAll t2 es1 (SetTable.grown es1.size)).1 (relayAll t2 es1 (SetTable.grown es1.size)).2.1
            pure (some true)
          else pure (some true)) R E s := by
  refine wpAny_bind (wpAny_storeSet_of ho hd ?_ (fits_of_scanBound hb1))
  have w1 := store_at (es' := es1) (t' := t2) ho hd
  have same := Heap.SameBut.update s.heap a (Obj.putSet es1 t2)
  split
  · have q1 := relayAll_perm t2 es1 (SetTable.grown es1.size)
    have q2 := relayAll_fits t2 es1 (SetTable.grown es1.size)
    have q3 := relayAll_ris t2 es1 (SetTable.grown es1.size)
    have q4 := relayAll_led t2 es1 (SetTable.grown es1.size)
    generalize relayAll t2 es1 (SetTable.grown es1.size) = Z at q1 q2 q3 q4 ⊢
    obtain ⟨es2, t3, gave⟩ := Z
    dsimp only at q1 q2 q3 q4 ⊢
    have en : es2.size = es1.size := by rw [← Array.length_toList, q1.length_eq, Array.length_toList]
    refine wpAny_bind (hg _ _ _ (wpAny_bind (wpAny_storeSet_of w1 rfl ?_ (fits_of_scanBound (by rw [en]; exact hb1)))))
    have w2 := store_at (es' := es2) (t' := t3) w1 rfl
    exact wpAny_pure (hR _ (same.trans (Heap.SameBut.update _ a _)) ⟨_, es2, _, t3, w2, hex, rfl, fun e he => g1 e (q1.mem_iff.mp he), (q1.map keyS).trans p1, nd, by rw [en]; exact hb1, q2, q3, hl.imp id fun z => by rw [q4]; exact z⟩)
  · exact wpAny_pure (hR _ same ⟨_, es1, _, t2, w1, hex, rfl, g1, p1, nd, hb1, hf2, hr, hl⟩)
def addS (l : List Str) (k : Str) : List Str := if k ∈ l then l else k :: l
theorem setS_add {k : Str} {tk : Tok} {Q : Bool → Shared → Prop} (R : SetS w s.heap a l) (room : l.length + 1 < scanBound)
    (hQ : ∀ b h', Heap.SameBut a s.heap h' → SetS w h' a (addS l k) → Q b { s with heap := h' }) : wpAny (model P w) A (setAddHashed a (.str k tk) ((strKind P w).hash k)) Q E s := by
  obtain ⟨o, es, ep, t, ho, hex, hd, g, pm, nd, hb, hf, hr, hl⟩ := R
  have hkey : (strKind P w).is k (.str k tk) = true := sKind k tk
  have hsc : (Value.str k tk).scannable = true := rfl
  have hel : ElemsOf (strKind P w) es.toList := goodS_elems g
  have hn : es.size = l.length := by
    have := pm.length_eq
    rw [List.length_map, Array.length_toList] at this
    exact this
  unfold setAddHashed setAddHashedIn
  refine wpAny_holding (wpAny_bind (wpAny_setState_of ho hd hf ?_))
  dsimp only
  rw [byScan_of hsc hb hel]
  simp only [↓reduceIte]
  unfold setAddByScan
  refine wpAny_bind (wpAny_bind (wpAny_rule (wpAny_bind (wpAny_setScan_of hkey ho hd hf hel ?_))))
  cases hfi : List.findIdx? (fun e => (strKind P w).is k e.2) es.toList with
  | some j =>
    dsimp only
    obtain ⟨hj, pj, _⟩ := List.findIdx?_eq_some_iff_getElem.mp hfi
    have hmem : k ∈ l := pm.mem_iff.mp (List.mem_map.mpr ⟨es.toList[j], List.getElem_mem hj, (goodS_is (g _ (List.getElem_mem hj)) k).1 pj⟩)
    refine wpAny_pure (wpAny_pure (hQ _ s.heap (Heap.SameBut.refl a s.heap) ?_))
    unfold addS
    rw [if_pos hmem]
    exact ⟨o, es, ep, t, ho, hex, hd, g, pm, nd, hb, hf, hr, hl⟩
  | none =>
    dsimp only
    have hno : k ∉ l := fun z => by
      obtain ⟨e, he, q⟩ := List.mem_map.mp (pm.mem_iff.mpr z)
      have c := List.findIdx?_eq_none_iff.mp hfi e he
      rw [(goodS_is (g e he) k).2 q] at c
      cases c
    have pass : ∀ (b : Bool) {s₁ : Shared} {Q' : Unit → Shared → Prop}, Q' () s₁ → wpAny (model P w) A (match b with | true => rule "set.scan.the-table-gave-way" | false => pure ()) Q' E s₁ :=
      fun b s₁ Q' q => by cases b <;> first | exact wpAny_pure q | exact wpAny_rule q
    have q1 := layNew_perm t es ((strKind P w).hash k) (.str k tk)
    have q2 := layNew_fits t es ((strKind P w).hash k) (.str k tk)
    have q3 := layNew_ris t es ((strKind P w).hash k) (.str k tk) hr
    have q4 := layNew_led t es ((strKind P w).hash k) (.str k tk)
    generalize layNew t es ((strKind P w).hash k) (.str k tk) = Z at q1 q2 q3 q4 ⊢
    obtain ⟨es1, t1, wasDummy, gave⟩ := Z
    dsimp only at q1 q2 q3 q4 ⊢
    rw [Array.toList_push] at q1
    have pc : es1.toList.Perm (((strKind P w).hash k, Value.str k tk) :: es.toList) := q1.trans (List.perm_append_singleton _ _)
    have p1 : (es1.toList.map keyS).Perm (k :: l) := (pc.map keyS).trans (pm.cons k)
    have g1 : ∀ e ∈ es1.toList, GoodS w e := fun e he => by
      rcases List.mem_cons.mp (pc.mem_iff.mp he) with z | z
      · rw [z]
        exact ⟨k, tk, rfl, rfl⟩
      · exact g e z
    have nd1 : (k :: l).Nodup := List.nodup_cons.mpr ⟨hno, nd⟩
    have hb1 : es1.size < scanBound := by
      rw [← Array.length_toList, pc.length_eq, List.length_cons, Array.length_toList, hn]
      exact room
    have hled : w.params.followText "set-order" = true ∨ t1.led = true := hl.imp id fun z => by rw [q4]; exact z
    have ea : addS l k = k :: l := if_neg hno
    rw [ea] at hQ
    refine wpAny_bind (pass _ ?_)
    split
    · refine wpAny_bind ?_
      rw [hashByValue_scannable 8 hsc]
      refine wpAny_pure ?_
      refine setS_tail ?_ ho hex hd g1 p1 nd1 hb1 ?_ ?_ ?_ ?_
      · intro b s₁ Q' q
        cases b <;> first | exact wpAny_pure q | exact wpAny_rule q
      · first | (split <;> first | exact q2 | exact SetTable.fits_plain_off q2) | exact q2
      · first | (split <;> exact q3) | exact q3
      · first | (split <;> exact hled) | exact hled
      · intro h' sb r
        dsimp only
        exact wpAny_pure (hQ _ h' sb r)
    · refine wpAny_bind (wpAny_pure ?_)
      simp only [↓reduceIte]
      refine setS_tail ?_ ho hex hd g1 p1 nd1 hb1 q2 q3 hled ?_
      · intro b s₁ Q' q
        cases b <;> first | exact wpAny_pure q | exact wpAny_rule q
      · intro h' sb r
        dsimp only
        exact wpAny_pure (hQ _ h' sb r)
end
end En
set_option maxHeartbeats 6400000
/-! Eq8: set of a list of texts. -/
namespace En
open PySem PySem.Spec PyProof.Rows L2
def addsS (xs : List Str) : List Str := xs.foldl addS []
theorem addS_len (l : List Str) (k : Str) : (addS l k).length ≤ l.length + 1 := by
  unfold addS
  split
  · omega
  · exact Nat.le_of_eq rfl
theorem addsS_len : ∀ (xs l : List Str), (xs.foldl addS l).length ≤ l.length + xs.length
  | [], l => Nat.le_refl _
  | x :: r, l => by
    have h1 := addsS_len r (addS l x)
    have h2 := addS_len l x
    rw [List.length_cons]
    exact Nat.le_trans h1 (by omega)
theorem addsS_take {xs : List Str} {i : Nat} (h : i < xs.length) : addsS (xs.take (i + 1)) = addS (addsS (xs.take i)) (xs.getD i Str.empty) := by
  unfold addsS
  rw [List.take_add_one, List.foldl_append, List.getElem?_eq_getElem h, List.getD_eq_getElem?_getD, List.getElem?_eq_getElem h]
  rfl
section
variable {prog : Program} {w : World} {A : Around} {R : Result → Shared → Prop} {I : Addr} {fp wr : List Addr} {G : Array GenState → Array GenState → Prop} {n : Nat} {P : Nat → Value → Prop} {St : Nat → Shared → Prop}
theorem loopT (W : WalksS prog w A.in1 I fp wr G n P St) (S : Addr) (hSf : S ∉ fp) (xs : List Str) (hsz : xs.length = n) (hn : n + 1 < scanBound) (hval : ∀ i v, P i v → ∃ t, v = .str (xs.getD i Str.empty) t) :
    ∀ (k i : Nat) (s : Shared), n - i = k → i ≤ n → St i s → SetS w s.heap S (addsS (xs.take i)) →
      (∀ s', Moved (S :: wr) G s s' → SetS w s'.heap S (addsS xs) → R (.ok (.ret .none)) s') → codeAny (model prog w) A (.builtin "set.update.loop" ⟨[.ref S, .ref I], []⟩) R s := by
  have off : S ∉ wr := fun h => hSf (W.sub _ h)
  have more : ∀ b ∈ wr, b ∈ S :: wr := fun b hb => List.mem_cons_of_mem _ hb
  intro k
  induction k with
  | zero =>
    intro i s hk hi hst hS hR
    obtain rfl : i = n := by omega
    refine codeAny_builtin PyProof.Rows.F.entry_set_update_loop ?_
    rw [Around.under_plainId PyProof.Rows.F.plain_set_update_loop _]
    show wpAny _ A.in1 (pyNext (.ref I) >>= _) _ _ s
    refine wpAny_bind (W.done s _ _ hst fun s' hm => ?_)
    show wpAny _ A.in1 (ret Value.none) _ _ s'
    have e : xs.take i = xs := by rw [← hsz, List.take_length]
    rw [e] at hS
    exact wpAny_pure (hR s' (hm.mono more) (hS.at fun o ho => hm.heap S _ off ho))
  | succ k ih =>
    intro i s hk hi hst hS hR
    have hlt : i < n := by omega
    refine codeAny_builtin PyProof.Rows.F.entry_set_update_loop ?_
    rw [Around.under_plainId PyProof.Rows.F.plain_set_update_loop _]
    show wpAny _ A.in1 (pyNext (.ref I) >>= _) _ _ s
    refine wpAny_bind (W.item i s _ _ hlt hst fun v s' hP hst' hm => ?_)
    obtain ⟨t, rfl⟩ := hval i v hP
    have hS' : SetS w s'.heap S (addsS (xs.take i)) := hS.at fun o ho => hm.heap S _ off ho
    show wpAny _ A.in1 (holding [Value.str (xs.getD i Str.empty) t] (setAdd S (.str (xs.getD i Str.empty) t)) >>= _) _ _ s'
    refine wpAny_bind (wpAny_holding ?_)
    unfold setAdd
    refine wpAny_holding (wpAny_bind ((PySem.strKind prog w).pyHash (k := xs.getD i Str.empty) (sKind _ _) ?_))
    have hl : (addsS (xs.take i)).length ≤ i := by
      have := addsS_len (xs.take i) []
      rw [List.length_take, List.length_nil] at this
      unfold addsS
      omega
    refine setS_add (P := prog) (s := { s' with toks := s'.toks + 1 }) hS' (by omega) fun b h' sb hS2 => ?_
    have hSi : SetS w h' S (addsS (xs.take (i + 1))) := by
      rw [addsS_take (by rw [hsz]; exact hlt)]
      exact hS2
    refine wpAny_pure ⟨plainId_quiet PyProof.Rows.F.plain_set_update_loop _, ih (i + 1) _ (by omega) hlt (W.frame _ s' _ _ hst' (Nat.le_succ _) fun b hb o e => ?_) hSi fun s'' hm2 hS3 => ?_⟩
    · rw [sb.2 b (fun z => hSf (by rw [← z]; exact hb))]
      exact e
    · refine hR s'' (Moved.trans W.gtrans ((hm.mono more).then_heap (Nat.le_succ _) fun b o hb e => ?_) hm2) hS3
      rw [sb.2 b (fun z => hb (by rw [z]; exact List.mem_cons_self))]
      exact e
end
section
variable {prog : Program} {w : World} {A : Around} {E : Value → Shared → Prop} {s : Shared}
theorem code_set1 (a : Value) {Q₁ : Value → Shared → Prop} (h : Q₁ (.ref s.heap.objs.size) { s with heap := s.heap.push { cls := .type "set", dict := none, data := .set #[] 0 (.fresh 0 0 (!w.params.followText "set-order")) } }) :
    codeAny (model prog w) A (.call (.builtin "set.__new__") ⟨[.type "set", a], []⟩) (wants Q₁ E) s := by
  refine codeAny_of_tree ?_
  show wpAny _ A.in1 (do checkBuiltinCall "set.__new__" ⟨[.type "set", a], []⟩; again (.builtin "set.__new__" ⟨[.type "set", a], []⟩)) _ _ s
  refine wpAny_bind (wpAny_of_eq (PySem.F.newCall_set_1 a) (wpAny_pure ⟨plainId_quiet F.plain_set_new _, codeAny_builtin F.entry_set_new ?_⟩))
  rw [Around.under_plainId F.plain_set_new _]
  unfold Builtin.«set.__new__» Builtin.Frozenset.newClass
  have hsub := sub_set_self
  obtain ⟨hp, g, d, tk, os⟩ := s
  dsimp only
  wp_walk
  refine wpAny_askSetting (wpAny_pure ?_)
  dsimp only
  simp only [newObj]
  exact wpAny_bind (wpAny_alloc (wpAny_pure (wpAny_pure h)))
end
end En
set_option maxHeartbeats 6400000
/-! Eq9: set(l), l a list of texts. -/
namespace En
open PySem PySem.Spec PyProof.Rows L2
def newS (w : World) : Obj := { cls := .type "set", dict := none, data := .set #[] 0 (.fresh 0 0 (!w.params.followText "set-order")) }
theorem newS_ok {w : World} {h : Heap} {a : Addr} (e : h.get? a = some (newS w)) : SetS w h a [] :=
  ⟨_, #[], 0, _, e, ⟨rfl, rfl, rfl⟩, rfl, (fun e he => by simp at he), .refl _, .nil, (by decide), (by rfl), List.Pairwise.nil, by
    show _ ∨ (!w.params.followText "set-order") = true
    cases w.params.followText "set-order"
    · exact .inr rfl
    · exact .inl rfl⟩
section
variable {prog : Program} {w : World} {A : Around} {E : Value → Shared → Prop} {s : Shared}
theorem call_setT {l : Addr} {items : Array Value} {xs : List Str} {Q : Value → Shared → Prop} (hh : A.handled = none) (hl : s.heap.IsList l items) (hi : StrsAre items.toList xs) (hb : xs.length + 1 < scanBound)
    (h : ∀ (h' : Heap) (tk : Nat), SetS w h' s.heap.objs.size (addsS xs) → (∀ b o, b < s.heap.objs.size → s.heap.get? b = some o → h'.get? b = some o) → Q (.ref s.heap.objs.size) { s with heap := h', toks := tk }) :
    wpAny (model prog w) A (call (.type "set") [.ref l]) Q E s := by
  obtain ⟨c, tl, hmro⟩ := PySem.F.called_set.mro
  have hmade := PySem.F.called_set.made
  have hsub := PySem.F.called_set.sub
  refine wpAny_call (codeAny_of_tree ?_)
  show wpAny _ _ (callAny (.type "set") _) _ _ _
  refine wpAny_pure ⟨Code.quiet_builtin _ (by decide +kernel), codeAny_builtin PySem.F.entry_type_call ?_⟩
  rw [Around.under_plain (weight_type_call_type "set" [.ref l] []) rfl]
  have h1 := PySem.F.called_set.notType
  have h2 := PySem.F.called_set.canCreate
  have hct := PySem.F.typeCall_set_1 (.ref l)
  repeat (any_goals (first | assumption | wp_step))

  refine codeAny_mono (code_set1 (.ref l) (E := E) (Q₁ := fun obj s₁ => obj = .ref s.heap.objs.size ∧ s₁ = { s with heap := s.heap.push (newS w) }) ⟨rfl, rfl⟩) fun r s₁ hr => ?_
  cases r with
  | error e => exact hr
  | ok fl =>
    cases fl with
    | ret obj =>
      obtain ⟨rfl, rfl⟩ := hr
      have hS : (s.heap.push (newS w)).get? s.heap.objs.size = some (newS w) := Heap.get?_push_size _ rfl
      have hT : Shared.TypeIs { s with heap := s.heap.push (newS w) } (.ref s.heap.objs.size) "set" := ⟨_, hS, rfl⟩
      have hli := PySem.F.called_set.init.lookup
      have hbi := PySem.F.called_set.init.bind (.ref s.heap.objs.size)
      repeat (any_goals (first | assumption | wp_step))

      refine codeAny_mono (codeAny_call_builtin (R := wants (fun r s₂ => r = .none ∧ ∃ h' tk, s₂ = { s with heap := h', toks := tk } ∧ SetS w h' s.heap.objs.size (addsS xs) ∧
          (∀ b o, b < s.heap.objs.size → s.heap.get? b = some o → h'.get? b = some o)) E) PySem.F.called_set.init.plain PySem.F.entry_set_init (check_set_init_1 hT ?_)) fun r₂ s₂ hr₂ => ?_
      · obtain ⟨ol, hol, hcl, nl, hdl⟩ := hl
        obtain ⟨ocls, odict, odata, oslots⟩ := ol
        simp only at hcl hdl
        subst hcl
        subst hdl
        have hol' : (s.heap.push (newS w)).get? l = some { cls := .type "list", dict := odict, data := .seq items nl, slots := oslots } := Heap.get?_push_of_some _ hol
        have hsls := PySem.F.sub_list_set
        have hslf := PySem.F.sub_list_frozenset
        have hne : (Value.type "list" == Value.type "dict") = false := by decide
        have hl1 : (s.heap.push (newS w)).IsList l items := ⟨_, hol', rfl, nl, rfl⟩
        unfold Builtin.«set.__init__» noKeywords Builtin.Frozenset.updateFrom
        generalize hPI : pyIter = PI
        wp_walk
        subst hPI
        refine wpAny_pyIter_list hl1 ?_
        refine wpAny_bind (wpAny_runValue ?_)
        have lt := Heap.lt_size hol
        have hh3 : A.in1.in1.in1.handled = none := by simp [hh]
        have z1 : (s.heap.push (newS w)).objs.size = s.heap.objs.size + 1 := Heap.size_push _ _
        have hneI : l ≠ (s.heap.push (newS w)).objs.size := by
          rw [z1]
          exact Nat.ne_of_lt (Nat.lt_succ_of_lt lt)
        have hSf : s.heap.objs.size ∉ [(s.heap.push (newS w)).objs.size, l] := by
          rw [z1]
          simp only [List.mem_cons, List.mem_singleton, List.not_mem_nil, or_false, not_or]
          exact ⟨Nat.ne_of_lt (Nat.lt_succ_self _), Nat.ne_of_gt lt⟩
        have hsz : xs.length = items.size := by rw [← StrsAre.len_eq hi, Array.length_toList]
        have hval : ∀ (i : Nat) (v : Value), items[i]? = some v → ∃ t, v = .str (xs.getD i Str.empty) t := fun i v hv => SS.strs_at hi i v (by rw [Array.getElem?_toList]; exact hv)
        refine loopT ((Walks.list hh3 _ l hneI items).toS) s.heap.objs.size hSf xs hsz (by rw [← hsz]; exact hb) hval (items.size - 0) 0 _ (by omega) (Nat.zero_le _) ⟨⟨_, Heap.get?_push_size _ rfl, rfl, rfl⟩, (hl1.push _)⟩ (newS_ok (Heap.get?_push_of_some _ hS)) ?hR
        case hR =>
          intro s' hm hS'
          obtain ⟨h', g', d', tk', os'⟩ := s'
          have eg : g' = s.gens := hm.gens
          have ed : d' = s.drawn := hm.drawn
          have eo : os' = s.os := hm.os
          subst eg
          subst ed
          subst eo
          show wpAny _ _ _ _ _ _
          refine wpAny_pure ?_
          show wpAny _ _ (ret Value.none) _ _ _
          refine wpAny_pure ⟨rfl, h', tk', rfl, hS', fun b o hb e => ?_⟩
          refine hm.heap b o ?_ (Heap.get?_push_of_some _ (Heap.get?_push_of_some _ e))
          simp only [List.mem_cons, List.mem_singleton, List.not_mem_nil, or_false, not_or]
          refine ⟨Nat.ne_of_lt hb, ?_⟩
          rw [z1]
          exact Nat.ne_of_lt (Nat.lt_succ_of_lt hb)
      · cases r₂ with
        | error e => exact hr₂
        | ok fl₂ =>
          cases fl₂ with
          | ret r =>
            obtain ⟨rfl, h', tk, rfl, hS', hk'⟩ := hr₂
            repeat (any_goals (first | assumption | wp_step))
            exact h _ _ hS' hk'
          | _ => exact hr₂.elim
    | _ => exact hr.elim
end
end En
set_option maxHeartbeats 6400000
/-! Eq10: sorted of a set of texts. -/
namespace En
open PySem PySem.Spec PyProof.Rows L2
section
variable {prog : Program} {w : World} {A : Around} {E : Value → Shared → Prop} {s : Shared} {a : Addr} {l : List Str}
theorem strs_of_key : ∀ (vs : List Value), (∀ v ∈ vs, ∃ x tk, v = Value.str x tk) → StrsAre vs (vs.map fun v => keyS (0, v))
  | [], _ => .nil
  | v :: vs, h => by
    obtain ⟨x, tk, rfl⟩ := h v List.mem_cons_self
    exact .cons x tk (strs_of_key vs fun u hu => h u (List.mem_cons_of_mem _ hu))
theorem sorted_setS {Q : Value → Shared → Prop} (R : SetS w s.heap a l) (hh : A.handled = none) (h64 : l.length < 64)
    (hQ : ∀ s' p (out : Array Value) (c : Nat) (ys : List Str), (∀ b o, s.heap.get? b = some o → s'.heap.get? b = some o) → s'.gens = s.gens → s'.os = s.os → s.heap.objs.size ≤ p →
      s'.heap.get? p = some (seqObj "list" out c) → StrsAre out.toList ys → ys.Perm l → sortedS ys = true → Q (.ref p) s') :
    wpAny (model prog w) A (call (.builtin "sorted") [.ref a]) Q E s := by
  obtain ⟨o, es, ep, t, ho, hex, hd, g, pm0, nd, hb, hf, hr, hl⟩ := R
  refine Calls.call_function_entry kind_sorted plain_sorted entry_sorted (args_sorted1 _) ?_
  unfold Builtin.«sorted»
  refine wpAny_bind (m := checkCount "sorted" 1 1 _) (wpAny_pure ?_)
  refine wpAny_bind (collect_set (A := A.in1) hh ⟨o, ho, hex.1, hd⟩ hf hb hr hl fun s1 vs k1 hz g1 o1 pm => ?_)
  have hvl : vs.length = l.length := by
    have e := pm0.length_eq
    rw [List.length_map] at e
    rw [pm.length_eq, List.length_map]
    exact e
  have hI : StrsAre vs (vs.map fun v => keyS (0, v)) := strs_of_key vs fun v hv => by
    obtain ⟨e, he, q⟩ := List.mem_map.mp (pm.mem_iff.mp hv)
    obtain ⟨x, tk, h1, _⟩ := g e he
    exact ⟨x, tk, by rw [← q]; exact h1⟩
  have pk : (vs.map fun v => keyS (0, v)).Perm l := by
    have q := pm.map fun v => keyS (0, v)
    rw [List.map_map] at q
    exact q.trans pm0
  refine wpAny_bind (wpAny_newList ?_ (by rw [hvl, sizeLine_eq]; omega))
  have hoL : (s1.heap.push (seqObj "list" vs.toArray 0)).get? s1.heap.objs.size = some (seqObj "list" vs.toArray 0) := Heap.get?_push_size _ rfl
  refine wpAny_bind (wpAny_holding (wpAny_call_entry slot_list_sort ⟨_, hoL, rfl⟩ entry_list_sort (list_sort_treeK strKind_oneLt hoL hI.keysOf (fun v₁ v₂ rest e => keyKind_strs (by rw [← e]; exact hI)) (by rw [hvl]; exact h64) fun st' hp hs => ⟨_, rfl, ?_⟩) (args_list_sort _)))
  obtain ⟨ys, h1, h2, h3⟩ := sorted_out_str hI hp hs
  obtain ⟨c, hc⟩ := sortedHeap_at (vs := vs) (out := (arrOf st').map (·.2)) hoL
  refine wpAny_pure ⟨_, rfl, hQ _ s1.heap.objs.size _ c ys (fun b u e => ?_) g1 o1 hz hc h1 (h2.trans pk) h3⟩
  have q := k1 b u e
  have hlt := Heap.lt_size q
  show (sortedHeap (s1.heap.push (seqObj "list" vs.toArray 0)) s1.heap.objs.size vs _).get? b = some u
  rw [sortedHeap_old (Nat.ne_of_lt hlt) (by rw [size_push']; exact Nat.lt_succ_of_lt hlt)]
  exact Heap.get?_push_of_some _ q
end
end En
set_option maxHeartbeats 6400000
/-! Eq11: sorted(set(xs)), xs a list of texts. -/
namespace En
open PySem PySem.Spec PyProof.Rows L2
def tSS (K : PySem.W.Frag) (ta : TE) : TE := fun σ H Q => ta σ H fun x H1 => ∃ l, ∃ xs : List Str, x = .ref l ∧ SqL K H1 l (xs.map V.str) ∧ xs.length < 63 ∧ ∀ p, H1 p = none → ∀ ys : List Str, ys.Perm (addsS xs) → sortedS ys = true → Q (.ref p) (upd H1 p (.lst (ys.map V.str)))
theorem bootS : bootBuiltins "sorted" = some (.builtin "sorted") := by decide +kernel
theorem bootT : bootBuiltins "set" = some (.type "set") := by decide +kernel
theorem pe_sset {X : Cx} {a : Expr} {ta : TE} {p p2 q pos : Pos} (hc : X.calm = true) (hg : Gl X "sorted") (hm : X.mg "sorted" = none) (hg2 : Gl X "set") (hm2 : X.mg "set" = none) (ha : PE X a ta)
    (na : starEach [a] X.env = (false, eval a X.env) :: starEach [] X.env) (hpl : (backTo q (starEach [] X.env)).any (·.1) = false) (nb : starEach [.Call (.Name "set" p2) [a] [] q] X.env = (false, eval (.Call (.Name "set" p2) [a] [] q) X.env) :: starEach [] X.env) (hpl2 : (backTo pos (starEach [] X.env)).any (·.1) = false) :
    PE X (.Call (.Name "sorted" p) [.Call (.Name "set" p2) [a] [] q] [] pos) (tSS X.K ta) := by
  refine ⟨fun pins s σ H Q I h => ?_⟩
  refine Call_ (ld_blt I hg hm bootS ?_)
  refine PyProof.Rows.callWith_builtin1 (PyProof.Rows.args_cons ?_ nb) nb hpl2
  refine Call_ (ld_blt I hg2 hm2 bootT ?_)
  refine PyProof.Rows.callWith_type1 (PyProof.Rows.args_cons (thn (ha.run pins s σ H _ I h) fun v s1 ⟨x, H1, I1, r1, q1⟩ => PyProof.Rows.args_nil ?_) na) na hpl
  obtain ⟨l, xs, rfl, hq, h1, q1⟩ := q1
  cases r1
  obtain ⟨its, r, pl, hz⟩ := I1.list hq
  have hl0 : (addsS xs).length ≤ xs.length := by
    have := addsS_len xs []
    rw [List.length_nil, Nat.zero_add] at this
    exact this
  refine call_setT (I1.ok.hd hc) pl.isList (by simpa using strs_of_vals r) (by unfold scanBound; omega) fun h' tk hS hk => ?_
  refine PyProof.Rows.args_nil ?_
  have I2 : L2.Inv X pins σ H1 { s1 with heap := h', toks := tk } := I1.kept fun b o e => hk b o (Heap.lt_size e) e
  refine sorted_setS hS (I1.ok.hd hc) (by omega) fun s' p out c ys k g1 o1 lp e st pm so => ?_
  have hlen : (ys.map V.str).length ≤ sizeLine := by
    rw [List.length_map, pm.length_eq, sizeLine_eq]
    omega
  have hn : H1 p = none := I2.hok.fresh lp
  have J : L2.Inv X pins σ (upd H1 p (.lst (ys.map V.str))) { { s1 with heap := h', toks := tk } with heap := s'.heap, gens := s'.gens, drawn := s'.drawn, toks := s'.toks } :=
    I2.call (ch := []) (Un.laid k lp hn) (I2.hok.laid k lp ⟨hlen, out.toList, c, vals_of_strs st, e⟩) (by rw [g1]; exact I2.bare) (fun _ z => nomatch z)
  have es : s' = { { s1 with heap := h', toks := tk } with heap := s'.heap, gens := s'.gens, drawn := s'.drawn, toks := s'.toks } := by
    cases s'
    cases s1
    cases o1
    rfl
  rw [es]
  exact ⟨.ref p, _, J, rfl, q1 p hn ys pm so⟩
end En
set_option maxHeartbeats 4000000
/-! Eq12: the one sorted arrangement; sorted(set(..)) on data. -/
namespace En
open PySem PySem.Spec PyProof.Rows L2
def leS (a b : Str) : Prop := a.cps.toList ≤ b.cps.toList
theorem leS_of {a b : Str} : ltCps b.cps.toList a.cps.toList = false ↔ leS a b := by
  rw [ltCps_eq, decide_eq_false_iff_not]
  exact List.not_lt
theorem leS_trans {a b c : Str} (h : leS a b) (h' : leS b c) : leS a c := List.le_trans h h'
theorem leS_anti {a b : Str} (h : leS a b) (h' : leS b a) : a = b := by
  have e : a.cps.toList = b.cps.toList := List.le_antisymm h h'
  cases a
  cases b
  simp only at e
  rw [Array.toList_inj] at e
  rw [e]
theorem rising_all : ∀ {p : Str} {l : List Str}, risingS p l = true → ∀ x ∈ l, leS p x
  | p, [], _, x, hx => by cases hx
  | p, y :: r, h, x, hx => by
    have h' : (!ltCps y.cps.toList p.cps.toList && risingS y r) = true := h
    simp only [Bool.and_eq_true, Bool.not_eq_true'] at h'
    have h1 := leS_of.1 h'.1
    rcases List.mem_cons.mp hx with z | z
    · rw [z]
      exact h1
    · exact leS_trans h1 (rising_all h'.2 x z)
theorem rising_tail : ∀ {p : Str} {l : List Str}, risingS p l = true → sortedS l = true
  | p, [], _ => rfl
  | p, y :: r, h => by
    have h' : (!ltCps y.cps.toList p.cps.toList && risingS y r) = true := h
    simp only [Bool.and_eq_true] at h'
    exact h'.2
theorem leS_refl (a : Str) : leS a a := List.le_refl _
theorem sorted_one : ∀ {ys zs : List Str}, ys.Perm zs → sortedS ys = true → sortedS zs = true → ys = zs
  | [], zs, p, _, _ => p.nil_eq
  | y :: r, [], p, _, _ => absurd p.length_eq (by simp)
  | y :: r, z :: t, p, h1, h2 => by
    have a1 : leS y z := by
      rcases List.mem_cons.mp (p.mem_iff.mpr List.mem_cons_self : z ∈ y :: r) with q | q
      · rw [q]
        exact leS_refl _
      · exact rising_all h1 z q
    have a2 : leS z y := by
      rcases List.mem_cons.mp (p.mem_iff.mp List.mem_cons_self : y ∈ z :: t) with q | q
      · rw [q]
        exact leS_refl _
      · exact rising_all h2 y q
    obtain rfl := leS_anti a1 a2
    rw [sorted_one p.cons_inv (rising_tail h1) (rising_tail h2)]
def insS (x : Str) : List Str → List Str
  | [] => [x]
  | y :: r => if ltCps y.cps.toList x.cps.toList then y :: insS x r else x :: y :: r
def srtS : List Str → List Str
  | [] => []
  | x :: r => insS x (srtS r)
theorem insS_perm (x : Str) : ∀ l : List Str, (insS x l).Perm (x :: l)
  | [] => .refl _
  | y :: r => by
    unfold insS
    split
    · exact ((insS_perm x r).cons y).trans (List.Perm.swap _ _ _)
    · exact .refl _
theorem srtS_perm : ∀ l : List Str, (srtS l).Perm l
  | [] => .refl _
  | x :: r => (insS_perm x (srtS r)).trans ((srtS_perm r).cons x)
theorem rise_of {p : Str} {l : List Str} (h : sortedS l = true) (h' : ∀ x ∈ l, leS p x) : risingS p l = true := by
  cases l with
  | nil => rfl
  | cons y r =>
    show (!ltCps y.cps.toList p.cps.toList && risingS y r) = true
    rw [leS_of.2 (h' y List.mem_cons_self)]
    exact h
theorem insS_sorted (x : Str) : ∀ l : List Str, sortedS l = true → sortedS (insS x l) = true
  | [], _ => rfl
  | y :: r, h => by
    unfold insS
    cases c : ltCps y.cps.toList x.cps.toList with
    | true =>
      rw [if_pos rfl]
      refine rise_of (insS_sorted x r (rising_tail h)) fun z hz => ?_
      rcases List.mem_cons.mp ((insS_perm x r).mem_iff.mp hz) with q | q
      · rw [q]
        rw [ltCps_eq, decide_eq_true_eq] at c
        exact List.le_of_lt c
      · exact rising_all h z q
    | false =>
      rw [if_neg (by decide)]
      refine rise_of h fun z hz => ?_
      rcases List.mem_cons.mp hz with q | q
      · rw [q]
        exact leS_of.1 c
      · exact leS_trans (leS_of.1 c) (rising_all h z q)
theorem srtS_sorted : ∀ l : List Str, sortedS (srtS l) = true
  | [] => rfl
  | x :: r => insS_sorted x _ (srtS_sorted r)
theorem srtS_one {ys l : List Str} (p : ys.Perm l) (h : sortedS ys = true) : ys = srtS l := sorted_one (p.trans (srtS_perm l).symm) h (srtS_sorted l)
end En
set_option maxHeartbeats 4000000
/-! Eq13: sorted(set(e)) of texts, its action. -/
namespace En
open PySem PySem.Spec PyProof.Rows L2
def ssA (m : Ac Rv) : Ac Rv := m.bind fun x => (lookA x).bind fun w => match w.lst.bind strsOf with
  | some xs => if xs.length < 63 then Ac.ret (.own (.lst ((srtS (addsS xs)).map .str))) else Ac.stk
  | none => Ac.stk
section
variable {W : Wd} {wx : WX} {X : Cx}
theorem se_ss {a : Expr} {m : Ac Rv} {p p2 q pos : Pos} (hK : X.K = W.K) (hc : X.calm = true) (hg : Gl X "sorted") (hm : X.mg "sorted" = none) (hg2 : Gl X "set") (hm2 : X.mg "set" = none) (ha : SE W wx X m a)
    (na : starEach [a] X.env = (false, eval a X.env) :: starEach [] X.env) (hpl : (backTo q (starEach [] X.env)).any (·.1) = false) (nb : starEach [.Call (.Name "set" p2) [a] [] q] X.env = (false, eval (.Call (.Name "set" p2) [a] [] q) X.env) :: starEach [] X.env) (hpl2 : (backTo pos (starEach [] X.env)).any (·.1) = false) :
    SE W wx X (ssA m) (.Call (.Name "sorted" p) [.Call (.Name "set" p2) [a] [] q] [] pos) := peImp (pe_sset hc hg hm hg2 hm2 ha na hpl nb hpl2) fun σ H Q hh => by
  obtain ⟨g, P, s, r, q⟩ := hh
  refine ⟨g, P, s, r, (Post.bindE q).mono fun y s1 g1 H1 l1 r1 q1 v hv => ?_⟩
  obtain ⟨w, e1, q2⟩ := Post.lookE q1
  cases e2 : w.lst.bind strsOf with
  | none =>
    simp only [e2] at q2
    exact q2.elim
  | some xs =>
    simp only [e2] at q2
    obtain ⟨ds, e3, e4⟩ := Option.bind_eq_some_iff.mp e2
    obtain ⟨a', vs, rfl, k1, k2⟩ := (look_ok r1 hv e1).lst r1 e3
    obtain rfl := strsOf_ok k2 e4
    by_cases hl : xs.length < 63
    · rw [if_pos hl] at q2
      refine ⟨a', xs, rfl, SqL.of k1, hl, fun pp hp ys pm so => ?_⟩
      obtain rfl := srtS_one pm so
      obtain ⟨n1, n2⟩ := r1.newOwn (o := .lst ((srtS (addsS xs)).map .str)) (ho := .lst ((srtS (addsS xs)).map V.str)) hp (Rs.strs _)
      exact q2 g1 _ (.refl g1) n1 _ n2
    · rw [if_neg hl] at q2
      exact q2.elim
end
end En
set_option maxHeartbeats 4000000
/-! Ex1: error classes of the program: their own __init__, making them. -/
namespace En
open PySem PySem.Spec PyProof.Rows L2 PySem.Calls Builtin Builtin.ObjectAttr
/-- an error class, its __init__ at f -/
structure ExC (K : PySem.W.Frag) (C f : Addr) : Prop where
  base : ∃ B newId initId bmB, ExcBaseFacts B newId initId bmB ∧ PySem.StoreFacts B bmB "object.__setattr__" "object" ∧ PySem.W.excInitIn K C bmB newId = true ∧ PySem.W.excOver K C bmB = true
  hd : PySem.W.hasDictIn K C = true
  sa : PySem.W.findIn K (.ref C) "__setattr__" = some (some (.builtin "object.__setattr__"))
  exC : PySem.W.subIn K (.ref C) (.type "BaseException") = some true
  tyC : PySem.W.typeIn K (.ref C) = some (.type "type")
  kC : PySem.W.keepIn K (.ref C) = true
  ini : PySem.W.findIn K (.ref C) "__init__" = some (some (.ref f))
  tI : PySem.W.typeIn K (.ref f) = some (.type "function")
section
variable {X : Cx} {pins : List (Addr × Obj)} {σ : L2.St} {H : Hp} {s : Shared} {a C g dx : Addr} {f : Str} {y : V} {u : Value} {fs : List (Str × V)} {Q : Unit → Shared → Prop} {E : Value → Shared → Prop} {A : Around}
theorem taker_none {K : PySem.W.Frag} (h : PySem.W.findIn K (.ref C) f = some none) : PySem.W.takerIn K C f = some none := by
  unfold PySem.W.takerIn
  rw [h]
  rfl
/-- the class's data -/
theorem cd_of {K : PySem.W.Frag} (h : PySem.W.hasDictIn K C = true) : ∃ cd, PySem.W.clsIn K C = some cd ∧ cd.hasDict = true := by
  obtain ⟨cd, h1, h2⟩ := PySem.W.any_some h
  exact ⟨cd, h1, h2⟩
/-- the first field of an error -/
theorem exs_new (T : ExC X.K C g) (I : L2.Inv X pins σ H s) (e : H a = some (L2.exo a C none)) (hno : PySem.W.findIn X.K (.ref C) f = some none) (ry : L2.RelV y u)
    (h : ∀ dx s', H dx = none → dx ≠ a → L2.Inv X pins σ (upd (upd H dx (L2.exd dx [(f, y)])) a (L2.exo a C (some dx))) s' → Q () s') : wpAny (model X.prog X.w) A (setAttr (.ref a) f u) Q E s := by
  obtain ⟨B, newId, initId, bmB, FB, SF, hin, hov⟩ := T.base
  obtain ⟨cd, hcd, hhd⟩ := cd_of T.hd
  obtain ⟨t1, ho⟩ := L2.exo_at I.hok e
  obtain ⟨hp, gg, d, t, os⟩ := s
  have J : PySem.W.InstAt hp a ({ cls := .ref C, dict := none, data := .fields #[.ref t1, .none, .none, .none, .bool false, .none] } : Obj) C none := ⟨ho, rfl, rfl, trivial⟩
  have KX : X.K.In hp := I.kIn
  have hxs : a ≠ hp.objs.size := Nat.ne_of_lt (Heap.lt_size ho)
  refine PySem.W.set_plain KX J T.sa (PySem.W.osa_openX SF KX J hov (taker_none hno) fun b => ?_)
  have hcls : PySem.W.Looks (model X.prog X.w) hp (classData C) cd := PySem.W.looks_clsIn KX hcd
  show wpAny _ _ (storeInOwnDict (.ref a) (.ref C) (.str f t) f u b) _ _ _
  obtain ⟨c1, c2, c3, c4, c5, hd, c7, c8, c9, c10, c11⟩ := cd
  dsimp only at hhd
  subst hhd
  unfold storeInOwnDict ownDictForStores
  repeat (first | with_reducible refine PySem.HandSPX.store_in_new ?_ ?_ | with_reducible refine wpAny_loadPart_at ho ?_ | with_reducible refine hcls.at ?_ | wp_step)
  · exact ⟨_, #[], _, (Heap.get?_update_ne _ _ _ _ hxs.symm).trans (Heap.get?_push_at rfl rfl), rfl, fun e he => absurd he (by simp), fun _ => rfl⟩
  intro h' tk' hn hs
  have hx1 : (hp.push { cls := .type "dict", data := .dict #[] }).get? a = some ({ cls := .ref C, dict := none, data := .fields #[.ref t1, .none, .none, .none, .bool false, .none] } : Obj) := Heap.get?_push_of_some _ ho
  have k : ∀ c o, c ≠ a → hp.get? c = some o → h'.get? c = some o := fun c o hc ho => (hs.2 c (Nat.ne_of_lt (Heap.lt_size ho))).trans ((Heap.get?_update_ne _ _ _ _ hc).trans (Heap.get?_push_of_some _ ho))
  have hx : h'.get? a = some ({ cls := .ref C, dict := some hp.objs.size, data := .fields #[.ref t1, .none, .none, .none, .bool false, .none] } : Obj) := (hs.2 a hxs).trans (Heap.get?_update_self _ hx1 rfl)
  have hnd : H hp.objs.size = none := I.hok.fresh (Nat.le_refl _)
  have nd : ∀ {c : Addr} {o : Obj}, hp.get? c = some o → c ≠ hp.objs.size := fun {c o} q => Nat.ne_of_lt (Heap.lt_size q)
  have na : ∀ {c : Addr}, H c = none → c ≠ a := fun {c} n z => by
    rw [z, e] at n
    cases n
  have U : Un X.fs [] H (upd (upd H hp.objs.size (L2.exd hp.objs.size [(f, y)])) a (L2.exo a C (some hp.objs.size))) hp h' :=
    ⟨fun c o q n _ _ => k c o (na n) q, fun c o q n _ _ => ⟨o.slots, k c o (na n) q⟩, fun c o q n _ => by rw [upd_ne (na n), upd_ne (nd q)]; exact n, fun c o q _ => by
      by_cases hc : c = a
      · exact ⟨_, by rw [hc]; exact hx⟩
      · exact ⟨o, k c o hc q⟩, fun c xs q => by rw [upd_ne (L2.at_ne e q L2.exo_tup), upd_ne (ne_of_none q hnd)]; exact q, fun c o v q => by rw [upd_ne (L2.at_ne e q L2.exo_frz), upd_ne (ne_of_none q hnd)]; exact q,
      fun c ps q => ⟨#[], by rw [upd_ne (L2.at_ne e q L2.exo_tbl), upd_ne (ne_of_none q hnd), q]; simp⟩⟩
  refine h hp.objs.size _ hnd hxs.symm (I.un (t' := tk') U fun c o q => ?_)
  by_cases hc : c = a
  · subst hc
    rw [upd_same] at q
    cases q
    exact L2.exo_ok hx
  · rw [upd_ne hc] at q
    by_cases hd : c = hp.objs.size
    · subst hd
      rw [upd_same] at q
      cases q
      exact L2.exd_ok hn (L2.relO_put (fs := []) ry fun _ => True.intro)
    · rw [upd_ne hd] at q
      exact (I.hok c o q).stay (fun c2 v hc2 z => k c2 v (by
          rcases hc2 with hc2 | hc2
          · rw [hc2]
            exact hc
          · exact L2.at_ne e hc2 L2.exo_own) z)
        (fun c2 hc2 => by rw [upd_ne (L2.at_ne e hc2 L2.exo_own), upd_ne (ne_of_none hc2 hnd)]; exact hc2) fun c2 xs hc2 => by rw [upd_ne (L2.at_ne e hc2 L2.exo_tup), upd_ne (ne_of_none hc2 hnd)]; exact hc2
/-- a further field -/
theorem exs_old (T : ExC X.K C g) (I : L2.Inv X pins σ H s) (e : H a = some (L2.exo a C (some dx))) (ed : H dx = some (L2.exd dx fs)) (hl : fs.length ≤ 900) (hno : PySem.W.findIn X.K (.ref C) f = some none) (ry : L2.RelV y u)
    (h : ∀ s', L2.Inv X pins σ (upd H dx (L2.exd dx ((f, y) :: fs))) s' → Q () s') : wpAny (model X.prog X.w) A (setAttr (.ref a) f u) Q E s := by
  obtain ⟨B, newId, initId, bmB, FB, SF, hin, hov⟩ := T.base
  obtain ⟨cd, hcd, hhd⟩ := cd_of T.hd
  obtain ⟨t1, ho⟩ := L2.exo_at I.hok e
  obtain ⟨mA, hns, rel⟩ := L2.exd_at I.hok ed
  have hw := L2.within_of rel
  obtain ⟨hp, gg, d, t, os⟩ := s
  obtain ⟨oD, _, _, hoD, _, _⟩ := hns.count hw
  have KX : X.K.In hp := I.kIn
  have J : PySem.W.InstAt hp a ({ cls := .ref C, dict := some dx, data := .fields #[.ref t1, .none, .none, .none, .bool false, .none] } : Obj) C (some oD) := ⟨ho, rfl, rfl, hoD⟩
  refine PySem.W.set_plain KX J T.sa (PySem.W.osa_openX SF KX J hov (taker_none hno) fun b => ?_)
  have hcls : PySem.W.Looks (model X.prog X.w) hp (classData C) cd := PySem.W.looks_clsIn KX hcd
  show wpAny _ _ (storeInOwnDict (.ref a) (.ref C) (.str f t) f u b) _ _ _
  obtain ⟨c1, c2, c3, c4, c5, hd, c7, c8, c9, c10, c11⟩ := cd
  dsimp only at hhd
  subst hhd
  have hz : (fs.map (·.1)).length ≤ 1000 := by
    rw [List.length_map]
    omega
  unfold storeInOwnDict ownDictForStores
  repeat (first | with_reducible refine PySem.OEX.store_in_old hns hw hz ?_ | with_reducible refine wpAny_loadPart_at ho ?_ | with_reducible refine hcls.at ?_ | wp_step)
  intro h' tk' hn hs
  have hd : ∃ o, h'.get? dx = some o := by
    obtain ⟨o, _, _, e', _⟩ := hn
    exact ⟨o, e'⟩
  exact h _ (I.write (t' := tk') (x := dx) (e := dx) (o := L2.exd dx ((f, y) :: fs)) (by rw [ed]; exact True.intro) (.inl rfl) (fun c o hc ho => (hs.2 c hc).trans ho) hd (L2.exd_ok hn (L2.relO_put ry rel)))
end
end En
set_option maxHeartbeats 4000000
/-! Ex2: the __init__ of an error class; an error is made. -/
namespace En
open PySem PySem.Spec PyProof.Rows L2
def mapO {α β : Type} (f : α → Option β) : List α → Option (List β)
  | [] => some []
  | a :: r => match f a, mapO f r with
    | some b, some bs => some (b :: bs)
    | _, _ => none
def ixOf (x : Str) : List Str → Option Nat
  | [] => none
  | y :: r => if y = x then some 0 else (ixOf x r).map (· + 1)
/-- self.f = p -/
def inOne (sf : Str) (r : List Str) : Stmt → Option (Str × Nat)
  | .Assign [.Attribute (.Name o _) f _] (.Name p _) _ => if o = sf then (ixOf p r).map fun i => (f, i) else none
  | _ => none
/-- the fields of an error, the last one first -/
def xFs {α : Type} (vs : List α) : List (Str × Nat) → List (Str × α) → Option (List (Str × α))
  | [], l => some l
  | p :: r, l => match vs[p.2]? with
    | some v => xFs vs r ((p.1, v) :: l)
    | none => none
/-- what an error's __init__ promises: the values behind self make the fields -/
def spE (C : Addr) (fl : List (Str × Nat)) (n : Nat) : Sp := fun vs H Q E => ∃ a us fs, vs = V.ref a :: us ∧ us.length = n ∧ xFs us fl [] = some fs ∧ H a = some (L2.exo a C none) ∧ ∀ d, H d = none → d ≠ a → Q .non (upd (upd H d (L2.exd d fs)) a (L2.exo a C (some d)))
section
variable {X : Cx} {pins : List (Addr × Obj)} {σ : L2.St} {a C g d : Addr} {sf : Str} {r : List Str} {us : List V}
theorem ixOf_at {x : Str} : ∀ {l : List Str} {i : Nat}, ixOf x l = some i → l[i]? = some x
  | [], _, h => by cases h
  | y :: l, i, h => by
    unfold ixOf at h
    split at h
    · rename_i e
      cases h
      rw [e]
      rfl
    · obtain ⟨j, h1, rfl⟩ := Option.map_eq_some_iff.mp h
      show l[j]? = some x
      exact ixOf_at h1
structure InNames (X : Cx) (σ : L2.St) (a : Addr) (sf : Str) (r : List Str) (us : List V) : Prop where
  n0 : X.N[0]? = some sf
  s0 : σ[0]? = some (some (.ref a))
  v0 : Vis X.env.scope sf
  nr : ∀ (i : Nat) (x : Str), r[i]? = some x → X.N[i + 1]? = some x ∧ Vis X.env.scope x
  sr : ∀ (i : Nat) (v : V), us[i]? = some v → σ[i + 1]? = some (some v)
  dbg : ∀ x, x = sf ∨ x ∈ r → (x == ("__debug__" : Str)) = false ∧ (x == ("__classdict__" : Str)) = false
theorem in_one (T : ExC X.K C g) (nm : InNames X σ a sf r us) {st : Stmt} {f : Str} {i : Nat} {v : V} {H : Hp} {s : Shared} {Q : Flow → Shared → Prop} (h : inOne sf r st = some (f, i)) (hv : us[i]? = some v) (I : L2.Inv X pins σ H s)
    (hq : ∀ u, L2.RelV v u → ∀ s', L2.Inv X pins σ H s' → wpAny (model X.prog X.w) X.A (setAttr (.ref a) f u) (fun _ s' => Q .next s') X.xe s') : wpAny (model X.prog X.w) X.A (exec st X.env) Q X.xe s := by
  unfold inOne at h
  split at h
  · rename_i o p1 f' p2 p p3 pos
    split at h
    · rename_i e
      subst e
      obtain ⟨j, hj, e2⟩ := Option.map_eq_some_iff.mp h
      cases e2
      have hr := ixOf_at hj
      obtain ⟨k1, k2⟩ := nm.nr i p hr
      have d1 := nm.dbg p (.inr (List.mem_of_getElem? hr))
      have d0 := nm.dbg _ (.inl rfl)
      refine plainObj_wpAny_Assign_Attribute (thn ((pe_var k1 k2 d1.1 d1.2).run pins s σ H (fun x H1 => x = v ∧ H1 = H) I ⟨v, nm.sr i v hv, rfl, rfl⟩) fun u s1 ⟨x, H1, I1, rx, ex, eH⟩ =>
        thn ((pe_var nm.n0 nm.v0 d0.1 d0.2).run pins s1 σ H1 (fun x H2 => x = .ref a ∧ H2 = H) I1 ⟨_, nm.s0, rfl, eH⟩) fun o s2 ⟨z, H2, I2, rz, ez, eH2⟩ => ?_) rfl
      subst ex eH ez eH2
      obtain rfl : o = Value.ref a := rz
      exact hq u rx s2 I2
    · cases h
  · cases h
theorem in_rest (T : ExC X.K C g) (nm : InNames X σ a sf r us) {Q : Flow → Shared → Prop} : ∀ (sts : List Stmt) (fl : List (Str × Nat)) (fs0 fs : List (Str × V)) (H : Hp) (s : Shared), mapO (inOne sf r) sts = some fl → (∀ p ∈ fl, PySem.W.findIn X.K (.ref C) p.1 = some none) →
    xFs us fl fs0 = some fs → fs0.length + fl.length ≤ 900 → L2.Inv X pins σ H s → H a = some (L2.exo a C (some d)) → H d = some (L2.exd d fs0) → d ≠ a → (∀ s', L2.Inv X pins σ (upd H d (L2.exd d fs)) s' → Q .next s') → wpAny (model X.prog X.w) X.A (execs sts X.env) Q X.xe s
  | [], fl, fs0, fs, H, s, h, _, hx, _, I, _, ed, _, hq => by
    cases h
    cases hx
    have e : upd H d (L2.exd d fs0) = H := by
      funext b
      by_cases hb : b = d
      · rw [hb, upd_same, ed]
      · rw [upd_ne hb]
    rw [e] at hq
    exact wpAny_execs_nil (hq s I)
  | st :: sts, fl, fs0, fs, H, s, h, hf, hx, hl, I, ea, ed, hne, hq => by
    unfold mapO at h
    split at h
    · rename_i p ps h1 h2
      cases h
      obtain ⟨f, i⟩ := p
      unfold xFs at hx
      split at hx
      · rename_i v hv
        refine wpAny_execs_cons (in_one T nm h1 hv I fun u ru s1 I1 => ?_)
        refine exs_old T I1 ea ed (by simp only [List.length_cons] at hl; omega) (hf _ List.mem_cons_self) ru fun s2 I2 => ?_
        refine in_rest T nm sts ps ((f, v) :: fs0) fs _ s2 h2 (fun p hp => hf p (List.mem_cons_of_mem _ hp)) hx (by simp only [List.length_cons] at hl ⊢; omega) I2 (by rw [upd_ne (Ne.symm hne)]; exact ea) upd_same hne fun s3 I3 => ?_
        rw [upd_upd] at I3
        exact hq s3 I3
      · cases hx
    · cases h
theorem in_all (T : ExC X.K C g) (nm : InNames X σ a sf r us) {Q : Flow → Shared → Prop} {sts : List Stmt} {fl : List (Str × Nat)} {fs : List (Str × V)} {H : Hp} {s : Shared} (h : mapO (inOne sf r) sts = some fl) (hf : ∀ p ∈ fl, PySem.W.findIn X.K (.ref C) p.1 = some none) (hn : fl ≠ [])
    (hx : xFs us fl [] = some fs) (hl : fl.length ≤ 900) (I : L2.Inv X pins σ H s) (ea : H a = some (L2.exo a C none)) (hq : ∀ d s', H d = none → d ≠ a → L2.Inv X pins σ (upd (upd H d (L2.exd d fs)) a (L2.exo a C (some d))) s' → Q .next s') : wpAny (model X.prog X.w) X.A (execs sts X.env) Q X.xe s := by
  cases sts with
  | nil =>
    cases h
    exact absurd rfl hn
  | cons st sts =>
    unfold mapO at h
    split at h
    · rename_i p ps h1 h2
      cases h
      obtain ⟨f, i⟩ := p
      unfold xFs at hx
      split at hx
      · rename_i v hv
        refine wpAny_execs_cons (in_one T nm h1 hv I fun u ru s1 I1 => ?_)
        refine exs_new T I1 ea (hf _ List.mem_cons_self) ru fun d s2 hd hne I2 => ?_
        refine in_rest (d := d) T nm sts ps [(f, v)] fs _ s2 h2 (fun p hp => hf p (List.mem_cons_of_mem _ hp)) hx (by simp only [List.length_cons, List.length_nil] at hl ⊢; omega) I2 upd_same (by rw [upd_ne hne, upd_same]) hne fun s3 I3 => ?_
        have e : upd (upd (upd H d (L2.exd d [(f, v)])) a (L2.exo a C (some d))) d (L2.exd d fs) = upd (upd H d (L2.exd d fs)) a (L2.exo a C (some d)) := by
          funext b
          by_cases hb : b = d
          · rw [hb, upd_same, upd_ne hne, upd_same]
          · rw [upd_ne hb]
            by_cases hb2 : b = a
            · rw [hb2, upd_same, upd_same]
            · rw [upd_ne hb2, upd_ne hb, upd_ne hb2, upd_ne hb]
        rw [e] at I3
        exact hq d s3 hd hne I3
      · cases hx
    · cases h
end
end En
set_option maxHeartbeats 4000000
/-! Ex3: an error is made, raised, kept; its fields. -/
namespace En
open PySem PySem.Spec PyProof.Rows L2
section
variable {W : Wd}
theorem start_at {N : List Str} {vs : List V} {i : Nat} {v : V} (h : vs[i]? = some v) : (L2.start N vs)[i]? = some (some v) := by
  unfold L2.start
  have hi : i < (vs.map some).length := by
    have := (List.getElem?_eq_some_iff.mp h).1
    simpa using this
  rw [List.getElem?_append_left hi, List.getElem?_map, h]
  rfl
/-- the __init__ of an error class -/
theorem exI_of {P : Program} {w : World} {mg : Str → Option Value} {base : Heap} {k : Nat} {f C g : Addr} {name qual : Str} {params : Arguments} {body : List Stmt} {scope : Scope} {dV kV doc pm cdv ct oc : Value} {an od : Option Addr}
    {osl : Array (Option Value)} {N r : List Str} {sf : Str} {fl : List (Str × Nat)} (lk : W.K.lookup f = some ⟨oc, od, .func (PySem.W.fnOf name qual params body scope dV kV doc pm an cdv ct), osl⟩) (hcd : PySem.W.codeIn W.K cdv qual = true) (S : FnScope N (sf :: r) scope)
    (T : ExC W.K C g) (h : mapO (inOne sf r) body = some fl) (hf : ∀ p ∈ fl, PySem.W.findIn W.K (.ref C) p.1 = some none) (hn : fl ≠ []) (hl : fl.length ≤ 900) (dbg : ∀ x ∈ sf :: r, (x == ("__debug__" : Str)) = false ∧ (x == ("__classdict__" : Str)) = false) :
    FnG P w W.K mg base k f (PySem.W.fnOf name qual params body scope dV kV doc pm an cdv ct) (sf :: r) (spE C fl r.length) := by
  refine fnG_gen (W := W) lk hcd S (fun vs H Q E ⟨a, us, fs, e, hu, _⟩ => by rw [e, List.length_cons, List.length_cons, hu]) fun X E x1 x2 x3 x4 x5 x6 x7 x8 x9 x10 x11 x12 x13 x14 x15 vs H Q ⟨a, us, fs, ev, hu, hx, ea, q⟩ => ?_
  subst ev
  refine ⟨fun D σ H => ∀ pins s, L2.Inv X pins σ H s → wpAny (model X.prog X.w) X.A (execs body X.env) (SP X pins D) X.xe s, ⟨fun pins s σ H D I h => h pins s I⟩, fun pins s I => ?_⟩
  have hp : N.take (r.length + 1) = sf :: r := S.pre
  have hN : ∀ (i : Nat) (x : Str), (sf :: r)[i]? = some x → N[i]? = some x := fun i x hx => by
    rw [← hp, List.getElem?_take] at hx
    split at hx
    · exact hx
    · cases hx
  have hv : ∀ x ∈ sf :: r, Vis X.env.scope x := fun x hx => by
    rw [x7]
    rcases S.par x hx with z | z
    · exact .inl z
    · exact .inr (.inl z)
  have nm : InNames X (L2.start N (.ref a :: us)) a sf r us := ⟨by rw [x6]; exact hN 0 sf rfl, start_at rfl, hv _ List.mem_cons_self, fun i x hx => ⟨by rw [x6]; exact hN (i + 1) x hx, hv _ (List.mem_cons_of_mem _ (List.mem_of_getElem? hx))⟩, fun i v hv => start_at (by simpa using hv), fun x hx => dbg x (by
    rcases hx with rfl | hx
    · exact List.mem_cons_self
    · exact List.mem_cons_of_mem _ hx)⟩
  rw [← x3] at T hf
  exact in_all T nm h hf hn hx hl I ea fun d s' hd hne I' => ⟨_, _, I', q d hd hne⟩
end
/-! ### C(..) -/
/-- what a class C of errors says: its fields, its __init__ -/
structure ErrC (P : Program) (w : World) (K : PySem.W.Frag) (mg : Str → Option Value) (base : Heap) (k : Nat) (C : Addr) (fl : List (Str × Nat)) (n : Nat) : Prop where
  ex : ∃ f fd ps, ExC K C f ∧ FnG P w K mg base k f fd ps (spE C fl n) ∧ ps.length = n + 1 ∧ ∀ (s : Shared) (us : List Value), K.In s.heap → us.length = n + 1 → BindsTo s fd ⟨us, []⟩ (ps.zip us)
/-- the reading of C(e, ..) -/
def tMkE (C : Addr) (fl : List (Str × Nat)) (n : Nat) (ta : TA) : L2.St → Hp → XK → Prop := fun σ H Q => ta σ H fun vs H1 => vs.length = n ∧ n ≤ 1000 ∧ ∃ fs, xFs vs fl [] = some fs ∧ ∀ d, H1 d = none → Q (.ref C) (some d) (upd H1 d (.xd fs))
section
variable {X : Cx} {C : Addr} {fl : List (Str × Nat)} {n k : Nat} {e : Expr} {es : List Expr} {ta : TA} {x : Str} {p pos : Pos}
theorem pmk_ex (T : ErrC X.prog X.w X.K X.mg X.base k C fl n) (hr : RoomG (k + 1) X.A) (hg : Gl X x) (hm : X.mg x = some (.ref C)) (ha : PA X (e :: es) ta)
    (hdb : (x == ("__debug__" : Str)) = false) (he : starEach (e :: es) X.env = (false, eval e X.env) :: starEach es X.env) (hpl : (backTo pos (starEach es X.env)).any (·.1) = false) :
    PMk X (.Call (.Name x p) (e :: es) [] pos) (tMkE C fl n ta) := by
  intro pins s σ H Q I h
  obtain ⟨fI, fd, ps, E, F, hps, hb⟩ := T.ex
  obtain ⟨B, newId, initId, bmB, FB, SF, hin, hov⟩ := E.base
  refine wpAny_Call_Name_kw (ld_glob I hg hm ?_ hdb)
  refine PySem.W.callWith_K (h₀ := X.base) I.ok.mod.kin E.kC (thn (ha.run pos pins s σ H _ I h) fun us s1 ⟨vs, H1, I1, r1, hz, hz2, fs, hx, q1⟩ => ⟨I1.kIn, ?_⟩) he hpl
  show wpAny _ _ (call (.ref C) us) _ _ _
  obtain ⟨hp, g, dr, tk, os⟩ := s1
  obtain ⟨nm, N', qn, bs, bm, hdct, sn, sub, ab, col, dd, k0, k1, k2, k3, k5, hC, hT⟩ := PySem.W.excInit_of I1.kIn hin
  have hsz : hp.objs.size ≤ hp.objs.size + 1 := Nat.le_succ _
  have hna : H1 (hp.objs.size + 1) = none := I1.hok.fresh hsz
  have kk : ∀ b o, hp.get? b = some o → ((hp.push (PySem.W.kdv_tup us)).push (PySem.HandSPX.excO C hp.objs.size)).get? b = some o := fun b o z => Heap.get?_push_of_some _ (Heap.get?_push_of_some _ z)
  have hget : ((hp.push (PySem.W.kdv_tup us)).push (PySem.HandSPX.excO C hp.objs.size)).get? (hp.objs.size + 1) = some (PySem.HandSPX.excO C hp.objs.size) := by heap_get
  have I2 : L2.Inv X pins σ (upd H1 (hp.objs.size + 1) (L2.exo (hp.objs.size + 1) C none)) ⟨(hp.push (PySem.W.kdv_tup us)).push (PySem.HandSPX.excO C hp.objs.size), g, dr, tk, os⟩ :=
    I1.laid (t' := tk) (a := hp.objs.size + 1) (o := L2.exo (hp.objs.size + 1) C none) (h' := (hp.push (PySem.W.kdv_tup us)).push (PySem.HandSPX.excO C hp.objs.size)) kk hsz (L2.exo_ok hget)
  have hus : us.length ≤ sizeLine := by
    rw [← Paired.length r1, hz, sizeLine_eq]
    omega
  have r2 : Vals (V.ref (hp.objs.size + 1) :: vs) (Value.ref (hp.objs.size + 1) :: us) := .cons rfl r1
  have hul : (Value.ref (hp.objs.size + 1) :: us).length = n + 1 := by
    rw [List.length_cons, ← Paired.length r1, hz]
  have ne_up : ∀ {b : Addr} {o : HO}, upd H1 (hp.objs.size + 1) o b = none → H1 b = none := fun {b o} z => by
    by_cases hb : b = hp.objs.size + 1
    · rw [hb]
      exact hna
    · rw [upd_ne hb] at z
      exact z
  refine wpAny_call (PySem.HandSPX.call_own FB hT hC (PySem.W.looks_findIn I1.kIn E.ini) (fun self => PySem.W.bind_fn I1.kIn self E.tI) hus
    (codeAny_mono (F.run _ X.stack _ _ ⟨Value.ref (hp.objs.size + 1) :: us, []⟩ (Value.ref (hp.objs.size + 1) :: us) (V.ref (hp.objs.size + 1) :: vs)
      (fun v H2 => v = .non ∧ ∃ d, H1 d = none ∧ d ≠ hp.objs.size + 1 ∧ H2 = upd (upd (upd H1 (hp.objs.size + 1) (L2.exo (hp.objs.size + 1) C none)) d (L2.exd d fs)) (hp.objs.size + 1) (L2.exo (hp.objs.size + 1) C (some d))) (fun _ _ _ => False) (hr.make C us []) (I2.env0.make C us []) (hb _ _ I2.kIn hul) r2
      ⟨_, vs, fs, rfl, hz, hx, upd_same, fun d hd hne => ⟨rfl, d, ne_up hd, hne, rfl⟩⟩) fun r s' hq' => ?_))
  cases r with
  | error er =>
    obtain ⟨_, _, _, _, _, _, _, _, _, _, _, _, w⟩ := hq'
    exact w.elim
  | ok fw =>
    cases fw with
    | ret u =>
      obtain ⟨v, H2, os2, bare2, un2, hok2, rv, ev, d, hd1, hne, eH⟩ := hq'
      subst ev
      obtain ⟨h2, g2, d2, t2, os'⟩ := s'
      have ea : H2 (hp.objs.size + 1) = some (L2.exo (hp.objs.size + 1) C (some d)) := by rw [eH, upd_same]
      have ed : H2 d = some (L2.exd d fs) := by rw [eH, upd_ne hne, upd_same]
      have eN : upd (L2.del H2 (hp.objs.size + 1)) d (.xd fs) = upd H1 d (.xd fs) := by
        funext b
        by_cases hb : b = d
        · rw [hb, upd_same, upd_same]
        · rw [upd_ne hb, upd_ne hb]
          by_cases hb2 : b = hp.objs.size + 1
          · rw [hb2, L2.del_same, hna]
          · rw [L2.del_ne hb2, eH, upd_ne hb2, upd_ne hb, upd_ne hb2]
      exact ⟨rv, L2.mk_end (raises_own E.exC E.tyC) I1 hsz kk un2 hok2 os2 bare2 ea ed hd1 (by rw [eN]; exact q1 d hd1)⟩
    | next => exact False.elim hq'
    | brk => exact False.elim hq'
    | cont => exact False.elim hq'
/-- an error that is made lies in the heap from then on -/
theorem pe_of_mk {e : Expr} {t : L2.St → Hp → XK → Prop} (h : PMk X e t) : PE X e fun σ H Q => t σ H fun cls d H' => ∃ C dx, cls = .ref C ∧ d = some dx ∧ ∀ a, H' a = none → Q (.ref a) (upd H' a (exK a C dx)) := by
  refine ⟨fun pins s σ H Q I ht => thn (h pins s σ H _ I ht) fun u s1 ⟨a, oe, vs, sI, H', cls, d, eu, J, kk, hne, hget, hz, hd, h1, na, os, ag, rs, C, dx, ec, edx, q⟩ => ?_⟩
  subst eu ec edx
  have hok : HOk X.prog X.w (upd H' a (exK a C dx)) s1.heap := fun b o hb => by
    by_cases e : b = a
    · subst e
      rw [upd_same] at hb
      cases hb
      exact ⟨⟨oe, vs, hget, hz.1, hz.2, hd⟩, ⟨oe, hget⟩, fun g1 g2 ⟨o, ws, e1, e2, e3, e4⟩ st => ⟨o, ws, st o e1, e2, e3, e4⟩⟩
    · rw [upd_ne e] at hb
      exact (J.hok b o hb).stay (fun c u _ z => kk c u z) (fun c z => by rw [upd_ne (ne_of_none z na)]; exact z) fun c xs z => by rw [upd_ne (ne_of_none z na)]; exact z
  have nb : ∀ {b : Addr} {o : Obj}, sI.heap.get? b = some o → b ≠ a := fun {b o} z e => by
    rw [e, hne] at z
    cases z
  have U : Un (frs X.stack) [] H' (upd H' a (exK a C dx)) sI.heap s1.heap := ⟨fun b o z _ _ _ => kk b o z, fun b o z _ _ _ => ⟨o.slots, kk b o z⟩, fun b o z n _ => by rw [upd_ne (nb z)]; exact n, fun b o z _ => ⟨o, kk b o z⟩,
    fun b xs z => by rw [upd_ne (ne_of_none z na)]; exact z, fun b o v z => by rw [upd_ne (ne_of_none z na)]; exact z, fun b ps z => ⟨#[], by rw [upd_ne (ne_of_none z na), z]; simp⟩⟩
  exact ⟨.ref a, _, J.call' (ch := []) os U hok ag (fun b z => absurd z (by simp)), rfl, q a na⟩
end
/-! ### the data's side -/
/-- what C(..) makes -/
def errA (c : Nat) (fl : List (Str × Nat)) (n : Nat) (ms : Ac (List Dat)) : Ac Dat := ms.bind fun ds => if ds.length = n ∧ n ≤ 1000 then (match xFs ds fl [] with
  | some fs => Ac.ret (.err c fs)
  | none => Ac.stk) else Ac.stk
def rseA (m : Ac Dat) : Ac Flw := m.bind fun d => fun s => .exc d s
section
variable {W : Wd} {wx : WX} {X : Cx} {g : Gh} {P : Hp} {st : Stt} {σ : L2.St} {H : Hp}
theorem xFs_ok {ds : List Dat} {vs : List V} (r : Rs W g ds vs) : ∀ (fl : List (Str × Nat)) {a fs : List (Str × Dat)} {b : List (Str × V)}, Rf W g a b → xFs ds fl a = some fs → ∃ ws, xFs vs fl b = some ws ∧ Rf W g fs ws
  | [], a, fs, b, q, h => by
    cases h
    exact ⟨b, rfl, q⟩
  | p :: fl, a, fs, b, q, h => by
    unfold xFs at h
    split at h
    · rename_i d hd
      obtain ⟨v, h1, h2⟩ := r.get hd
      unfold xFs
      rw [h1]
      exact xFs_ok r fl (.cons h2 q) h
    · cases h
/-- the new dict is frozen -/
theorem Rel.newXd {d : Addr} {fs : List (Str × Dat)} {ws : List (Str × V)} (r : Rel W g P st σ H) (h : H d = none) (q : Rf W g fs ws) : g.Le (g.fz d (.xd ws)) ∧ Rel W (g.fz d (.xd ws)) P st σ (upd H d (.xd ws)) ∧ (g.fz d (.xd ws)).F d = some (.xd ws) ∧ Rf W (g.fz d (.xd ws)) fs ws := by
  obtain ⟨h1, h2, h3, h4⟩ := r.newF h
  have l : g.Le (g.fz d (.xd ws)) := Gh.le_fz h1
  exact ⟨l, (r.laid h).freeze upd_same h1 h2 h3 h4, upd_same, Rf.mono l q⟩
theorem err_imp {c n : Nat} {fl : List (Str × Nat)} {ms : Ac (List Dat)} {K : Dat → Stt → Gh → Hp → Prop} {Q : XK} (r : Rel W g P st σ H) (q : Post W wx g P σ (errA c fl n ms st) K)
    (h : ∀ d s' g' H' fs ws, d = Dat.err c fs → g.Le g' → Rel W g' P s' σ H' → Rf W g' fs ws → K d s' g' H' → ∀ a, H' a = none → Q (.ref (W.ca c)) (some a) (upd H' a (.xd ws))) : tMkE (W.ca c) fl n (tX W wx dsK ms) σ H Q := by
  refine ⟨g, P, st, r, (Post.bindE q).mono fun ds s1 g1 H1 l1 r1 q1 vs hv => ?_⟩
  by_cases hc : ds.length = n ∧ n ≤ 1000
  · simp only [hc, and_self, if_true] at q1
    cases e : xFs ds fl [] with
    | none =>
      rw [e] at q1
      exact q1.elim
    | some fs =>
      rw [e] at q1
      obtain ⟨ws, e1, e2⟩ := xFs_ok hv fl .nil e
      exact ⟨by rw [← hv.length]; exact hc.1, hc.2, ws, e1, fun a ha => h _ s1 g1 H1 fs ws rfl l1 r1 e2 (q1 g1 H1 (.refl g1) r1) a ha⟩
  · simp only [hc, if_false] at q1
    exact q1.elim
/-- raise C(..) -/
theorem ss_rse {e : Expr} {c n : Nat} {fl : List (Str × Nat)} {ms : Ac (List Dat)} {pos : Pos} (hc : X.calm = true) (tk : Takes X wx) (hm : PMk X e (tMkE (W.ca c) fl n (tX W wx dsK ms))) : SS W wx X (rseA (errA c fl n ms)) (.Raise (some e) none pos) :=
  psImp (ps_raise (pos := pos) hc tk hm) fun D σ H ⟨g, P, st, r, q⟩ => err_imp r (PostS.bindE (σ := σ) q) fun d s' g' H' fs ws ed l r' qf q' a ha => by
    subst ed
    obtain ⟨l2, r2, f2, q2⟩ := r'.newXd ha qf
    exact q' (g'.fz a (.xd ws)) σ _ _ _ l2 r2 ⟨c, fs, a, ws, rfl, rfl, rfl, f2, q2⟩
/-- C(..) kept -/
theorem se_xmk {e : Expr} {c n : Nat} {fl : List (Str × Nat)} {ms : Ac (List Dat)} (hm : PMk X e (tMkE (W.ca c) fl n (tX W wx dsK ms))) : SE W wx X ((errA c fl n ms).bind fun d => Ac.ret (.val d)) e :=
  peImp (pe_of_mk hm) fun σ H Q ⟨g, P, st, r, q⟩ => err_imp r (Post.bindE q) fun d s' g' H' fs ws ed l r' qf q' a ha => by
    subst ed
    refine ⟨_, a, rfl, rfl, fun b hb => ?_⟩
    obtain ⟨l2, r2, f2, q2⟩ := r'.newXd ha qf
    obtain ⟨h1, h2, h3, h4⟩ := r2.newF hb
    have l3 : (g'.fz a (.xd ws)).Le ((g'.fz a (.xd ws)).fz b (exK b (W.ca c) a)) := Gh.le_fz h1
    have r3 := (r2.laid (ho := exK b (W.ca c) a) hb).freeze upd_same h1 h2 h3 h4
    exact q' _ _ (l2.trans l3) r3 _ (.err upd_same (l3.F _ _ f2) (Rf.mono l3 q2))
/-! a field of an error -/
def XfOk (W : Wd) (xf : Nat → Str → Bool) : Prop := ∀ c f, xf c f = true → XcF W.K (W.ca c) ∧ PySem.W.findIn W.K (.ref (W.ca c)) f = some none
def fldX (xf : Nat → Str → Bool) (w : Vw) (f : Str) : Option Rv := match w with
  | .dt (.err c fs) => if xf c f then (fs.lookup f).map .val else none
  | _ => none
theorem se_xat {xf : Nat → Str → Bool} {e : Expr} {f : Str} {m : Ac Rv} {pos : Pos} (hK : X.K = W.K) (ok : XfOk W xf) (h : SE W wx X m e) (hb : attributeBase e f X.env (eval e X.env) = eval e X.env) : SE W wx X (m.bind fun x => (lookA x).bind fun w => Ac.opt (fldX xf w f)) (.Attribute e f pos) := ⟨fun pins s σ H Q I hh => by
  obtain ⟨g, P, st, r, q⟩ := hh
  refine attr_of hb (thn (h.run pins s σ H (fun v H1 => ∃ g1 s1 w rv, Rel W g1 P s1 σ H1 ∧ VwR W g1 H1 w v ∧ fldX xf w f = some rv ∧ ∀ z, RvR W g1 P s1 σ H1 rv z → Q z H1) I ⟨g, P, st, r, (Post.bindE q).mono fun x s1 g1 H1 l1 r1 q1 v hv => ?_⟩) fun u s1 ⟨v, H1, I1, rv, g1, st1, w, y, r1, hw, e2, q1⟩ => ?_)
  · obtain ⟨w, e1, q2⟩ := Post.lookE q1
    cases e2 : fldX xf w f with
    | none =>
      rw [e2] at q2
      exact q2.elim
    | some y =>
      rw [e2] at q2
      exact ⟨g1, s1, w, y, r1, look_ok r1 hv e1, e2, fun z hz => q2 g1 H1 (.refl g1) r1 z hz⟩
  · unfold fldX at e2
    split at e2
    · rename_i c fs
      split at e2
      · rename_i hx
        obtain ⟨d, e3, rfl⟩ := Option.map_eq_some_iff.mp e2
        obtain ⟨T, hno⟩ := ok c f hx
        rw [← hK] at T hno
        have hw' : R W g1 (.err c fs) v := hw
        cases hw' with
        | err k1 k2 k3 =>
          rename_i a dx vs
          obtain rfl : u = Value.ref a := rv
          obtain ⟨⟨o, its, e4, e5, e6, e7⟩, _⟩ := I1.hok a _ (r1.fz _ _ k1)
          have hxd : ObjOk X.prog X.w H1 s1.heap dx (.xd vs) := I1.hok dx _ (r1.fz _ _ k2)
          obtain ⟨mA, hns, hr⟩ := hxd
          obtain ⟨od, ho, hl⟩ := lookIn_ns hns
          obtain ⟨z, e8, e9⟩ := k3.lookup e3
          obtain ⟨uu, hu, ru⟩ := RelO.some_of (v := z) (o := mA f) (by rw [← e8]; exact hr f)
          have J : PySem.W.InstAt s1.heap a o (W.ca c) (some od) := ⟨e4, e5, by unfold PySem.W.notCls; rw [e7] <;> rfl, by rw [e6]; exact ho⟩
          exact HandSPX.exc_get I1.kIn J T.hga T.hgt T.hsub (PySem.W.findObj_own T.hd hno rfl (by rw [hl, hu])) (handed_of ru) ⟨z, H1, I1.tok _, ru, q1 z e9⟩
      · cases e2
    · cases e2⟩
end
end En
set_option maxHeartbeats 4000000
/-! Ex4: try .. except, several clauses, names of errors kept. -/
namespace En
open PySem PySem.Spec PyProof.Rows L2
section
variable {X : Cx} {pins : List (Addr × Obj)} {σ : L2.St} {H : Hp} {s : Shared} {a : Addr}
theorem flying_keep {B : Heap} {l : List Env} {Z : Obj → Prop} {h h' : Heap} (f : HandSPX.FlyingZ B l a Z h) (k : ∀ q o, h.get? q = some o → h'.get? q = some o) : HandSPX.FlyingZ B l a Z h' := by
  obtain ⟨f1, f2, f3, o, vs, T, oT, ts, g1, g2, g3, g4, g5, g6, g7, g8, g9⟩ := f
  exact ⟨fun b u z => k b u (f1 b u z), f2, f3.of_keeps fun b u z _ => ⟨u, k b u z, rfl⟩, o, vs, T, oT, ts, k _ _ g1, g2, g3, g4, g5, g6, k _ _ g7, g8, g9⟩
/-- into a clause's suite -/
theorem inv_hot (I : L2.Inv X pins σ H s) : L2.Inv (X.suite a (X.pn ++ pins)) [] σ H s :=
  ⟨I.ok.suite _ _, I.os, I.bare, I.base, I.loc, I.cell, I.free, I.freeC, fun p hp => I.pin p (by rw [List.append_nil] at hp; exact hp), I.hok, I.len⟩
theorem inv_cold {pn' : List (Addr × Obj)} (I : L2.Inv (X.suite a (X.pn ++ pins)) pn' σ H s) (ok : X.Ok) : L2.Inv X pins σ H s :=
  ⟨ok, I.os, I.bare, I.base, I.loc, I.cell, I.free, I.freeC, fun p hp => I.pin p (List.mem_append_left _ hp), I.hok, I.len⟩
/-- the error is tracked from here on -/
theorem inv_exk {C dx : Addr} {o : Obj} {vs : Array Value} (I : L2.Inv X pins σ H s) (na : H a = none) (ha : s.heap.get? a = some o) (h1 : o.cls = .ref C) (h2 : o.dict = some dx) (h3 : o.data = .fields vs) (nL : a ≠ X.env.locals) (nF : a ∉ X.fs) (npin : ∀ p ∈ X.pn ++ pins, p.1 ≠ a) (ns : ∀ u, X.s_0.heap.get? a = some u → False) (nc : ∀ x c, X.env.cells.lookup x = some c → c ≠ a) : L2.Inv X pins σ (upd H a (exK a C dx)) s := by
  refine ⟨I.ok, I.os, I.bare, ⟨I.base.keep, I.base.slot, fun b u z n hx => ?_, I.base.there, fun b xs z => ?_, fun b u v z => ?_, fun b ps z => ?_⟩, I.loc, I.cell, ?_, fun x c z => ?_, fun p hp => ?_, fun b u z => ?_, I.len⟩
  · have hb : b ≠ a := fun e => ns u (e ▸ z)
    rw [upd_ne hb]
    exact I.base.free b u z n hx
  · have q := I.base.tups b xs z
    rw [upd_ne (ne_of_none q na)]
    exact q
  · have q := I.base.frzs b u v z
    rw [upd_ne (ne_of_none q na)]
    exact q
  · obtain ⟨more, q⟩ := I.base.tbls b ps z
    exact ⟨more, by rw [upd_ne (ne_of_none q na)]; exact q⟩
  · rw [upd_ne (Ne.symm nL)]
    exact I.free
  · rw [upd_ne (nc x c z)]
    exact I.freeC x c z
  · obtain ⟨q1, q2, q3, q4, q5⟩ := I.pin p hp
    exact ⟨q1, by rw [upd_ne (npin p hp)]; exact q2, q3, q4, q5⟩
  · by_cases e : b = a
    · subst e
      rw [upd_same] at z
      cases z
      exact ⟨⟨o, vs, ha, h1, h2, h3⟩, ⟨o, ha⟩, fun g1 g2 ⟨o', ws, e1, e2, e3, e4⟩ st => ⟨o', ws, st o' e1, e2, e3, e4⟩⟩
    · rw [upd_ne e] at z
      exact (I.hok b u z).stay (fun _ _ _ y => y) (fun c y => by rw [upd_ne (ne_of_none y na)]; exact y) fun c xs y => by rw [upd_ne (ne_of_none y na)]; exact y
end
/-- a caught error is tracked -/
theorem exk_land {X : Cx} {pins : List (Addr × Obj)} {σ : L2.St} {H : Hp} {s : Shared} {a C dx : Addr} {B : Heap} {h : Heap} (hs : X.stack = X.env :: X.outer) (hf : X.env.frame = some X.env.locals) (J : L2.Inv X pins σ H { s with heap := h }) (fl : HandSPX.FlyingZ B (X.env :: X.outer) a (Zc (.ref C) (some dx)) h) (na : H a = none)
    (nB : ∀ b o, X.s_0.heap.get? b = some o → b ∉ frs X.stack → ∃ o', B.get? b = some o') (nP : ∀ p ∈ X.pn ++ pins, B.get? p.1 = some p.2) : L2.Inv X pins σ (upd H a (exK a C dx)) { s with heap := h } := by
  obtain ⟨oe, vs, he, hz, hd⟩ := fl.there
  have nfr : a ∉ frs (X.env :: X.outer) := fun hm => by
    obtain ⟨_, o', e', hnf⟩ := fl.2.2.1.mem hm
    rw [he] at e'
    cases e'
    exact hnf _ hd
  have nL : a ≠ X.env.locals := fun z => nfr (List.mem_filterMap.mpr ⟨X.env, List.mem_cons_self, by rw [hf, z]⟩)
  have nF : a ∉ X.fs := fun hm => by
    obtain ⟨e, he2, q⟩ := List.mem_filterMap.mp hm
    exact nfr (List.mem_filterMap.mpr ⟨e, List.mem_cons_of_mem _ he2, q⟩)
  refine inv_exk J na he hz.1 hz.2 hd nL nF (fun p hp z => ?_) (fun u z => ?_) fun x c z e => ?_
  · have q := nP p hp
    rw [z, fl.2.1] at q
    cases q
  · obtain ⟨o', q⟩ := nB a u z (by rw [hs]; exact nfr)
    rw [fl.2.1] at q
    cases q
  · obtain ⟨v, o, k1, k2⟩ := J.cell x c z
    rw [e] at k1
    have k1' : h.get? a = some o := k1
    rw [he] at k1'
    cases k1'
    rw [hd] at k2
    cases k2
/-! ### the tests -/
def TstOk (X : Cx) (te : Expr) (cs : List Value) : Prop := ∀ (a : Addr) (pn : List (Addr × Obj)) (σ : L2.St) (H : Hp) (s : Shared) (cls : Value) (b : Bool) (E : Value → Shared → Prop) (Q : Bool → Shared → Prop), L2.Inv (X.suite a pn) [] σ H s → PySem.W.Looks (model X.prog X.w) s.heap (typeOf (.ref a)) cls →
  PySem.W.exmAny X.K cls cs = some b → (∀ h', (∀ q o, s.heap.get? q = some o → h'.get? q = some o) → Q b { s with heap := h' }) →
  wpAny (model X.prog X.w) (X.A.mark (some (.ref a))) (eval te X.env) (fun c s1 => wpAny (model X.prog X.w) (X.A.mark (some (.ref a))) (excMatches (.ref a) c) Q E s1) E s
section
variable {X : Cx} {x x1 x2 x3 : Str} {c c1 c2 c3 : Value} {p p1 p2 p3 pos : Pos} {j : Nat}
theorem nm_eval {a : Addr} {pn : List (Addr × Obj)} {σ : L2.St} {H : Hp} {s : Shared} {E Q : Value → Shared → Prop} (n : Names X x c) (S : L2.Inv (X.suite a pn) [] σ H s) (q : Q c s) : wpAny (model X.prog X.w) (X.A.mark (some (.ref a))) (eval (.Name x p) X.env) Q E s := by
  obtain ⟨g1, g2, g3 | ⟨g3, g4, g5⟩⟩ := n
  · exact ld_glob (X := X.suite a pn) S g1 g3 q g2
  · exact ld_blt (X := X.suite a pn) S g1 g3 g4 q g5 g2
theorem tst_name (n : Names X x c) : TstOk X (.Name x p) [c] := fun a pn σ H s cls b E Q S LT hx q => by
  obtain ⟨b1, d1, e1, e2, e3⟩ := PySem.W.exmAny_cons hx
  have e4 : some false = some d1 := e2
  cases e4
  rw [Bool.or_false] at e3
  subst e3
  exact nm_eval n S ((PySem.W.exm_one (M := model X.prog X.w) S.kIn LT e1).here (q s.heap fun _ _ z => z))
theorem tst_tup2 (n1 : Names X x1 c1) (n2 : Names X x2 c2) : TstOk X (.Tuple [.Name x1 p1, .Name x2 p2] j pos) [c1, c2] := fun a pn σ H s cls b E Q S LT hx q => by
  refine wpAny_Tuple (wpAny_items_cons (nm_eval n1 S (wpAny_items_cons (nm_eval n2 S (wpAny_items_nil ⟨by size_fits, ?_⟩)))))
  have k : ∀ q o, s.heap.get? q = some o → (s.heap.push { cls := .type "tuple", data := .seq [c1, c2].toArray }).get? q = some o := fun _ _ z => Heap.get?_push_of_some _ z
  exact (PySem.W.exm_tup2 (M := model X.prog X.w) (S.kIn.keeps k) (LT.keeps k) (Heap.get?_push_size s.heap rfl) hx).here (q _ k)
theorem tst_tup3 (n1 : Names X x1 c1) (n2 : Names X x2 c2) (n3 : Names X x3 c3) : TstOk X (.Tuple [.Name x1 p1, .Name x2 p2, .Name x3 p3] j pos) [c1, c2, c3] := fun a pn σ H s cls b E Q S LT hx q => by
  refine wpAny_Tuple (wpAny_items_cons (nm_eval n1 S (wpAny_items_cons (nm_eval n2 S (wpAny_items_cons (nm_eval n3 S (wpAny_items_nil ⟨by size_fits, ?_⟩)))))))
  have k : ∀ q o, s.heap.get? q = some o → (s.heap.push { cls := .type "tuple", data := .seq [c1, c2, c3].toArray }).get? q = some o := fun _ _ z => Heap.get?_push_of_some _ z
  exact (PySem.W.exm_tup3 (M := model X.prog X.w) (S.kIn.keeps k) (LT.keeps k) (Heap.get?_push_size s.heap rfl) hx).here (q _ k)
end
/-! ### the clauses -/
structure HdT where
  cs : List Value
  i : Option Nat
  t : TS
def Ends.wip (D : Ends) : Option Nat → Ends
  | none => D
  | some i => { nx := fun σ' H' => D.nx (σ'.set i none) H', rt := D.rt, bk := fun σ' H' => D.bk (σ'.set i none) H', ct := fun σ' H' => D.ct (σ'.set i none) H' }
def inSl (σ : L2.St) (a : Addr) : Option Nat → L2.St
  | none => σ
  | some i => σ.set i (some (.ref a))
/-- what the clauses wish of an error of the body -/
def wHs (K : PySem.W.Frag) (Wout : WX) (D : Ends) : List HdT → WX
  | [] => Wout
  | h :: r => fun cls d σ H => ∃ b, PySem.W.exmAny K cls h.cs = some b ∧ (b = true → ∃ C dx, cls = .ref C ∧ d = some dx ∧ ∀ a, H a = none → h.t (Ends.wip D h.i) (inSl σ a h.i) (upd H a (exK a C dx))) ∧ (b = false → wHs K Wout D r cls d σ H)
inductive HsOk (X : Cx) : List ExceptHandler → List HdT → Prop
  | nil : HsOk X [] []
  | plain {te : Expr} {cs : List Value} {ts : TS} {b₀ : Stmt} {suite : List Stmt} {q : Pos} {hds : List ExceptHandler} {l : List HdT} (ht : TstOk X te cs) (hs : ∀ a pn, PSs (X.suite a pn) (b₀ :: suite) ts) (r : HsOk X hds l) : HsOk X (.ExceptHandler (some te) none (b₀ :: suite) q :: hds) (⟨cs, none, ts⟩ :: l)
  | named {te : Expr} {cs : List Value} {ts : TS} {n : Str} {i : Nat} {b₀ : Stmt} {suite : List Stmt} {q : Pos} {hds : List ExceptHandler} {l : List HdT} (ht : TstOk X te cs) (hi : X.N[i]? = some n) (hl : X.env.kindOf n = some .local) (hs : ∀ a pn, PSs (X.suite a pn) (b₀ :: suite) ts) (r : HsOk X hds l) :
      HsOk X (.ExceptHandler (some te) (some n) (b₀ :: suite) q :: hds) (⟨cs, some i, ts⟩ :: l)
section
variable {X : Cx} {body : List Stmt} {h₀ : ExceptHandler} {hds : List ExceptHandler} {l : List HdT} {pos : Pos} {tb : WX → TS} {Wout : WX}
theorem ground_of (hex : X.ex = []) {pins : List (Addr × Obj)} {σ : L2.St} {H : Hp} {sI : Shared} {B : Heap} (J : L2.Inv X pins σ H sI) (nb : ∀ b o, sI.heap.get? b = some o → b ∉ frs X.stack → B.get? b = some o) :
    (∀ b o, X.s_0.heap.get? b = some o → b ∉ frs X.stack → ∃ o', B.get? b = some o') ∧ ∀ p ∈ X.pn ++ pins, B.get? p.1 = some p.2 := by
  refine ⟨fun b o z hb => ?_, fun p hp => ?_⟩
  · obtain ⟨o', q⟩ := J.base.there b o z (by rw [hex]; simp)
    exact ⟨o', nb b o' q hb⟩
  · obtain ⟨q1, q2, q3, q4, q5⟩ := J.pin p hp
    refine nb _ _ q1 fun hm => ?_
    rcases List.mem_cons.mp (J.stkSub _ hm) with z | z
    · exact q3 z
    · exact q4 z
/-- the clauses, over an error that was caught -/
theorem hs_run (hex : X.ex = []) (hs : X.stack = X.env :: X.outer) (hf : X.env.frame = some X.env.locals) (hN : X.N.Nodup) (tk : Takes X Wout) {pins : List (Addr × Obj)} {σ : L2.St} {H : Hp} {sI s1 : Shared} {D : Ends} {a : Addr} {B : Heap} {cls : Value} {d : Option Addr} (J : L2.Inv X pins σ H sI)
    (nb : ∀ b o, sI.heap.get? b = some o → b ∉ frs X.stack → B.get? b = some o) (na : H a = none) (os : s1.os = sI.os) (ag : AllBare s1.gens) (hfr : X.A.frames = some (X.env :: X.outer)) :
    ∀ {hds : List ExceptHandler} {l : List HdT}, HsOk X hds l → wHs X.K Wout D l cls d σ H → ∀ h3, HandSPX.FlyingZ B (X.env :: X.outer) a (Zc cls d) h3 → sI.heap.UpToSlots h3 →
      wpAny (model X.prog X.w) X.A (handleBy (.ref a) X.env hds) (SP X pins D) X.xe { s1 with heap := h3 }
  | _, _, .nil, w, h3, fl3, up3 => by
    refine wpAny_handleBy_nil ?_
    obtain ⟨k1, k2, k3, oe, vs, T, oT, ts', he, hz, hd, h1, hr⟩ := id fl3
    unfold PySem.passOn
    refine wpAny_bind (wpAny_field he hd h1 ?_)
    rw [if_neg (show ¬ ((Value.ref T == Value.none) = true) from by simp)]
    have last : wpAny (model X.prog X.w) X.A (setFlight (.ref a) X.env.frame) (fun _ s4 => wpAny (model X.prog X.w) X.A (throw (.ref a) : Sem Flow) (SP X pins D) X.xe s4) X.xe { s1 with heap := h3 } := by
      rw [hf]
      refine HandSPX.setFlight_upZ fl3 fun h4 hh4 up4 => wpAny_throw (tk _ _ ?_)
      exact ⟨a, B, sI, pins, σ, H, cls, d, rfl, J, nb, up3.trans up4, .inr (.inr (by rw [hs]; exact hh4)), na, os, ag, w⟩
    first
      | exact wpAny_bind (wpAny_pure (wpAny_bind last))
      | exact wpAny_bind last
  | _, _, .plain (te := te) (ts := ts) (b₀ := b₀) (suite := suite) ht hsu r, w, h3, fl3, up3 => by
    obtain ⟨b, hb1, hyes, hno⟩ := w
    have J3 : L2.Inv X pins σ H { s1 with heap := h3 } := J.landed (s' := { s1 with heap := h3 }) nb fl3.1 up3 os ag
    obtain ⟨oe, vs, he, hz, hd⟩ := fl3.there
    have LT : PySem.W.Looks (model X.prog X.w) h3 (typeOf (.ref a)) cls := fun A Q E s k q => wpAny_typeOf_ref (k _ _ he) (by rw [hz.1]; exact q)
    refine wpAny_handleBy_cons (codeAny_handlers_test ?_) (by intro q; cases q)
    refine ht a _ σ H _ cls b _ _ (inv_hot J3) LT hb1 fun h' kk => ?_
    have fl4 := flying_keep fl3 kk
    have up4 : sI.heap.UpToSlots h' := up3.trans (Heap.UpToSlots.of_keeps kk)
    cases b with
    | false => exact hs_run hex hs hf hN tk J nb na os ag hfr r (hno rfl) h' fl4 up4
    | true =>
      obtain ⟨C, dx, ec, ed, q⟩ := hyes rfl
      subst ec ed
      refine codeAny_handlers_suite (HandSPX.lands_againZ fl4 fun h5 fl5 up5 => ?_)
      have J5 : L2.Inv X pins σ H { s1 with heap := h5 } := J.landed (s' := { s1 with heap := h5 }) nb fl5.1 (up4.trans up5) os ag
      have J6 := exk_land hs hf J5 fl5 na (ground_of hex J nb).1 (ground_of hex J nb).2
      refine wpAny_mono ((hsu a (X.pn ++ pins)).run [] _ _ _ D (inv_hot J6) (q a na)) (fun f s6 hsp => ?_) fun _ _ z => z.elim
      cases f with
      | next =>
        obtain ⟨τ, G, S, z⟩ := hsp
        exact ⟨τ, G, inv_cold S J.ok, z⟩
      | brk =>
        obtain ⟨τ, G, S, z⟩ := hsp
        exact ⟨τ, G, inv_cold S J.ok, z⟩
      | cont =>
        obtain ⟨τ, G, S, z⟩ := hsp
        exact ⟨τ, G, inv_cold S J.ok, z⟩
      | ret u =>
        obtain ⟨v, τ, G, S, z1, z⟩ := hsp
        exact ⟨v, τ, G, inv_cold S J.ok, z1, z⟩
  | _, _, .named (te := te) (ts := ts) (n := n) (i := i) (b₀ := b₀) (suite := suite) (q := qp) ht hi hln hsu r, w, h3, fl3, up3 => by
    obtain ⟨b, hb1, hyes, hno⟩ := w
    have J3 : L2.Inv X pins σ H { s1 with heap := h3 } := J.landed (s' := { s1 with heap := h3 }) nb fl3.1 up3 os ag
    obtain ⟨oe, vs, he, hz, hd⟩ := fl3.there
    have LT : PySem.W.Looks (model X.prog X.w) h3 (typeOf (.ref a)) cls := fun A Q E s k q => wpAny_typeOf_ref (k _ _ he) (by rw [hz.1]; exact q)
    refine wpAny_handleBy_cons (codeAny_handlers_test ?_) (by intro q; cases q)
    refine ht a _ σ H _ cls b _ _ (inv_hot J3) LT hb1 fun h' kk => ?_
    have fl4 := flying_keep fl3 kk
    have up4 : sI.heap.UpToSlots h' := up3.trans (Heap.UpToSlots.of_keeps kk)
    cases b with
    | false => exact hs_run hex hs hf hN tk J nb na os ag hfr r (hno rfl) h' fl4 up4
    | true =>
      obtain ⟨C, dx, ec, ed, q⟩ := hyes rfl
      subst ec ed
      refine codeAny_handlers_suite_as (HandSPX.lands_againZ fl4 fun h5 fl5 up5 => ?_)
      have J5 : L2.Inv X pins σ H { s1 with heap := h5 } := J.landed (s' := { s1 with heap := h5 }) nb fl5.1 (up4.trans up5) os ag
      have J6 := exk_land hs hf J5 fl5 na (ground_of hex J nb).1 (ground_of hex J nb).2
      refine store_ok (X := X.suite a (X.pn ++ pins)) (v := .ref a) (inv_hot J6) hN hi (.inl hln) rfl (fun s5 S5 => ?_) (.inr hln)
      refine wpAny_mono ((hsu a (X.pn ++ pins)).run [] s5 _ _ (Ends.wip D (some i)) S5 (q a na)) (fun f s6 hsp => ?_) fun _ _ z => z.elim
      have over : ∀ {τ : L2.St} {G : Hp} {R : Shared → Prop}, L2.Inv (X.suite a (X.pn ++ pins)) [] τ G s6 → (∀ s7, L2.Inv X pins (τ.set i none) G s7 → R s7) →
          wpAny (model X.prog X.w) X.A (do bindName X.env n .none; unbindBehindTheSuite X.env n qp) (fun _ s7 => R s7) X.xe s6 := fun {τ G R} S hr => gone_ok (inv_cold S J.ok) hN hi hln hr
      cases f with
      | next =>
        obtain ⟨τ, G, S, z⟩ := hsp
        exact over S fun s7 J7 => ⟨_, _, J7, z⟩
      | brk =>
        obtain ⟨τ, G, S, z⟩ := hsp
        exact over S fun s7 J7 => ⟨_, _, J7, z⟩
      | cont =>
        obtain ⟨τ, G, S, z⟩ := hsp
        exact over S fun s7 J7 => ⟨_, _, J7, z⟩
      | ret u =>
        obtain ⟨v, τ, G, S, z1, z⟩ := hsp
        exact over S fun s7 J7 => ⟨_, _, _, J7, z1, z⟩
end
end En
set_option maxHeartbeats 4000000
/-! Ex5: try .. except as one statement of the language. -/
namespace En
open PySem PySem.Spec PyProof.Rows L2
section
variable {X : Cx} {body : List Stmt} {h₀ : ExceptHandler} {hds : List ExceptHandler} {l : List HdT} {pos : Pos} {tb : WX → TS} {Wout : WX}
theorem ps_tryH (hex : X.ex = []) (hs : X.stack = X.env :: X.outer) (hf : X.env.frame = some X.env.locals) (hN : X.N.Nodup) (tk : Takes X Wout)
    (hb : ∀ (V : WX) (pn : List (Addr × Obj)) (xe : Value → Shared → Prop), Takes (X.tr pn xe) V → PassesOwn (model X.prog X.w) X.A X.env xe → PSs (X.tr pn xe) body (tb V)) (hh : HsOk X (h₀ :: hds) l) :
    PS X (.Try body (h₀ :: hds) [] [] pos) fun D σ H => tb (wHs X.K Wout D l) D σ H := by
  refine ⟨fun pins s σ H D I h => ?_⟩
  have hfr : X.A.frames = some (X.env :: X.outer) := by rw [I.ok.frames, hs]
  have ok := I.ok
  refine wpAny_Try_except (wpAny_mono ((hb (wHs X.K Wout D l) (X.pn ++ pins) (fun e s1 => wpAny (model X.prog X.w) X.A (noteFrame e X.env) (fun _ s2 => wpAny (model X.prog X.w) X.A (setFlight e none) (fun _ s3 => wpAny (model X.prog X.w) X.A (handleBy e X.env (h₀ :: hds)) (SP X pins D) X.xe s3) X.xe s2) X.xe s1)
    (fun u s1 ⟨a, B, sI, pins', τ, G, cls, d, eu, J', nb, up, sky, na, os, ag, w⟩ => ?_) PassesOwn.looking).run [] s σ H D (I.toTry _) h) (fun f s1 hsp => ?_) fun e s1 he => he)
  · subst eu
    have J : L2.Inv X pins τ G sI := J'.ofTry ok
    have sky2 : Sky B (X.env :: X.outer) a (Zc cls d) X.env.locals s1.heap := by
      rw [← hs]
      exact sky
    show wpAny (model X.prog X.w) X.A (noteFrame (.ref a) X.env) _ _ _
    exact Sky.land Zc.steady hfr hf sky2 fun h3 fl3 up3 => hs_run hex hs hf hN tk J nb na os ag hfr hh w h3 fl3 (up.trans up3)
  · cases f with
    | next =>
      obtain ⟨τ, G, J, q⟩ := hsp
      exact wpAny_execs_nil ⟨τ, G, J.ofTry ok, q⟩
    | brk =>
      obtain ⟨τ, G, J, q⟩ := hsp
      exact ⟨τ, G, J.ofTry ok, q⟩
    | cont =>
      obtain ⟨τ, G, J, q⟩ := hsp
      exact ⟨τ, G, J.ofTry ok, q⟩
    | ret u =>
      obtain ⟨v, τ, G, J, q1, q⟩ := hsp
      exact ⟨v, τ, G, J.ofTry ok, q1, q⟩
end
/-! ### the data's side -/
structure HdA where
  cs : List Nat
  i : Option Nat
  m : Ac Flw
def anyX (xm : Nat → Nat → Option Bool) (c : Nat) : List Nat → Option Bool
  | [] => some false
  | c' :: r => match xm c c', anyX xm c r with
    | some b, some d => some (b || d)
    | _, _ => none
/-- a clause's suite raises nothing -/
def calmF : Out Flw → Out Flw
  | .exc _ _ => .stuck
  | o => o
/-- the clause's name goes -/
def goneF (i : Nat) : Out Flw → Out Flw
  | .ok .nx s => .ok .nx { s with env := s.env.set i .no }
  | .ok .bk s => .ok .bk { s with env := s.env.set i .no }
  | .ok .ct s => .ok .ct { s with env := s.env.set i .no }
  | .ok (.rt (.val d)) s => .ok (.rt (.val d)) { s with env := s.env.set i .no }
  | _ => .stuck
def hdA (x : Dat) (h : HdA) : Ac Flw := match h.i with
  | none => fun s => calmF (h.m s)
  | some i => fun s => goneF i (h.m { s with env := s.env.set i (.val x) })
def hdsA (xm : Nat → Nat → Option Bool) (c : Nat) (fs : List (Str × Dat)) : List HdA → Ac Flw
  | [] => fun s => .exc (.err c fs) s
  | h :: r => match anyX xm c h.cs with
    | some true => hdA (.err c fs) h
    | some false => hdsA xm c fs r
    | none => Ac.stk
def cauA (xm : Nat → Nat → Option Bool) (hs : List HdA) : Out Flw → Out Flw
  | .exc (.err c fs) s => hdsA xm c fs hs s
  | .exc _ _ => .stuck
  | o => o
def tryA (xm : Nat → Nat → Option Bool) (m : Ac Flw) (hs : List HdA) : Ac Flw := fun s => cauA xm hs (m s)
section
variable {W : Wd} {wx : WX} {X : Cx} {g : Gh} {P : Hp} {st : Stt} {σ : L2.St} {H : Hp} {xm : Nat → Nat → Option Bool}
def XmOk (W : Wd) (xm : Nat → Nat → Option Bool) : Prop := ∀ c c' b, xm c c' = some b → PySem.W.exmOne W.K (.ref (W.ca c)) (.ref (W.ca c')) = some b
theorem anyX_ok (ok : XmOk W xm) {c : Nat} : ∀ {cs : List Nat} {b : Bool}, anyX xm c cs = some b → PySem.W.exmAny W.K (.ref (W.ca c)) (cs.map fun c => .ref (W.ca c)) = some b
  | [], b, h => h
  | c' :: r, b, h => by
    unfold anyX at h
    split at h
    · rename_i b1 d h1 h2
      cases h
      show (match PySem.W.exmOne W.K (.ref (W.ca c)) (.ref (W.ca c')), PySem.W.exmAny W.K (.ref (W.ca c)) (r.map fun c => .ref (W.ca c)) with
        | some b, some d => some (b || d)
        | _, _ => none) = _
      rw [ok c c' b1 h1, anyX_ok ok h2]
    · cases h
/-- a slot is forgotten on both sides -/
theorem Rel.forget {i : Nat} (r : Rel W g P st σ H) : Rel W g P { st with env := st.env.set i .no } (σ.set i none) H := by
  have at_ : ∀ {j : Nat} {x : Slt}, (st.env.set i .no)[j]? = some x → x ≠ .no → i ≠ j ∧ st.env[j]? = some x := fun {j x} e h => by
    rcases getE_set e with ⟨_, z⟩ | z
    · exact absurd z h
    · exact z
  refine ⟨r.fz, r.pr, by simpa using r.len, r.n, r.sto, r.inj, r.stf, fun j d e => ?_, fun j o e => ?_, fun j k a ⟨o, e⟩ ⟨o', e'⟩ h1 h2 => ?_⟩
  · obtain ⟨h1, h2⟩ := at_ e fun z => nomatch z
    obtain ⟨v, k1, k2⟩ := r.slv j d h2
    exact ⟨v, by rw [List.getElem?_set_ne h1]; exact k1, k2⟩
  · obtain ⟨h1, h2⟩ := at_ e fun z => nomatch z
    obtain ⟨a, ho, k1, k2⟩ := r.slo j o h2
    exact ⟨a, ho, by rw [List.getElem?_set_ne h1]; exact k1, k2⟩
  · obtain ⟨q1, q2⟩ := at_ e fun z => nomatch z
    obtain ⟨q3, q4⟩ := at_ e' fun z => nomatch z
    exact r.sld j k a ⟨o, q2⟩ ⟨o', q4⟩ (sget_set h1 q1) (sget_set h2 q3)
theorem calm_post {D : Ends} {o : Out Flw} (q : PostS W wx g P (calmF o) D) : PostS W wx0 g P o D := by
  cases o with
  | ok a s => cases a <;> exact q
  | exc x s => exact q.elim
  | stuck => exact q.elim
theorem gone_post {D : Ends} {i : Nat} {o : Out Flw} (q : PostS W wx g P (goneF i o) D) : PostS W wx0 g P o (Ends.wip D (some i)) := by
  cases o with
  | exc x s => exact q.elim
  | stuck => exact q.elim
  | ok a s =>
    cases a with
    | nx => exact fun g' σ' H' l r => q g' _ H' l r.forget
    | bk => exact fun g' σ' H' l r => q g' _ H' l r.forget
    | ct => exact fun g' σ' H' l r => q g' _ H' l r.forget
    | rt x =>
      cases x with
      | val d => exact fun g' σ' H' v l r z => q g' _ H' v l r.forget z
      | own o => exact q.elim
      | bor j => exact q.elim
def HdA.tr (W : Wd) (h : HdA) : HdT := ⟨h.cs.map fun c => .ref (W.ca c), h.i, tS W wx0 h.m⟩
theorem hds_post (ok : XmOk W xm) {D : Ends} {c : Nat} {fs : List (Str × Dat)} {g' : Gh} {cls : Value} {d : Option Addr} (l : g.Le g') (r : Rel W g' P st σ H) (xr : XR W g' (.err c fs) cls d) : ∀ {hs : List HdA}, PostS W wx g P (hdsA xm c fs hs st) D → wHs W.K wx D (hs.map (HdA.tr W)) cls d σ H
  | [], q => q g' σ H cls d l r xr
  | h :: hs, q => by
    unfold hdsA at q
    obtain ⟨c2, fs2, dx, vs, e1, e2, e3, e4, e5⟩ := id xr
    cases e1
    cases e : anyX xm c h.cs with
    | none =>
      simp only [e] at q
      exact q.elim
    | some b =>
      simp only [e] at q
      refine ⟨b, by rw [e2]; exact anyX_ok ok e, fun hb => ⟨W.ca c, dx, e2, e3, fun a ha => ?_⟩, fun hb => ?_⟩
      · subst hb
        simp only at q
        obtain ⟨h1, h2, h3, h4⟩ := r.newF ha
        have l2 : g'.Le (g'.fz a (exK a (W.ca c) dx)) := Gh.le_fz h1
        have r2 := (r.laid (ho := exK a (W.ca c) dx) ha).freeze upd_same h1 h2 h3 h4
        have q2 : R W (g'.fz a (exK a (W.ca c) dx)) (.err c fs) (.ref a) := .err upd_same (l2.F _ _ e4) (Rf.mono l2 e5)
        show tS W wx0 h.m (Ends.wip D h.i) (inSl σ a h.i) _
        unfold hdA at q
        cases ei : h.i with
        | none =>
          rw [ei] at q
          exact ⟨_, P, st, r2, calm_post (PostS.le q (l.trans l2))⟩
        | some i =>
          rw [ei] at q
          exact ⟨_, P, _, r2.setVal q2, gone_post (PostS.le q (l.trans l2))⟩
      · subst hb
        simp only at q
        exact hds_post ok l r xr q
theorem ss_try {body : List Stmt} {h₀ : ExceptHandler} {hds : List ExceptHandler} {hs : List HdA} {m : Ac Flw} {pos : Pos} (hK : X.K = W.K) (ok : XmOk W xm) (hex : X.ex = []) (hst : X.stack = X.env :: X.outer) (hf : X.env.frame = some X.env.locals) (hN : X.N.Nodup) (tk : Takes X wx)
    (hb : ∀ (V : WX) (pn : List (Addr × Obj)) (xe : Value → Shared → Prop), Takes (X.tr pn xe) V → PassesOwn (model X.prog X.w) X.A X.env xe → SSs W V (X.tr pn xe) m body) (hh : HsOk X (h₀ :: hds) (hs.map (HdA.tr W))) :
    SS W wx X (tryA xm m hs) (.Try body (h₀ :: hds) [] [] pos) := psImp (ps_tryH (tb := fun V => tS W V m) hex hst hf hN tk hb hh) fun D σ H ⟨g, P, st, r, q⟩ => by
  refine ⟨g, P, st, r, ?_⟩
  unfold tryA at q
  cases e : m st with
  | ok a s =>
    rw [e] at q
    cases a <;> exact q
  | stuck =>
    rw [e] at q
    exact q
  | exc x s =>
    rw [e] at q
    intro g' σ' H' cls d l r' xr
    obtain ⟨c, fs, _, _, e1, _⟩ := id xr
    subst e1
    rw [hK]
    exact hds_post ok l r' xr q
end
end En
set_option maxHeartbeats 4000000
/-! Ey1: an error is made with arguments by name. -/
namespace En
open PySem PySem.Spec PyProof.Rows L2
section
variable {prog : Program} {w : World} {A : Around} {E : Value → Shared → Prop} {R : Result → Shared → Prop} {h : Heap} {g : Array GenState} {d : Drawn} {t : Nat} {os : OsState}
variable {nm q : Str} {C N : Addr} {bs bm bmB : List Value} {hdct : Bool} {sn : List Str} {sub : List Value} {ab : Bool} {col : Option Bool} {dd : Option Addr} {k0 k1 k2 k3 k5 : Option Value} {B newId initId : String} {kw : List (Str × Value)}
theorem check_newK {M : Model} (F : ExcBaseFacts B newId initId bmB) (hT : ∀ X : String, bm.contains (.type X) = bmB.contains (.type X)) {rest : List Value} {Q : Unit → Shared → Prop}
    (hC : h.get? C = some (excClassObj nm q C N bs bm hdct sn sub ab col dd k0 k1 k2 k3 k5 newId)) (hq : Q () ⟨h, g, d, t, os⟩) : wpAny M A (checkBuiltinCall newId ⟨.ref C :: rest, kw⟩) Q E ⟨h, g, d, t, os⟩ := by
  have c1 : (Value.ref C :: bm).contains (.type B) = true := by
    rw [List.contains_cons, hT, F.hasB]
    exact Bool.or_true _
  have c2 := F.noStar
  simp only [checkBuiltinCall, F.newKind, F.newSplit,  F.newRow]
  repeat (first
    | refine wpAny_loadPart_at hC ?_
    | (refine wpAny_isSubtype_exc hC ?_
       rw [c1])
    | refine wpAny_staticBase_exc hC ?_
    | refine wpAny_madeBy_exc hC ?_
    | simp only [bne_self_eq_false, Bool.false_eq_true, if_false]
    | wp_step)
  exact hq
theorem newK (F : ExcBaseFacts B newId initId bmB) (hT : ∀ X : String, bm.contains (.type X) = bmB.contains (.type X)) {rest : List Value}
    (hC : h.get? C = some (excClassObj nm q C N bs bm hdct sn sub ab col dd k0 k1 k2 k3 k5 newId))
    (hq : R (.ok (.ret (.ref (h.objs.size + 1)))) ⟨(h.push (PySem.W.kdv_tup rest)).push (PySem.HandSPX.excO C h.objs.size), g, d, t, os⟩) (hrest : rest.length ≤ sizeLine) :
    codeAny (model prog w) A (.builtin newId ⟨.ref C :: rest, kw⟩) R ⟨h, g, d, t, os⟩ := by
  have e0 := F.ends
  have c1 : (Value.ref C :: bm).contains (.type B) = true := by
    rw [List.contains_cons, hT, F.hasB]
    exact Bool.or_true _
  have c2 : (Value.ref C :: bm).contains (.type "AttributeError") = false := by
    rw [List.contains_cons, hT, F.noAttr]
    rfl
  have c3 : (Value.ref C :: bm).contains (.type "NameError") = false := by
    rw [List.contains_cons, hT, F.noName]
    rfl
  refine codeAny_builtinAt F.entry ?_
  unfold Builtin.«BaseException.__new__»
  refine PySem.wpAt_bind ?_
  show PySem.wpAt _ _ _ (stack >>= _) _ _ _
  refine PySem.wpAt_bind (PySem.wpAt_stack fun p below => PySem.wpAt_of_wpAny ?_)
  wp_walk
  refine PySem.wpAt_of_wpAny ?_
  rw [F.owner]
  repeat (first
    | with_reducible refine wpAny_madeHere_exc F.canon hC ?_
    | with_reducible refine wpAny_loadPart_at hC ?_
    | (with_reducible refine wpAny_isSubtype_exc hC ?_
       first | rw [c1] | rw [c2] | rw [c3])
    | wp_step)
  show R _ _
  rw [Heap.size_push]
  exact hq
theorem type_callK (F : ExcBaseFacts B newId initId bmB) (hT : ∀ X : String, bm.contains (.type X) = bmB.contains (.type X)) {rest : List Value} {fI : Addr} {Q : Fin → Shared → Prop}
    (hC : h.get? C = some (excClassObj nm q C N bs bm hdct sn sub ab col dd k0 k1 k2 k3 k5 newId))
    (hi : PySem.W.Looks (model prog w) h (typeLookup (.ref C) "__init__") (some (.ref fI))) (hb : ∀ self, PySem.W.Looks (model prog w) h (bindSpecial (.ref fI) self) (.ref fI, [self])) (hrest : rest.length ≤ sizeLine)
    (hq : codeAny (model prog w) A (.call (.ref fI) ⟨.ref (h.objs.size + 1) :: rest, kw⟩)
      (fun r s' => match r with | .ok (.ret v) => v = .none ∧ Q (.done (.ret (.ref (h.objs.size + 1)))) s' | .ok _ => False | .error e => E e s')
      ⟨(h.push (PySem.W.kdv_tup rest)).push (PySem.HandSPX.excO C h.objs.size), g, d, t, os⟩) :
    wpAny (model prog w) A (Builtin.«type.__call__» ⟨.ref C :: rest, kw⟩) Q E ⟨h, g, d, t, os⟩ := by
  repeat (first
    | with_reducible refine wpAny_loadPart_at hC ?_
    | with_reducible refine wpAny_madeBy_exc hC ?_
    | wp_step)
  refine codeAny_call_builtin_code (Code.quiet_builtin _ F.quiet) (check_newK F hT hC ?_)
  refine newK F hT hC ?_ hrest
  show wpAny _ _ _ _ _ _
  have kk : ∀ b o, h.get? b = some o → ((h.push (PySem.W.kdv_tup rest)).push (PySem.HandSPX.excO C h.objs.size)).get? b = some o := fun b o e => Heap.get?_push_of_some _ (Heap.get?_push_of_some _ e)
  have c1 := kk _ _ hC
  have c2 : ((h.push (PySem.W.kdv_tup rest)).push (PySem.HandSPX.excO C h.objs.size)).get? (h.objs.size + 1) = some (PySem.HandSPX.excO C h.objs.size) := by heap_get
  have c3 : (Value.ref C :: bm).contains (.ref C) = true := by simp
  have c4 := hi.keeps kk
  have c5 := (hb (.ref (h.objs.size + 1))).keeps kk
  unfold isInstance
  repeat (first
    | with_reducible refine wpAny_loadPart_at c2 ?_
    | (with_reducible refine wpAny_isSubtype_exc c1 ?_
       rw [c3])
    | wp_step)
  show wpAny _ _ (typeLookup (.ref C) _) _ _ _
  refine c4.at ?_
  refine wpAny_holding (wpAny_bind (c5.at (wpAny_bind (wpAny_call (codeAny_mono hq fun r s' z => ?_)))))
  cases r with
  | error e => exact z
  | ok fl =>
    cases fl with
    | ret v =>
      obtain ⟨rfl, z⟩ := z
      first
        | exact wpAny_pure (wpAny_pure z)
        | (wp_walk
           exact z)
    | next => exact z.elim
    | brk => exact z.elim
    | cont => exact z.elim
theorem call_ownK (F : ExcBaseFacts B newId initId bmB) (hT : ∀ X : String, bm.contains (.type X) = bmB.contains (.type X)) {rest : List Value} {fI : Addr}
    (hC : h.get? C = some (excClassObj nm q C N bs bm hdct sn sub ab col dd k0 k1 k2 k3 k5 newId))
    (hi : PySem.W.Looks (model prog w) h (typeLookup (.ref C) "__init__") (some (.ref fI))) (hb : ∀ self, PySem.W.Looks (model prog w) h (bindSpecial (.ref fI) self) (.ref fI, [self])) (hrest : rest.length ≤ sizeLine)
    (hq : codeAny (model prog w) (A.under (.builtin "type.__call__" ⟨.ref C :: rest, kw⟩)) (.call (.ref fI) ⟨.ref (h.objs.size + 1) :: rest, kw⟩) (PySem.W.InitBack (h.objs.size + 1) R)
      ⟨(h.push (PySem.W.kdv_tup rest)).push (PySem.HandSPX.excO C h.objs.size), g, d, t, os⟩) :
    codeAny (model prog w) A (.call (.ref C) ⟨rest, kw⟩) R ⟨h, g, d, t, os⟩ := by
  have g1 := tc_lookup
  have g2 := tc_bind (.ref C)
  have g3 := tc_sub
  have hTy : (⟨h, g, d, t, os⟩ : Shared).TypeIs (.ref C) "type" := ⟨_, hC, rfl⟩
  have ck : PySem.W.Looks (model prog w) h (isInstance (.ref C) (.type "type")) true := by
    have L : PySem.W.Looks (model prog w) h (typeOf (.ref C)) (.type "type") := (PySem.W.Looks.ld (part := none) hC).andThen .now
    exact L.andThen (PySem.W.Looks.of_pure g3)
  refine codeAny_of_tree ?_
  show wpAny _ _ (callAny (.ref C) _) _ _ _
  repeat (any_goals (first
    | assumption
    | with_reducible refine wpAny_loadPart_at hC ?_
    | wp_step))
  refine ⟨rfl, codeAny_call_builtin_at (Code.quiet_builtin _ (by decide +kernel)) entry_typeCall (PySem.W.check_slot tc_kind tc_split ck (PySem.W.tc_args _ _ _) (type_callK F hT hC hi hb hrest (codeAny_mono hq fun r s' z => ?_)))⟩
  rcases r with e | (v | _ | _ | _) <;> exact z
end
/-- behind C(k = e, ..): the values of __init__ in its order -/
def pickK {α : Type} (js : List Nat) (zs : List α) : Option (List α) := mapO (fun j => zs[j]?) js
theorem slv_kw {K : PySem.W.Frag} {us ws : List Value} : ∀ {js : List Nat} {bs : List Value} {zs vs : List V}, SlV K us ws (js.map Sl.kw) bs → Vals zs ws → pickK js zs = some vs → Vals vs bs
  | [], bs, zs, vs, h, r, e => by
    cases e
    cases h
    exact .nil
  | j :: js, bs, zs, vs, h, r, e => by
    unfold pickK mapO at e
    split at e
    · rename_i v vs' h1 h2
      cases e
      cases h with
      | kw hu hr =>
        obtain ⟨z, k1, k2⟩ := getVals r hu
        have k1' : zs[j]? = some v := h1
        rw [k1] at k1'
        cases k1'
        exact .cons k2 (slv_kw hr r h2)
    · cases e
structure ErrK (P : Program) (w : World) (K : PySem.W.Frag) (mg : Str → Option Value) (base : Heap) (k : Nat) (C : Addr) (fl : List (Str × Nat)) (n : Nat) (ks : List Str) (js : List Nat) : Prop where
  ex : ∃ f fd ps, ExC K C f ∧ FnG P w K mg base k f fd ps (spE C fl n) ∧ ps.length = n + 1 ∧ CBp K fd ps 1 ks (.pos 0 :: js.map .kw)
def tPick (m : Nat) (js : List Nat) (tk : TA) : TA := fun σ H Q => tk σ H fun zs H1 => zs.length = m ∧ ∃ vs, pickK js zs = some vs ∧ Q vs H1
def pckA (m : Nat) (js : List Nat) (mk : Ac (List Dat)) : Ac (List Dat) := mk.bind fun zs => if zs.length = m then Ac.opt (pickK js zs) else Ac.stk
section
variable {X : Cx} {C : Addr} {fl : List (Str × Nat)} {n k : Nat} {tk : TA} {x : Str} {p pos : Pos} {kws : List Keyword} {ks : List Str} {js : List Nat}
theorem pmk_exK (T : ErrK X.prog X.w X.K X.mg X.base k C fl n ks js) (hr : RoomG (k + 1) X.A) (hg : Gl X x) (hm : X.mg x = some (.ref C)) (pk : PK X kws tk) (hdb : (x == ("__debug__" : Str)) = false)
    (hall : (backToKw pos (keywordEach kws X.env)).all (·.1.isSome) = true) (hks : (backToKw pos (keywordEach kws X.env)).filterMap (·.1) = ks)
    (hpl : ((backTo pos (starEach [] X.env)).any (·.1) || (backToKw pos (keywordEach kws X.env)).any (·.1.isNone)) = false) :
    PMk X (.Call (.Name x p) [] kws pos) (tMkE C fl n (tPick ks.length js tk)) := by
  intro pins s σ H Q I h
  obtain ⟨fI, fd, ps, E, F, hps, cb⟩ := T.ex
  obtain ⟨B, newId, initId, bmB, FB, SF, hin, hov⟩ := E.base
  refine wpAny_Call_Name_kw (ld_glob I hg hm ?_ hdb)
  refine PySem.W.callWith_KW0 (h₀ := X.base) I.ok.mod.kin E.kC hall (thn (pk.run pos pins s σ H _ I h) fun ws s1 ⟨zs, H1, I1, rz, hzl, vs, hpk, hz, hz2, fs, hx, q1⟩ => ⟨I1.kIn, ?_⟩) hpl
  rw [hks]
  show wpAny _ _ (call (.ref C) [] (ks.zip ws)) _ _ _
  obtain ⟨hp, g, dr, tkk, os⟩ := s1
  obtain ⟨nm, N', qn, bs, bm, hdct, sn, sub, ab, col, dd, k0, k1, k2, k3, k5, hC, hT⟩ := PySem.W.excInit_of I1.kIn hin
  have hsz : hp.objs.size ≤ hp.objs.size + 1 := Nat.le_succ _
  have hna : H1 (hp.objs.size + 1) = none := I1.hok.fresh hsz
  have kk : ∀ b o, hp.get? b = some o → ((hp.push (PySem.W.kdv_tup [])).push (PySem.HandSPX.excO C hp.objs.size)).get? b = some o := fun b o z => Heap.get?_push_of_some _ (Heap.get?_push_of_some _ z)
  have hget : ((hp.push (PySem.W.kdv_tup [])).push (PySem.HandSPX.excO C hp.objs.size)).get? (hp.objs.size + 1) = some (PySem.HandSPX.excO C hp.objs.size) := by heap_get
  have I2 : L2.Inv X pins σ (upd H1 (hp.objs.size + 1) (L2.exo (hp.objs.size + 1) C none)) ⟨(hp.push (PySem.W.kdv_tup [])).push (PySem.HandSPX.excO C hp.objs.size), g, dr, tkk, os⟩ :=
    I1.laid (t' := tkk) (a := hp.objs.size + 1) (o := L2.exo (hp.objs.size + 1) C none) (h' := (hp.push (PySem.W.kdv_tup [])).push (PySem.HandSPX.excO C hp.objs.size)) kk hsz (L2.exo_ok hget)
  have hwl : ws.length = ks.length := by
    rw [← Paired.length rz]
    exact hzl
  obtain ⟨bs0, hb, hs⟩ := cb.to ⟨(hp.push (PySem.W.kdv_tup [])).push (PySem.HandSPX.excO C hp.objs.size), g, dr, tkk, os⟩ [Value.ref (hp.objs.size + 1)] ws I2.kIn rfl hwl
  obtain ⟨bs1, hbs, hv⟩ : ∃ bs1, bs0 = Value.ref (hp.objs.size + 1) :: bs1 ∧ Vals vs bs1 := by
    cases hs with
    | pos hu hr2 =>
      have e1 := Option.some.inj hu
      subst e1
      exact ⟨_, rfl, slv_kw hr2 rz hpk⟩
  subst hbs
  have r2 : Vals (V.ref (hp.objs.size + 1) :: vs) (Value.ref (hp.objs.size + 1) :: bs1) := .cons rfl hv
  have ne_up : ∀ {b : Addr} {o : HO}, upd H1 (hp.objs.size + 1) o b = none → H1 b = none := fun {b o} z => by
    by_cases hb : b = hp.objs.size + 1
    · rw [hb]
      exact hna
    · rw [upd_ne hb] at z
      exact z
  refine wpAny_call (call_ownK FB hT hC (PySem.W.looks_findIn I1.kIn E.ini) (fun self => PySem.W.bind_fn I1.kIn self E.tI) (Nat.zero_le _)
    (codeAny_mono (F.run _ X.stack _ _ ⟨Value.ref (hp.objs.size + 1) :: [], ks.zip ws⟩ (Value.ref (hp.objs.size + 1) :: bs1) (V.ref (hp.objs.size + 1) :: vs)
      (fun v H2 => v = .non ∧ ∃ d, H1 d = none ∧ d ≠ hp.objs.size + 1 ∧ H2 = upd (upd (upd H1 (hp.objs.size + 1) (L2.exo (hp.objs.size + 1) C none)) d (L2.exd d fs)) (hp.objs.size + 1) (L2.exo (hp.objs.size + 1) C (some d))) (fun _ _ _ => False) (hr.make C [] _) (I2.env0.make C [] _) hb r2
      ⟨_, vs, fs, rfl, hz, hx, upd_same, fun d hd hne => ⟨rfl, d, ne_up hd, hne, rfl⟩⟩) fun r s' hq' => ?_))
  cases r with
  | error er =>
    obtain ⟨_, _, _, _, _, _, _, _, _, _, _, _, w⟩ := hq'
    exact w.elim
  | ok fw =>
    cases fw with
    | ret u =>
      obtain ⟨v, H2, os2, bare2, un2, hok2, rv, ev, d, hd1, hne, eH⟩ := hq'
      subst ev
      obtain ⟨h2, g2, d2, t2, os'⟩ := s'
      have ea : H2 (hp.objs.size + 1) = some (L2.exo (hp.objs.size + 1) C (some d)) := by rw [eH, upd_same]
      have ed : H2 d = some (L2.exd d fs) := by rw [eH, upd_ne hne, upd_same]
      have eN : upd (L2.del H2 (hp.objs.size + 1)) d (.xd fs) = upd H1 d (.xd fs) := by
        funext b
        by_cases hb : b = d
        · rw [hb, upd_same, upd_same]
        · rw [upd_ne hb, upd_ne hb]
          by_cases hb2 : b = hp.objs.size + 1
          · rw [hb2, L2.del_same, hna]
          · rw [L2.del_ne hb2, eH, upd_ne hb2, upd_ne hb, upd_ne hb2]
      exact ⟨rv, L2.mk_end (raises_own E.exC E.tyC) I1 hsz kk un2 hok2 os2 bare2 ea ed hd1 (by rw [eN]; exact q1 d hd1)⟩
    | next => exact False.elim hq'
    | brk => exact False.elim hq'
    | cont => exact False.elim hq'
end
section
variable {W : Wd} {wx : WX} {X : Cx} {g : Gh} {P : Hp} {st : Stt} {σ : L2.St} {H : Hp}
theorem pick_ok {ds : List Dat} {vs : List V} (r : Rs W g ds vs) : ∀ {js : List Nat} {xs : List Dat}, pickK js ds = some xs → ∃ ws, pickK js vs = some ws ∧ Rs W g xs ws
  | [], xs, e => by
    cases e
    exact ⟨[], rfl, .nil⟩
  | j :: js, xs, e => by
    unfold pickK mapO at e
    split at e
    · rename_i d ds' h1 h2
      cases e
      have h1' : ds[j]? = some d := h1
      obtain ⟨v, k1, k2⟩ := r.get h1'
      obtain ⟨ws, k3, k4⟩ := pick_ok r (js := js) h2
      refine ⟨v :: ws, ?_, .cons k2 k4⟩
      unfold pickK at k3
      unfold pickK mapO
      rw [k1, k3]
    · cases e
theorem pmk_imp {e : Expr} {t t' : L2.St → Hp → XK → Prop} (h : PMk X e t) (hi : ∀ σ H Q, t' σ H Q → t σ H Q) : PMk X e t' := fun pins s σ H Q I z => h pins s σ H Q I (hi _ _ _ z)
theorem tPick_imp {m n : Nat} {js : List Nat} {C : Addr} {fl : List (Str × Nat)} {mk : Ac (List Dat)} {Q : XK} (h : tMkE C fl n (tX W wx dsK (pckA m js mk)) σ H Q) : tMkE C fl n (tPick m js (tX W wx dsK mk)) σ H Q := by
  obtain ⟨g, P, st, r, q⟩ := h
  refine ⟨g, P, st, r, (Post.bindE q).mono fun zs s1 g1 H1 l1 r1 q1 vs hv => ?_⟩
  by_cases hc : zs.length = m
  · simp only [hc, if_true] at q1
    cases e : pickK js zs with
    | none =>
      rw [e] at q1
      exact q1.elim
    | some xs =>
      rw [e] at q1
      obtain ⟨ws, k1, k2⟩ := pick_ok hv e
      exact ⟨by rw [← hv.length]; exact hc, ws, k1, q1 g1 H1 (.refl g1) r1 ws k2⟩
  · simp only [hc, if_false] at q1
    exact q1.elim
end
end En
set_option maxHeartbeats 4000000
/-! En17: the small language, its evaluator, the compiler to it. -/
namespace En
open PySem PySem.Spec PyProof.Rows L2
mutual
inductive Ex where
  | con (d : Dat) | slot (i : Nat)
  | tup (es : List Ex) | lst (es : List Ex) | dic (kvs : List (Ex × Ex))
  | bin (op : BOp) (a b : Ex) | neg (a : Ex)
  | cmp (op : COp) (a b : Ex) | chn (op op' : COp) (a b c : Ex)
  | and (a b : Ex) | or (a b : Ex) | nt (a : Ex) | ite (c a b : Ex)
  | att (e : Ex) (f : Str) | prp (e : Ex) (f : Str)
  | sub (e i : Ex) | slc (e : Ex) (lo hi : Option Ex) | rev (e : Ex)
  | call (f : Nat) (es zs : List Ex) (sl : List Sl) | mtd (e : Ex) (m : Str) (es zs : List Ex) (ks : List Str)
  | bi (b : Bi) (a : Ex) (es : List Ex) | mth (e : Ex) (m : Mt) (es : List Ex)
  | lc (e : Ex) (t : Tg) (src : Src) (cond : Option Ex) (own : List Nat)
  | sto (e : Ex)
  | mk (c f : Nat) (es zs : List Ex) (sl : List Sl) | cmt (c f : Nat) (e : Ex) (es : List Ex) (sl : List Sl)
  | kget (kvs : List (Str × Dat)) (i : Ex) | kin (neg : Bool) (kvs : List (Str × Dat)) (a : Ex) | oeq (neg : Bool) (a b : Ex)
  | lc2 (e : Ex) (t : Tg) (src : Src) (cond : Option Ex) (t1 : Tg) (src1 : Src) (cond1 : Option Ex) (own vs1 : List Nat)
  | fmt (e : Ex) | jn (es : List Ex) | intt (e : Ex) | dctp (e : Ex) | dup (d k v : Ex) | cao (e : Ex) (es : List Ex) | ss (e : Ex)
  | xmk (c : Nat) (es : List Ex) | xat (e : Ex) (f : Str)
  | xmq (c : Nat) (zs : List Ex) (js : List Nat)
inductive Src where
  | ex (e : Ex) | rng1 (a : Ex) | rng2 (a b : Ex) | enm (e : Ex) | zip (a b : Ex)
inductive Tg where
  | slot (i : Nat) | tup (ts : List Tg) | sub (e i : Ex)
end
inductive Sm where
  | asg (t : Tg) (e : Ex) | att (o : Ex) (f : Str) (e : Ex) | par2 (i j : Nat) (es : List Ex) | par3 (i j l : Nat) (es : List Ex)
  | aug (i : Nat) (op : BOp) (e : Ex)
  | exp (e : Ex) | ret (e : Option Ex)
  | ife (c : Ex) (a b : List Sm) | whl (c : Ex) (b : List Sm) | for (t : Tg) (src : Src) (b els : List Sm)
  | brk | cnt | pas
  | mat (e : Ex) (cs : List (List Str × List Sm)) (d : List Sm) | stk
  | fau (o : Ex) (f : Str) (op : BOp) (e : Ex) | iad (i : Nat) (b : Bool) (e : Ex) | rse (c : Nat) (es : List Ex) | tryS (b : List Sm) (hs : List (List Nat × Option Nat × List Sm))
/-- where a global name leads -/
inductive Gv where
  | dat (d : Dat) | fn (f : Nat) | cls (c : Nat)
structure Tb where
  T : Tab
  flds : Nat → Str → Bool
  isf : Str → Bool
  isp : Str → Bool
  ism : Str → Bool
  meth : Nat → Str → Option Nat
  prop : Nat → Str → Option Nat
  bnd : Nat → Nat → List Str → Option (List Sl)
  gl : Str → Option Gv
  bl : Str → Bool
  ctor : Nat → Option Nat
  cmet : Nat → Str → Option Nat
  smet : Nat → Str → Option Nat
  eqm : Nat → Option Nat
  kd : Str → Option (List (Str × Dat))
  /- errors: fields and number of values; which fields; in which clause -/
  exc : Nat → Option (List (Str × Nat) × Nat)
  xf : Nat → Str → Bool
  isx : Str → Bool
  xm : Nat → Nat → Option Bool
  cco : Nat → Option Nat
  iop : Nat → Bool → Option Nat
  xkw : Nat → List Str → Option (List Nat)
structure Ec where
  t : Tb
  call : Nat → List Dat → List Mob → Cou
  low : Nat → List Dat → List Mob → Cou
  wf : Nat
def Ec.disp (C : Ec) (m : Str) (n : Nat) (ks : List Str) : Disp := fun c => (C.t.meth c m).bind fun f => (C.t.bnd f (n + 1) ks).map fun sl => (sl, C.call f)
def Ec.dispP (C : Ec) (f : Str) : Nat → Option (List Dat → List Mob → Cou) := fun c => (C.t.prop c f).map fun i => C.low i
def Ec.dispE (C : Ec) : Nat → Option (List Dat → List Mob → Cou) := fun c => (C.t.eqm c).map fun i => C.low i
def Ec.dispC (C : Ec) (n : Nat) : Disp := fun c => (C.t.cco c).bind fun f => (C.t.bnd f (n + 1) []).map fun sl => (sl, C.call f)
def Ec.dispI (C : Ec) (b : Bool) : Nat → Option (List Dat → List Mob → Cou) := fun c => (C.t.iop c b).map fun i => C.call i
def Ec.errA (C : Ec) (c : Nat) (ms : Ac (List Dat)) : Ac Dat := match C.t.exc c with
  | some p => En.errA c p.1 p.2 ms
  | none => Ac.stk
def condA (f : Ex → Ac Bool) : Option Ex → Ac Bool
  | none => Ac.ret true
  | some c => f c
def tgsA (f : Tg → Rv → Ac Unit) : List Tg → List Dat → Ac Unit
  | [] => fun ds => match ds with
    | [] => Ac.ret ()
    | _ => Ac.stk
  | t :: ts => fun ds => match ds with
    | d :: ds => (f t (.val d)).bind fun _ => tgsA f ts ds
    | _ => Ac.stk
mutual
def ev (C : Ec) : Nat → Ex → Ac Rv
  | 0, _ => Ac.stk
  | n + 1, e => match e with
    | .con d => Ac.ret (.val d)
    | .slot i => slotA i
    | .tup es => (seqA (fun e => (ev C n e).bind toVal) es).bind fun ds => if ds.length ≤ sizeLine then Ac.ret (.val (.tup ds)) else Ac.stk
    | .lst es => (seqA (fun e => (ev C n e).bind toVal) es).bind fun ds => if ds.length ≤ sizeLine then Ac.ret (.own (.lst ds)) else Ac.stk
    | .dic [] => Ac.ret (.own (.dct []))
    | .dic kvs => dicA (kvs.map fun p => ((ev C n p.1).bind toVal, (ev C n p.2).bind toVal))
    | .bin op a b => (ev C n a).bind fun x => (ev C n b).bind fun y => binK op x y
    | .neg a => (ev C n a).bind fun x => (lookA x).bind fun w => match w with
      | .dt (.int i) => Ac.ret (.val (.int (-i)))
      | _ => Ac.stk
    | .cmp op a b => (ev C n a).bind fun x => (ev C n b).bind fun y => cmpK op x y
    | .chn op op' a b c => chnA op op' (ev C n a) ((ev C n b).bind toVal) (ev C n c)
    | .and a b => (ev C n a).bind fun x => (lookA x).bind fun w => (Ac.opt w.truth).bind fun k => if k then ev C n b else Ac.ret x
    | .or a b => (ev C n a).bind fun x => (lookA x).bind fun w => (Ac.opt w.truth).bind fun k => if k then Ac.ret x else ev C n b
    | .nt a => (ev C n a).bind fun x => (lookA x).bind fun w => (Ac.opt w.truth).bind fun k => Ac.ret (.val (.bl (!k)))
    | .ite c a b => (evT C n c).bind fun k => if k then ev C n a else ev C n b
    | .att e f => (ev C n e).bind fun x => (lookA x).bind fun w => Ac.opt (fldK C.t.flds w f)
    | .prp e f => prpA (ev C n e) (C.dispP f)
    | .sub e i => (ev C n e).bind fun x => (ev C n i).bind fun y => subK x y
    | .slc e lo hi => (ev C n e).bind fun x => (optA (fun e => (ev C n e).bind intA) lo).bind fun l => (optA (fun e => (ev C n e).bind intA) hi).bind fun h => slcK x l h
    | .rev e => (ev C n e).bind fun x => (lookA x).bind fun w => match w.lst with
      | some xs => Ac.ret (.own (.lst xs.reverse))
      | none => Ac.stk
    | .call f es zs sl => argA (fun _ => []) (seqA (fun e => (ev C n e).bind toVal) es) (seqA (fun e => (ev C n e).bind toVal) zs) es.length zs.length sl (couA (C.call f))
    | .mtd e m es zs ks => mtdA (ev C n e) (seqA (fun e => (ev C n e).bind toVal) es) (seqA (fun e => (ev C n e).bind toVal) zs) es.length ks.length m (C.disp m es.length ks)
    | .bi b a es => biA C.t.T b (ev C n a) (seqA (fun e => (ev C n e).bind toVal) es)
    | .mth e m es => mthA m (ev C n e) (seqA (fun e => (ev C n e).bind toVal) es)
    | .lc e t src cond own => lcA (srcA C n src) (tgA C n t) (condA (evT C n) cond) ((ev C n e).bind toVal) own
    | .sto e => (ev C n e).bind stoA
    | .mk c f es zs sl => argA (fun n => [.ref n]) (seqA (fun e => (ev C n e).bind toVal) es) (seqA (fun e => (ev C n e).bind toVal) zs) es.length zs.length sl (mkK c (C.low f))
    | .cmt c f e es sl => argA (fun _ => [.cls c]) (seqA (fun e => (ev C n e).bind toVal) (e :: es)) (Ac.ret []) (es.length + 1) 0 sl (couA (C.call f))
    | .kget kvs i => kgetA kvs (ev C n i)
    | .kin neg kvs a => kinA neg kvs (ev C n a)
    | .oeq neg a b => oeqA neg (ev C n a) (ev C n b) C.dispE
    | .lc2 e t src cond t1 src1 cond1 own vs1 => lc2A (srcA C n src) (tgA C n t) (condA (evT C n) cond) (srcA C n src1) (tgA C n t1) (condA (evT C n) cond1) ((ev C n e).bind toVal) own vs1
    | .fmt e => fmtA (ev C n e)
    | .jn es => jnA (ev C n) es Str.empty
    | .intt e => intTA (ev C n e)
    | .dctp e => dctA (ev C n e)
    | .dup d k v => dupA (ev C n d) ((ev C n k).bind toVal) ((ev C n v).bind toVal)
    | .cao e es => caoA (ev C n e) (seqA (fun e => (ev C n e).bind toVal) es) es.length (C.dispC es.length)
    | .ss e => ssA (ev C n e)
    | .xmk c es => (C.errA c (seqA (fun e => (ev C n e).bind toVal) es)).bind fun d => Ac.ret (.val d)
    | .xmq c zs js => (C.errA c (pckA zs.length js (seqA (fun e => (ev C n e).bind toVal) zs))).bind fun d => Ac.ret (.val d)
    | .xat e f => (ev C n e).bind fun x => (lookA x).bind fun w => Ac.opt (fldX C.t.xf w f)
def evT (C : Ec) : Nat → Ex → Ac Bool
  | 0, _ => Ac.stk
  | n + 1, e => match e with
    | .nt a => (evT C n a).bind fun k => Ac.ret (!k)
    | .and a b => (evT C n a).bind fun k => if k then evT C n b else Ac.ret false
    | .or a b => (evT C n a).bind fun k => if k then Ac.ret true else evT C n b
    | .ite c a b => (evT C n c).bind fun k => if k then evT C n a else evT C n b
    | e => (ev C n e).bind truA
def srcA (C : Ec) : Nat → Src → Ac (List Dat)
  | 0, _ => Ac.stk
  | n + 1, e => match e with
    | .ex e => walkA (ev C n e)
    | .rng1 a => ((ev C n a).bind toVal).bind fun d => Ac.opt (rngD [d])
    | .rng2 a b => ((ev C n a).bind toVal).bind fun d => ((ev C n b).bind toVal).bind fun d' => Ac.opt (rngD [d, d'])
    | .enm a => ((ev C n a).bind toVal).bind fun d => Ac.opt (enmK d)
    | .zip a b => ((ev C n a).bind toVal).bind fun d => ((ev C n b).bind toVal).bind fun d' => Ac.opt (zipK d d')
def tgA (C : Ec) : Nat → Tg → Rv → Ac Unit
  | 0, _ => fun _ => Ac.stk
  | n + 1, t => match t with
    | .slot i => setA i
    | .tup ts => unpA ts.length (tgsA (fun t => tgA C n t) ts)
    | .sub o i => fun x => (toVal x).bind fun d => (ev C n o).bind fun o => (ev C n i).bind fun k => stpK d o k
end
def seqsA (f : Sm → Ac Flw) : List Sm → Ac Flw
  | [] => nxA
  | s :: r => seqM (f s) (seqsA f r)
def ex (C : Ec) : Nat → Sm → Ac Flw
  | 0, _ => Ac.stk
  | n + 1, s => match s with
    | .asg t e => (ev C n e).bind fun x => (tgA C n t x).bind fun _ => nxA
    | .att o f e => (ev C n e).bind fun x => (toVal x).bind fun d => (ev C n o).bind fun o => atsA C.t.flds f d o
    | .par2 i j es => parA2 i j (seqA (fun e => (ev C n e).bind toVal) es)
    | .par3 i j l es => parA3 i j l (seqA (fun e => (ev C n e).bind toVal) es)
    | .aug i op e => augN i op (ev C n e)
    | .exp e => (ev C n e).bind fun _ => nxA
    | .ret none => Ac.ret (.rt (.val .non))
    | .ret (some e) => (ev C n e).bind retA
    | .ife c a b => (evT C n c).bind fun k => if k then seqsA (ex C n) a else seqsA (ex C n) b
    | .whl c b => whlA (evT C n c) (seqsA (ex C n) b) C.wf
    | .for t src b els => (srcA C n src).bind (forA (tgA C n t) (seqsA (ex C n) b) (seqsA (ex C n) els))
    | .brk => Ac.ret .bk
    | .cnt => Ac.ret .ct
    | .pas => nxA
    | .mat e cs d => matA (ev C n e) (cs.map fun p => (p.1, seqsA (ex C n) p.2)) (seqsA (ex C n) d)
    | .stk => Ac.stk
    | .fau o f op e => fauA C.t.flds f (fun i j => if op = .add then i + j else i - j) (ev C n o) (ev C n e)
    | .iad i b e => iadA i ((ev C n e).bind toVal) (C.dispI b)
    | .rse c es => rseA (C.errA c (seqA (fun e => (ev C n e).bind toVal) es))
    | .tryS b hs => tryA C.t.xm (seqsA (ex C n) b) (hs.map fun h => ⟨h.1, h.2.1, seqsA (ex C n) h.2.2⟩)
/-! ### the compiler -/
structure Ge where
  N : List Str
  sc : Scope
  fnl : Str → Bool
  /- where displays lie that are put into the store -/
  st : List (Nat × Nat)
def Ge.wrap (Γ : Ge) (p : Pos) (x : Ex) : Ex := if Γ.st.contains (p.line, p.col) then .sto x else x
def nmOk (x : Str) : Bool := !(x == ("__debug__" : Str)) && !(x == ("__classdict__" : Str))
def Ge.glob (Γ : Ge) (x : Str) : Bool := decide (Γ.sc.names.lookup x = some .globalImplicit)
def Ge.vis (Γ : Ge) (x : Str) : Bool := match Γ.sc.names.lookup x with
  | some .local => true
  | some .cell => true
  | some .free => true
  | _ => false
def Ge.loc (Γ : Ge) (x : Str) : Bool := match Γ.sc.names.lookup x with
  | some .local => true
  | some .cell => Γ.fnl x
  | _ => false
def Ge.isl (Γ : Ge) (x : Str) : Bool := decide (Γ.sc.names.lookup x = some .local)
def binOf : Operator → Option BOp
  | .Add => some .add
  | .Sub => some .sub
  | .Mult => some .mul
  | .FloorDiv => some .fdiv
  | .Mod => some .mod
  | .Pow => some .pow
  | _ => none
def cmpOf : CmpOp → Option COp
  | .Eq => some .eq
  | .NotEq => some .ne
  | .Lt => some .lt
  | .LtE => some .le
  | .Gt => some .gt
  | .GtE => some .ge
  | .In => some .isin
  | .NotIn => some .notin
  | .Is => some .is
  | .IsNot => some .isnot
def biOf (x : Str) : Option Bi :=
  if x = "len" then some .len else if x = "tuple" then some .tuple else if x = "list" then some .list else if x = "str" then some .str
  else if x = "repr" then some .repr else if x = "all" then some .all else if x = "any" then some .any else if x = "isinstance" then some .isi
  else if x = "max" then some .max else if x = "min" then some .min else if x = "sum" then some .sum else none
def tyOf (x : Str) : Option String :=
  if x = "str" then some "str" else if x = "int" then some "int" else if x = "tuple" then some "tuple" else if x = "list" then some "list" else if x = "dict" then some "dict" else if x = "bool" then some "bool" else if x = "ValueError" then some "ValueError" else if x = "RuntimeError" then some "RuntimeError" else if x = "LookupError" then some "LookupError" else none
def mtOf (x : Str) : Option Mt :=
  if x = "append" then some .append else if x = "pop" then some .pop else if x = "extend" then some .extend else if x = "upper" then some .upper
  else if x = "split" then some .split else if x = "join" then some .join else if x = "get" then some .get
  else if x = "update" then some .update else none
/-- what is no slice, no star -/
def plainE : Expr → Bool
  | .Starred .. => false
  | .Slice .. => false
  | _ => true
def attOk : Expr → Bool
  | .Call (.Name id _) [] [] _ => !(id == ("super" : Str))
  | _ => true
def isSet : Expr → Bool
  | .Set .. => true
  | _ => false
def isLc : Expr → Bool
  | .ListComp .. => true
  | .SetComp .. => true
  | .DictComp .. => true
  | _ => false
def ownOf (N : List Str) (scope : Scope) : List (Str × Nat) := scope.names.filterMap fun p => match p.2 with
  | .local => (ixOf p.1 N).map fun i => (p.1, i)
  | .cell => (ixOf p.1 N).map fun i => (p.1, i)
  | _ => none
def Ge.blk (Γ : Ge) (scope : Scope) : Ge := ⟨Γ.N, relS scope Γ.sc, fun x => scope.names.lookup x == some .cell, Γ.st⟩
mutual
def Tg.slots : Tg → List Nat
  | .slot i => [i]
  | .tup ts => Tg.slotss ts
  | .sub _ _ => []
def Tg.slotss : List Tg → List Nat
  | [] => []
  | t :: ts => t.slots ++ Tg.slotss ts
end
def boolX (op : PySem.BoolOp) (x y : Ex) : Ex := match op with
  | .And => .and x y
  | .Or => .or x y
def boolC (f : Expr → Option Ex) (op : PySem.BoolOp) : List Expr → Option Ex
  | [] => none
  | [a] => f a
  | a :: r => match f a, boolC f op r with
    | some x, some y => some (boolX op x y)
    | _, _ => none
def optC (f : Expr → Option Ex) : Option Expr → Option (Option Ex)
  | none => some none
  | some e => (f e).map some
def kwsC (f : Expr → Option Ex) (kws : List Keyword) : Option (List Ex × List Str) := match mapO (fun (k : Keyword) => f k.value) kws, mapO (fun (k : Keyword) => k.arg) kws with
  | some zs, some ks => some (zs, ks)
  | _, _ => none
/-- a dict of the module -/
def kdE (tb : Tb) (Γ : Ge) : Expr → Option (List (Str × Dat))
  | .Name x _ => if nmOk x && Γ.glob x then tb.kd x else none
  | _ => none
def clsOf : Ex → Option Nat
  | .con (.cls c) => some c
  | _ => none
def ifsC (f : Expr → Option Ex) : List Expr → Option (Option Ex)
  | [] => some none
  | [c] => (f c).map some
  | _ => none
/-- where == asks the class -/
def Ge.own (Γ : Ge) (p : Pos) : Bool := Γ.st.contains (p.line, p.col + 100000)
def subX (k : Option (List (Str × Dat))) (x : Option Ex) (y : Option Ex) : Option Ex := match k, y with
  | some kvs, some y => some (.kget kvs y)
  | none, some y => x.map fun x => .sub x y
  | _, none => none
def cmpX (own : Bool) (op : CmpOp) (k : Option (List (Str × Dat))) (x y : Option Ex) : Option Ex := match op, k with
  | .In, some kvs => x.map (.kin false kvs)
  | .NotIn, some kvs => x.map (.kin true kvs)
  | op, _ => match cmpOf op, x, y with
    | some .eq, some x, some y => if own then some (.oeq false x y) else some (.cmp .eq x y)
    | some .ne, some x, some y => if own then some (.oeq true x y) else some (.cmp .ne x y)
    | some o, some x, some y => some (.cmp o x y)
    | _, _, _ => none
/-- a call through a class -/
def clsX (tb : Tb) (c : Nat) (m : Str) (n : Nat) (xs zs : List Ex) (ks : List Str) : Option Ex := match tb.cmet c m with
  | some f => (match xs, ks, tb.bnd f (n + 1) ks with
    | a :: r, [], some sl => some (.cmt c f a r sl)
    | _, _, _ => none)
  | none => match tb.smet c m with
    | some f => (tb.bnd f n ks).map fun sl => .call f xs zs sl
    | none => none
def dicC (f : Expr → Option Ex) : List (Option Expr) → List Expr → Option (List (Ex × Ex))
  | [], [] => some []
  | some k :: ks, v :: vs => match f k, f v, dicC f ks vs with
    | some a, some b, some r => some ((a, b) :: r)
    | _, _, _ => none
  | _, _ => none
/-- sorted(set(a)) -/
def ssOf : Expr → List Expr → List Keyword → Option (Str × Str × Expr)
  | .Name x _, [.Call (.Name y _) [a] [] _], [] => some (x, y, a)
  | _, _, _ => none
def ssIs (tb : Tb) (Γ : Ge) (p : Str × Str × Expr) : Bool := decide (p.1 = "sorted") && (decide (p.2.1 = "set") && (Γ.glob p.1 && (Γ.glob p.2.1 && (tb.bl p.1 && (tb.bl p.2.1 && plainE p.2.2)))))
/-- int(a), dict(a) -/
def tyX (x : Str) : List Ex → Option Ex
  | [a] => if x = "int" then some (.intt a) else if x = "dict" then some (.dctp a) else none
  | _ => none
def biX (x : Str) (xs : List Ex) : Option Ex := match tyX x xs with
  | some e => some e
  | none => (match biOf x, xs with
    | some b, a :: r => some (.bi b a r)
    | _, _ => none)
mutual
def compE (tb : Tb) : Nat → Ge → Expr → Option Ex
  | 0, _, _ => none
  | n + 1, Γ, e => match e with
    | .Constant .none _ _ => some (.con .non)
    | .Constant (.bool b) _ _ => some (.con (.bl b))
    | .Constant (.int i) _ _ => some (.con (.int i))
    | .Constant (.str x) _ _ => some (.con (.str x))
    | .Name x _ => if nmOk x then (if Γ.glob x then (match tb.gl x with
        | some (.dat d) => some (.con d)
        | some (.cls c) => some (.con (.cls c))
        | some (.fn _) => none
        | none => if tb.bl x then (tyOf x).map fun n => .con (.ty n) else none)
      else if Γ.vis x then (ixOf x Γ.N).map .slot else none) else none
    | .Tuple es _ _ => if es.all plainE then (mapO (compE tb n Γ) es).map .tup else none
    | .List es pos => if es.all plainE then (mapO (compE tb n Γ) es).map fun xs => Γ.wrap pos (.lst xs) else none
    | .JoinedStr [.FormattedValue e c none _] _ => if c = -1 then (compE tb n Γ e).map .fmt else none
    | .JoinedStr (v1 :: v2 :: rest) _ => (mapO (compE tb n Γ) (v1 :: v2 :: rest)).map .jn
    | .FormattedValue e c none _ => if c = -1 then (compE tb n Γ e).map .fmt else none
    | .Dict [none, some k] [d, v] _ => match compE tb n Γ d, compE tb n Γ k, compE tb n Γ v with
      | some x, some y, some z => some (.dup x y z)
      | _, _, _ => none
    | .Dict ks vs pos => if ks.length ≤ 15 then (dicC (compE tb n Γ) ks vs).map fun xs => Γ.wrap pos (.dic xs) else none
    | .BinOp a op b _ => match binOf op, compE tb n Γ a, compE tb n Γ b with
      | some o, some x, some y => some (.bin o x y)
      | _, _, _ => none
    | .UnaryOp .Not a _ => (compE tb n Γ a).map .nt
    | .UnaryOp .USub a _ => (compE tb n Γ a).map .neg
    | .BoolOp op es _ => boolC (compE tb n Γ) op es
    | .IfExp c a b _ => match compE tb n Γ c, compE tb n Γ a, compE tb n Γ b with
      | some z, some x, some y => some (.ite z x y)
      | _, _, _ => none
    | .Compare a [op] [b] p => if isSet b then none else cmpX (Γ.own p) op (kdE tb Γ b) (compE tb n Γ a) (compE tb n Γ b)
    | .Compare a [op, op'] [b, c] _ => if isSet c then none else match cmpOf op, cmpOf op', compE tb n Γ a, compE tb n Γ b, compE tb n Γ c with
      | some o, some o', some x, some y, some z => some (.chn o o' x y z)
      | _, _, _, _, _ => none
    | .Attribute o f _ => if attOk o then (if tb.isf f then (compE tb n Γ o).map fun x => .att x f else if tb.isp f then (compE tb n Γ o).map fun x => .prp x f else if tb.isx f then (compE tb n Γ o).map fun x => .xat x f else none) else none
    | .Subscript o (.Slice none none (some (.UnaryOp .USub (.Constant (.int 1) _ _) _)) _) _ => (compE tb n Γ o).map .rev
    | .Subscript o (.Slice lo hi none _) _ => match compE tb n Γ o, optC (compE tb n Γ) lo, optC (compE tb n Γ) hi with
      | some x, some l, some h => some (.slc x l h)
      | _, _, _ => none
    | .Subscript o i _ => if plainE i then subX (kdE tb Γ o) (compE tb n Γ o) (compE tb n Γ i) else none
    | .ListComp elt [⟨tg, iter, ifs, 0⟩, ⟨tg1, iter1, ifs1, 0⟩] scope _ => if blkC Γ.N Γ.sc scope (ownOf Γ.N scope) && !isSet iter && !isSet iter1 then (match compSrc tb n Γ tg iter, compTg tb n (Γ.blk scope) tg, ifsC (compE tb n (Γ.blk scope)) ifs, compSrc tb n (Γ.blk scope) tg1 iter1, compTg tb n (Γ.blk scope) tg1, ifsC (compE tb n (Γ.blk scope)) ifs1, compE tb n (Γ.blk scope) elt with
      | some src, some t, some z, some src1, some t1, some z1, some x => if t.slots.all (fun i => ((ownOf Γ.N scope).map (·.2)).contains i) && t1.slots.all (fun i => ((ownOf Γ.N scope).map (·.2)).contains i) then some (.lc2 x t src z t1 src1 z1 ((ownOf Γ.N scope).map (·.2)) t1.slots) else none
      | _, _, _, _, _, _, _ => none) else none
    | .ListComp elt [⟨tg, iter, ifs, 0⟩] scope _ => if blkC Γ.N Γ.sc scope (ownOf Γ.N scope) && !isSet iter then (match compSrc tb n Γ tg iter, compTg tb n (Γ.blk scope) tg, compE tb n (Γ.blk scope) elt with
      | some src, some t, some x => if t.slots.all (fun i => ((ownOf Γ.N scope).map (·.2)).contains i) then (match ifs with
        | [] => some (.lc x t src none ((ownOf Γ.N scope).map (·.2)))
        | [c] => (compE tb n (Γ.blk scope) c).map fun z => .lc x t src (some z) ((ownOf Γ.N scope).map (·.2))
        | _ => none) else none
      | _, _, _ => none) else none
    | .Call f es kws pos => if es.all plainE then (match (ssOf f es kws).filter (ssIs tb Γ) with
      | some p => (compE tb n Γ p.2.2).map .ss
      | none => match mapO (compE tb n Γ) es, kwsC (compE tb n Γ) kws with
      | some xs, some (zs, ks) => (match f with
        | .Name x _ => if nmOk x && Γ.glob x then (match tb.gl x with
          | some (.fn i) => (tb.bnd i es.length ks).map fun sl => .call i xs zs sl
          | some (.cls c) => (match tb.exc c, tb.ctor c with
            | some _, _ => if kws.isEmpty && !xs.isEmpty then some (.xmk c xs) else if es.isEmpty then (tb.xkw c ks).map fun js => .xmq c zs js else none
            | none, some f => (tb.bnd f (es.length + 1) ks).map fun sl => .mk c f xs zs sl
            | none, none => none)
          | some (.dat _) => none
          | none => if tb.bl x && kws.isEmpty then biX x xs else none)
          else if nmOk x && Γ.vis x && kws.isEmpty && !xs.isEmpty then (ixOf x Γ.N).map fun i => .cao (.slot i) xs else none
        | .Attribute o m apos => (match compE tb n Γ o with
          | some y => if attOk o && (apos.endLine == pos.line) && decide (es.length + kws.length < 28) then (match clsOf y with
            | some c => clsX tb c m es.length xs zs ks
            | none => if tb.ism m then some (.mtd y m xs zs ks) else if kws.isEmpty then (mtOf m).map fun t => .mth y t xs else none) else none
          | none => none)
        | _ => none)
      | _, _ => none) else none
    | _ => none
def compSrc (tb : Tb) : Nat → Ge → Expr → Expr → Option Src
  | 0, _, _, _ => none
  | n + 1, Γ, tg, e => match e, tg with
    | .Call (.Name x _) [a] [] _, tg => if x = "range" then (if Γ.glob x && tb.bl x && plainE a then (compE tb n Γ a).map .rng1 else none)
      else if x = "enumerate" then (match tg with
        | .Tuple .. => if Γ.glob x && tb.bl x && plainE a then (compE tb n Γ a).map .enm else none
        | _ => none)
      else (compE tb n Γ e).map .ex
    | .Call (.Name x _) [a, b] [] _, tg => if x = "range" then (if Γ.glob x && tb.bl x && plainE a && plainE b then (match compE tb n Γ a, compE tb n Γ b with
        | some y, some z => some (.rng2 y z)
        | _, _ => none) else none)
      else if x = "zip" then (match tg with
        | .Tuple .. => if Γ.glob x && tb.bl x && plainE a && plainE b then (match compE tb n Γ a, compE tb n Γ b with
          | some y, some z => some (.zip y z)
          | _, _ => none) else none
        | _ => none)
      else (compE tb n Γ e).map .ex
    | e, _ => (compE tb n Γ e).map .ex
def compTg (tb : Tb) : Nat → Ge → Expr → Option Tg
  | 0, _, _ => none
  | n + 1, Γ, e => match e with
    | .Name x _ => if Γ.loc x then (ixOf x Γ.N).map .slot else none
    | .Tuple es _ _ => if es.all plainE then (mapO (compTg tb n Γ) es).map .tup else none
    | .Subscript o i _ => if plainE i then (match compE tb n Γ o, compE tb n Γ i with
      | some x, some y => some (.sub x y)
      | _, _ => none) else none
    | _ => none
end
end En
set_option maxHeartbeats 4000000
/-! En18: the compiler is right: helpers. -/
namespace En
open PySem PySem.Spec PyProof.Rows L2
section
variable {W : Wd} {wx : WX} {X : Cx}
theorem tX_stk {β γ : Type} {B : RR W β γ} {σ : L2.St} {H : Hp} {Q : γ → Hp → Prop} : ¬ tX W wx B Ac.stk σ H Q := fun ⟨g, P, s, r, q⟩ => q
theorem se_stk {e : Expr} : SE W wx X Ac.stk e := ⟨fun pins s σ H Q I h => absurd h tX_stk⟩
theorem st_stk {e : Expr} : ST W wx X Ac.stk e := ⟨fun pins s σ H Q I h => absurd h tX_stk⟩
theorem si_stk {tg e : Expr} : SI W wx X tg Ac.stk e := ⟨fun pins s σ H R I ⟨g, P, st, r, q⟩ => q.elim⟩
theorem sg_stk {e : Expr} {vs : List Nat} : SG W wx X (fun _ => Ac.stk) vs e := ⟨fun pins s σ H v u Q I rv ⟨g, P, st, x, r, q, p⟩ => p.elim⟩
theorem ss_stk {st : Stmt} : SS W wx X Ac.stk st := ⟨fun pins s σ H D I ⟨g, P, s, r, q⟩ => q.elim⟩
end
def iopO (b : Bool) : Operator := if b then .Add else .Sub
/-- the world of a body at depth k + 1 -/
structure Wo (P : Program) (w : World) (W : Wd) (C : Ec) (k : Nat) (mg : Str → Option Value) (base : Heap) : Prop where
  fns : ∀ f n ks sl, C.t.bnd f n ks = some sl → ∃ fd ps, FnG P w W.K mg base (k + 1) (W.fa f) fd ps (spF W ps.length (C.call f)) ∧ CB W.K fd ps n ks sl ∧ PySem.W.keepIn W.K (.ref (W.fa f)) = true
  meth : ∀ c m f, C.t.meth c m = some f → Cls W.K (W.ca c) ∧ Meth W.K (W.ca c) m (W.fa f)
  prop : ∀ c m f, C.t.prop c m = some f → Cls W.K (W.ca c) ∧ (∃ p, PropOf W.K (W.ca c) m p (W.fa f)) ∧ ∃ fd ps, FnG P w W.K mg base k (W.fa f) fd ps (spF W 1 (C.low f)) ∧ ps.length = 1 ∧ ∀ (s : Shared) (u : Value), W.K.In s.heap → BindsTo s fd ⟨[u], []⟩ (ps.zip [u])
  gl : ∀ x d, C.t.gl x = some (.dat d) → ∃ u v, mg x = some u ∧ L2.RelV v u ∧ ∀ g, R W g d v
  glc : ∀ x c, C.t.gl x = some (.cls c) → mg x = some (.ref (W.ca c))
  glf : ∀ x f, C.t.gl x = some (.fn f) → mg x = some (.ref (W.fa f))
  bl : ∀ x, C.t.bl x = true → mg x = none
  flds : FldOk W C.t.flds
  wk : Wk W C.t.T
  lows : ∀ f n ks sl, C.t.bnd f n ks = some sl → ∃ fd ps, FnG P w W.K mg base k (W.fa f) fd ps (spF W ps.length (C.low f)) ∧ CB W.K fd ps n ks sl
  ctor : ∀ c f, C.t.ctor c = some f → Mk W.K (W.ca c) (W.fa f)
  cmet : ∀ c m f, C.t.cmet c m = some f → ∃ mc pa, ClX.CRead W.K (W.ca c) mc ∧ ClX.CMet W.K (W.ca c) mc m pa (W.fa f)
  smet : ∀ c m f, C.t.smet c m = some f → ∃ mc, ClX.CRead W.K (W.ca c) mc ∧ SMet W.K (W.ca c) mc m (W.fa f)
  eqm : ∀ c f, C.t.eqm c = some f → OEqC W.K (W.ca c) (W.fa f) ∧ ∃ fd ps, FnG P w W.K mg base k (W.fa f) fd ps (spF W 2 (C.low f)) ∧ ps.length = 2 ∧ ∀ (s : Shared) (u v : Value), W.K.In s.heap → BindsTo s fd ⟨[u, v], []⟩ (ps.zip [u, v])
  kd : ∀ x kvs, C.t.kd x = some kvs → ∃ d, mg x = some (.ref d) ∧ KdOk W w d kvs
  exc : ∀ c q, C.t.exc c = some q → ErrC P w W.K mg base k (W.ca c) q.1 q.2
  xkw : ∀ c ks js q, C.t.xkw c ks = some js → C.t.exc c = some q → ErrK P w W.K mg base k (W.ca c) q.1 q.2 ks js
  xf : XfOk W C.t.xf
  xm : XmOk W C.t.xm
  cco : ∀ c f, C.t.cco c = some f → StX.CallO W.K (W.ca c) (W.fa f)
  iop : ∀ c b f, C.t.iop c b = some f → IopC W.K (W.ca c) (iopO b) (W.fa f) ∧ ∃ fd ps, FnG P w W.K mg base (k + 1) (W.fa f) fd ps (spF W 2 (C.call f)) ∧ ps.length = 2 ∧ ∀ (s : Shared) (u v : Value), W.K.In s.heap → BindsTo s fd ⟨[u, v], []⟩ (ps.zip [u, v])
structure Ctx (W : Wd) (C : Ec) (k : Nat) (Γ : Ge) (X : Cx) (wx : WX) : Prop where
  wo : Wo X.prog X.w W C k X.mg X.base
  hK : X.K = W.K
  hN : X.N = Γ.N
  nd : X.N.Nodup
  sc : X.env.scope = Γ.sc
  fnl : ∀ x, Γ.fnl x = true → X.fn x = true
  calm : X.calm = true
  room : RoomG (k + 1) X.A
  tk : Takes X wx
theorem Ctx.un {W : Wd} {C : Ec} {k : Nat} {Γ : Ge} {X : Cx} {wx : WX} (c : Ctx W C k Γ X wx) : X.A.units + 70 < cLine := by have := c.room.room.un; omega
theorem Ctx.blk {W : Wd} {C : Ec} {k : Nat} {Γ : Ge} {X : Cx} {wx : WX} (c : Ctx W C k Γ X wx) (scope : Scope) (s : Shared) (H : Hp) (Ca : Addr) (cl : List (Str × Addr)) (fp : List Addr) :
    Ctx W C k (Γ.blk scope) (X.blk s H scope (compEnvC scope cl Ca X.env) fp) wx0 :=
  ⟨c.wo, c.hK, c.hN, c.nd, by
    show relabel scope X.env = relS scope Γ.sc
    rw [← c.sc]
    rfl, fun x h => h, c.calm, c.room, fun _ _ ⟨_, _, _, _, _, _, _, _, _, _, _, _, _, _, _, _, w⟩ => w.elim⟩
/-! pure facts -/
theorem ixOf_ok {x : Str} : ∀ {N : List Str} {i : Nat}, ixOf x N = some i → N[i]? = some x
  | [], _, h => by cases h
  | y :: r, i, h => by
    unfold ixOf at h
    split at h
    · rename_i e
      cases h
      rw [e]
      rfl
    · obtain ⟨j, h1, rfl⟩ := Option.map_eq_some_iff.mp h
      show r[j]? = some x
      exact ixOf_ok h1
theorem nmOk_ok {x : Str} (h : nmOk x = true) : (x == ("__debug__" : Str)) = false ∧ (x == ("__classdict__" : Str)) = false := by
  unfold nmOk at h
  simp only [Bool.and_eq_true, Bool.not_eq_true'] at h
  exact h
theorem Ctx.gl1 {W : Wd} {C : Ec} {k : Nat} {Γ : Ge} {X : Cx} {wx : WX} (c : Ctx W C k Γ X wx) {x : Str} (h : Γ.glob x = true) : Gl X x := by
  unfold Ge.glob at h
  show X.env.scope.names.lookup x = _
  rw [c.sc]
  simpa using h
theorem Ctx.vis1 {W : Wd} {C : Ec} {k : Nat} {Γ : Ge} {X : Cx} {wx : WX} (c : Ctx W C k Γ X wx) {x : Str} (h : Γ.vis x = true) : Vis X.env.scope x := by
  unfold Ge.vis at h
  unfold Vis
  rw [c.sc]
  split at h
  · rename_i e
    exact .inl e
  · rename_i e
    exact .inr (.inl e)
  · rename_i e
    exact .inr (.inr e)
  · cases h
theorem Ctx.loc1 {W : Wd} {C : Ec} {k : Nat} {Γ : Ge} {X : Cx} {wx : WX} (c : Ctx W C k Γ X wx) {x : Str} (h : Γ.loc x = true) : L2.Loc X.env.scope x ∧ (X.fn x = true ∨ X.env.scope.names.lookup x = some .local) := by
  unfold Ge.loc at h
  unfold L2.Loc
  rw [c.sc]
  split at h
  · rename_i e
    exact ⟨.inl e, .inr e⟩
  · rename_i e
    exact ⟨.inr e, .inl (c.fnl x h)⟩
  · cases h
theorem mapO_nil {α β : Type} {f : α → Option β} {bs : List β} (h : mapO f [] = some bs) : bs = [] := (Option.some.inj h).symm
theorem mapO_cons {α β : Type} {f : α → Option β} {a : α} {r : List α} {bs : List β} (h : mapO f (a :: r) = some bs) : ∃ b bs', f a = some b ∧ mapO f r = some bs' ∧ bs = b :: bs' := by
  unfold mapO at h
  split at h
  · rename_i b bs' h1 h2
    cases h
    exact ⟨b, bs', h1, h2, rfl⟩
  · cases h
theorem mapO_len {α β : Type} {f : α → Option β} : ∀ {l : List α} {bs : List β}, mapO f l = some bs → bs.length = l.length
  | [], bs, h => by rw [mapO_nil h]; rfl
  | a :: r, bs, h => by
    obtain ⟨b, bs', h1, h2, rfl⟩ := mapO_cons h
    rw [List.length_cons, List.length_cons, mapO_len h2]
theorem star_cons {e : Expr} {es : List Expr} {env : Env} (h : plainE e = true) : starEach (e :: es) env = (false, eval e env) :: starEach es env := by
  cases e <;> first | rfl | cases h
theorem star_false : ∀ {es : List Expr} {env : Env} {pos : Pos}, es.all plainE = true → (backTo pos (starEach es env)).any (·.1) = false
  | [], _, _, _ => rfl
  | e :: es, env, pos, h => by
    simp only [List.all_cons, Bool.and_eq_true] at h
    rw [star_cons h.1]
    show (false || (backTo pos (starEach es env)).any (·.1)) = false
    rw [star_false h.2]
    rfl
theorem attB_ok {o : Expr} {f : Str} {env : Env} (h : attOk o = true) : attributeBase o f env (eval o env) = eval o env := by
  unfold attributeBase
  split
  · rename_i id p pos
    have h' : (id == ("super" : Str)) = false := by simpa [attOk] using h
    have h2 : (id != ("super" : Str)) = true := by simp [bne, h']
    simp only [h2, Bool.true_or, if_true]
  · rfl
theorem foldS_ok {e : Expr} {env : Env} (h : isSet e = false) : ∀ x, foldedSetIterable e env x = pure x := by
  intro x
  cases e <;> first | rfl | cases h
theorem marks_ok {op : CmpOp} {e : Expr} (h : isSet e = false) : behindInMarks op e = false := by
  cases e <;> first | rfl | cases h
theorem plainIx_ok {e : Expr} (h : plainE e = true) : PlainIx e := by
  intro o i
  cases e <;> first | rfl | cases h
theorem kws_all {kws : List Keyword} {ks : List Str} {env : Env} {pos : Pos} (h : mapO (fun (k : Keyword) => k.arg) kws = some ks) : (backToKw pos (keywordEach kws env)).all (·.1.isSome) = true ∧ (backToKw pos (keywordEach kws env)).filterMap (·.1) = ks ∧ (backToKw pos (keywordEach kws env)).any (·.1.isNone) = false := by
  induction kws generalizing ks with
  | nil =>
    rw [mapO_nil h]
    exact ⟨rfl, rfl, rfl⟩
  | cons k r ih =>
    obtain ⟨b, bs', h1, h2, rfl⟩ := mapO_cons h
    obtain ⟨e1, e2, e3⟩ := ih h2
    obtain ⟨nm, v, p⟩ := k
    have h1' : nm = some b := h1
    subst h1'
    refine ⟨?_, ?_, ?_⟩
    · show (true && (backToKw pos (keywordEach r env)).all (·.1.isSome)) = true
      rw [e1]
      rfl
    · show b :: (backToKw pos (keywordEach r env)).filterMap (·.1) = _
      rw [e2]
    · show (false || (backToKw pos (keywordEach r env)).any (·.1.isNone)) = false
      rw [e3]
      rfl
theorem bi_boot {x : Str} {b : Bi} (h : biOf x = some b) : bootBuiltins x = some b.py ∧ x ≠ "__name__" := by
  unfold biOf at h
  repeat' (split at h)
  all_goals first | (cases h; rename_i e; subst e; exact ⟨by decide +kernel, by decide +kernel⟩) | cases h
theorem ty_boot {x : Str} {n : String} (h : tyOf x = some n) : bootBuiltins x = some (.type n) ∧ x ≠ "__name__" := by
  unfold tyOf at h
  repeat' (split at h)
  all_goals first | (cases h; rename_i e; subst e; exact ⟨by decide +kernel, by decide +kernel⟩) | cases h
theorem py_bin {o : Operator} {b : BOp} (h : binOf o = some b) : b.py = o := by
  cases o <;> first | (cases h; rfl) | cases h
theorem py_cmp {o : CmpOp} {b : COp} (h : cmpOf o = some b) : b.py = o := by
  cases o <;> (cases h; rfl)
end En
set_option maxHeartbeats 4000000
/-! En19: the compiler is right: expressions. -/
namespace En
open PySem PySem.Spec PyProof.Rows L2
section
variable {W : Wd} {C : Ec} {k : Nat}
def EOk (W : Wd) (C : Ec) (k n : Nat) : Prop := ∀ Γ X wx e ir, Ctx W C k Γ X wx → compE C.t n Γ e = some ir → ∀ m, SE W wx X (ev C m ir) e ∧ ST W wx X (evT C m ir) e
def SrcOk (W : Wd) (C : Ec) (k n : Nat) : Prop := ∀ Γ X wx tg e ir, Ctx W C k Γ X wx → isSet e = false → compSrc C.t n Γ tg e = some ir → ∀ m, SI W wx X tg (srcA C m ir) e
def TgOk (W : Wd) (C : Ec) (k n : Nat) : Prop := ∀ Γ X wx e t vs, Ctx W C k Γ X wx → compTg C.t n Γ e = some t → (∀ i ∈ t.slots, i ∈ vs) → ∀ m, SG W wx X (tgA C m t) vs e
variable {Γ : Ge} {X : Cx} {wx : WX}
/-- by a plain truth of the value -/
theorem both_def {e : Expr} {ir : Ex} (hK : X.K = W.K) (h : ∀ m, SE W wx X (ev C m ir) e) (he : ∀ whole, isTrue e X.env whole = (do let v ← whole; standAt e.pos; holding [v] (truthy v))) (ht : ∀ m, evT C (m + 1) ir = (ev C m ir).bind truA) : ∀ m, SE W wx X (ev C m ir) e ∧ ST W wx X (evT C m ir) e := fun m => by
  refine ⟨h m, ?_⟩
  cases m with
  | zero => exact st_stk
  | succ m =>
    rw [ht]
    exact st_truth hK (h m) he
theorem lift0 {e : Expr} {ir : Ex} (h : ∀ m, SE W wx X (ev C (m + 1) ir) e) : ∀ m, SE W wx X (ev C m ir) e := fun m => by
  cases m with
  | zero => exact se_stk
  | succ m => exact h m
theorem liftT {e : Expr} {ir : Ex} (h : ∀ m, ST W wx X (evT C (m + 1) ir) e) : ∀ m, ST W wx X (evT C m ir) e := fun m => by
  cases m with
  | zero => exact st_stk
  | succ m => exact h m
theorem wrapE {e : Expr} {ir : Ex} {p : Pos} (h : ∀ m, SE W wx X (ev C m ir) e) : ∀ m, SE W wx X (ev C m (Γ.wrap p ir)) e := by
  unfold Ge.wrap
  split
  · exact lift0 fun m => se_sto (h m)
  · exact h
theorem wrapT {ir : Ex} {p : Pos} (h : ∀ m, evT C (m + 1) ir = (ev C m ir).bind truA) : ∀ m, evT C (m + 1) (Γ.wrap p ir) = (ev C m (Γ.wrap p ir)).bind truA := by
  unfold Ge.wrap
  split
  · exact fun m => rfl
  · exact h
theorem sa_list {n : Nat} (ih : EOk W C k n) (c : Ctx W C k Γ X wx) : ∀ {es : List Expr} {irs : List Ex}, es.all plainE = true → mapO (compE C.t n Γ) es = some irs → ∀ m, SA W wx X (seqA (fun e => (ev C m e).bind toVal) irs) es
  | [], irs, _, h, m => by
    rw [mapO_nil h]
    exact sa_nil
  | e :: es, irs, hp, h, m => by
    obtain ⟨b, bs, h1, h2, rfl⟩ := mapO_cons h
    simp only [List.all_cons, Bool.and_eq_true] at hp
    exact sa_cons (sd_of (ih Γ X wx e b c h1 m).1) (sa_list ih c hp.2 h2 m) (star_cons hp.1)
theorem sk_list {n : Nat} (ih : EOk W C k n) (c : Ctx W C k Γ X wx) : ∀ {kws : List Keyword} {irs : List Ex}, mapO (fun (q : Keyword) => compE C.t n Γ q.value) kws = some irs → ∀ m, SK W wx X (seqA (fun e => (ev C m e).bind toVal) irs) kws
  | [], irs, h, m => by
    rw [mapO_nil h]
    exact sk_nil
  | ⟨nm, e, p⟩ :: es, irs, h, m => by
    obtain ⟨b, bs, h1, h2, rfl⟩ := mapO_cons h
    exact sk_cons (sd_of (ih Γ X wx e b c h1 m).1) (sk_list ih c h2 m)
theorem kwsC_ok {f : Expr → Option Ex} {kws : List Keyword} {zs : List Ex} {ks : List Str} (h : kwsC f kws = some (zs, ks)) : mapO (fun (q : Keyword) => f q.value) kws = some zs ∧ mapO (fun (q : Keyword) => q.arg) kws = some ks := by
  unfold kwsC at h
  split at h
  · rename_i h1 h2
    cases h
    exact ⟨h1, h2⟩
  · cases h
theorem pps_list {n : Nat} (ih : EOk W C k n) (c : Ctx W C k Γ X wx) {pos : Pos} : ∀ {ks : List (Option Expr)} {vs : List Expr} {kvs : List (Ex × Ex)}, dicC (compE C.t n Γ) ks vs = some kvs → ∀ m, PPs X pos ks vs (trsP W wx (kvs.map fun p => ((ev C m p.1).bind toVal, (ev C m p.2).bind toVal))) ∧ ks.all (·.isSome) = true ∧ ks.length = vs.length ∧ kvs.length = ks.length
  | [], [], kvs, h, m => by
    cases h
    exact ⟨pps_nil, rfl, rfl, rfl⟩
  | [], _ :: _, kvs, h, m => by cases h
  | none :: _, _, kvs, h, m => by
    unfold dicC at h
    cases h
  | some _ :: _, [], kvs, h, m => by cases h
  | some a :: ks, v :: vs, kvs, h, m => by
    unfold dicC at h
    split at h
    · rename_i x y r h1 h2 h3
      cases h
      obtain ⟨k1, k2, k3, k4⟩ := pps_list ih c (pos := pos) h3 m
      refine ⟨pps_cons (sd_of (ih Γ X wx a x c h1 m).1) (sd_of (ih Γ X wx v y c h2 m).1) k1, ?_, ?_, ?_⟩
      · show (true && ks.all (·.isSome)) = true
        rw [k2]
        rfl
      · rw [List.length_cons, List.length_cons, k3]
      · rw [List.length_cons, List.length_cons, k4]
    · cases h
theorem bool_list {n : Nat} (ih : EOk W C k n) (c : Ctx W C k Γ X wx) {op : PySem.BoolOp} {pos : Pos} : ∀ {es : List Expr} {ir : Ex}, boolC (compE C.t n Γ) op es = some ir → ∀ m, SE W wx X (ev C m ir) (.BoolOp op es pos) ∧ SW W wx X (evT C m ir) (.BoolOp op es pos)
  | [], ir, h, m => by cases h
  | [a], ir, h, m => by
    have h1 : compE C.t n Γ a = some ir := h
    obtain ⟨p1, p2⟩ := ih Γ X wx a ir c h1 m
    refine ⟨pe_one p1, ?_⟩
    cases op with
    | And => exact sw_and1 p2
    | Or => exact sw_or1 p2
  | a :: b :: r, ir, h, m => by
    have h' : (match compE C.t n Γ a, boolC (compE C.t n Γ) op (b :: r) with
      | some x, some y => some (boolX op x y)
      | _, _ => none) = some ir := h
    split at h'
    · rename_i x y h1 h2
      cases m with
      | zero =>
        cases h'
        exact ⟨se_stk, ⟨fun whole pins s σ H Q I h => absurd h tX_stk⟩⟩
      | succ m =>
        obtain ⟨p1, p2⟩ := ih Γ X wx a x c h1 m
        obtain ⟨q1, q2⟩ := bool_list ih c (pos := pos) h2 m
        cases op with
        | And =>
          cases h'
          exact ⟨se_and c.hK p1 q1, sw_and p2 q2⟩
        | Or =>
          cases h'
          exact ⟨se_or c.hK p1 q1, sw_or p2 q2⟩
    · cases h'
theorem so_opt {n : Nat} (ih : EOk W C k n) (c : Ctx W C k Γ X wx) {o : Option Expr} {ir : Option Ex} (h : optC (compE C.t n Γ) o = some ir) (m : Nat) : SO W wx X (optA (fun e => (ev C m e).bind intA) ir) o := by
  cases o with
  | none =>
    cases h
    exact so_none
  | some e =>
    obtain ⟨x, h1, rfl⟩ := Option.map_eq_some_iff.mp h
    exact so_some (ih Γ X wx e x c h1 m).1
/-- the parts of a formatted text -/
theorem pj_list {n : Nat} (ih : EOk W C k n) (c : Ctx W C k Γ X wx) : ∀ {es : List Expr} {irs : List Ex}, mapO (compE C.t n Γ) es = some irs → ∀ m, PJ X es (irs.map fun e => tX W wx rvK (ev C m e))
  | [], irs, h, m => by
    rw [mapO_nil h]
    exact .nil
  | e :: es, irs, h, m => by
    obtain ⟨b, bs, h1, h2, rfl⟩ := mapO_cons h
    exact .cons (ih Γ X wx e b c h1 m).1 (pj_list ih c h2 m)
/-- a method call on one line -/
theorem mcall_eq {o : Expr} {name : Str} {es : List Expr} {kws : List Keyword} {apos pos : Pos} {env : Env} {ks : List Str} (ha : attOk o = true) (hl : (apos.endLine == pos.line) = true) (hn : es.length + kws.length < 28) (hp : es.all plainE = true) (hk : mapO (fun (q : Keyword) => q.arg) kws = some ks) :
    eval (.Call (.Attribute o name apos) es kws pos) env = (do
      let ov ← eval o env
      standAt apos.atName
      let (f, first) ← holding [ov] (getMethod ov name (plainOf o env))
      callWith pos f first (backTo pos (starEach es env)) (backToKw pos (keywordEach kws env))) := by
  have hf : methodCallForm (es.length + kws.length) (backTo pos (starEach es env)) (backToKw pos (keywordEach kws env)) = true := by
    unfold methodCallForm
    have h1 : (backTo pos (starEach es env)).all (!·.1) = true := by
      rw [List.all_eq_true]
      intro x hx
      have := star_false (env := env) (pos := pos) hp
      rw [List.any_eq_false] at this
      simpa using this x hx
    rw [h1, (kws_all hk).1]
    simp only [Bool.and_self, Bool.true_and, decide_eq_true_eq]
    split <;> omega
  rw [arm_eval_Call, attB_ok ha]
  simp only [mcall_line hf hl]
theorem mt_ok {X : Cx} {W : Wd} {wx : WX} (hK : X.K = W.K) (hu : X.A.units + 64 < cLine) {name : Str} {t : Mt} (h : mtOf name = some t) : ∃ id, PlainAttrs (mtTy t) ∧ Slot (mtTy t) name id ∧ typeOf (.builtin id) = pure (.type "method_descriptor") ∧ MtR X id (rMth W wx t) := by
  unfold mtOf at h
  repeat' (split at h)
  all_goals (first | (cases h; rename_i e; subst e) | cases h)
  · exact ⟨_, F.plainAttrs_list, F.slot_list_append, F.type_list_append, mtr_append⟩
  · exact ⟨_, F.plainAttrs_list, F.slot_list_pop, F.type_list_pop, mtr_pop⟩
  · exact ⟨_, F.plainAttrs_list, F.slot_list_extend, F.type_list_extend, mtr_extend⟩
  · exact ⟨_, F.plainAttrs_str, F.slot_str_upper, F.type_str_upper, mtr_upper⟩
  · exact ⟨_, F.plainAttrs_str, F.slot_str_split, F.type_str_split, mtr_split⟩
  · exact ⟨_, F.plainAttrs_str, F.slot_str_join, F.type_str_join, mtr_join hK⟩
  · exact ⟨_, F.plainAttrs_dict, F.slot_dict_get, F.type_dict_get, mtr_get hu⟩
  · exact ⟨_, F.plainAttrs_dict, F.slot_dict_update, F.type_dict_update, mtr_update⟩
theorem own_ok {Γ : Ge} {scope : Scope} {X : Cx} (hN : X.N = Γ.N) (hs : X.env.scope = Γ.sc) (h : blkC Γ.N Γ.sc scope (ownOf Γ.N scope) = true) : BlkOk X.N X.env.scope scope (ownOf Γ.N scope) := by
  rw [hN, hs]
  exact blkOk_by h
theorem call_step {n : Nat} {x : Str} {p pos : Pos} {es : List Expr} {kws : List Keyword} {xs zs : List Ex} {ks : List Str} {i : Nat} {sl : List Sl} (ih : EOk W C k n) (c : Ctx W C k Γ X wx) (hnm : nmOk x = true) (hgl : Γ.glob x = true) (hp : es.all plainE = true)
    (h1 : mapO (compE C.t n Γ) es = some xs) (h2 : mapO (fun (q : Keyword) => compE C.t n Γ q.value) kws = some zs) (h3 : mapO (fun (q : Keyword) => q.arg) kws = some ks) (hg : C.t.gl x = some (.fn i)) (hb : C.t.bnd i es.length ks = some sl) (m : Nat) :
    SE W wx X (ev C (m + 1) (.call i xs zs sl)) (.Call (.Name x p) es kws pos) := by
  obtain ⟨fd, ps, F, cb, hk⟩ := c.wo.fns i _ _ _ hb
  obtain ⟨k1, k2, k3⟩ := kws_all (env := X.env) (pos := pos) h3
  have hz : zs.length = ks.length := (mapO_len h2).trans (mapO_len h3).symm
  have hx : xs.length = es.length := mapO_len h1
  have q := se_call (x := x) (p := p) (pos := pos) (W := W) (wx := wx) (X := X) (k := k + 1) (f := W.fa i) (fd := fd) (ps := ps) (ks := ks) (np := ps.length) (n := es.length) (c := C.call i) (sl := sl) c.hK (by rw [c.hK]; exact F) rfl c.room c.tk (c.gl1 hgl) (c.wo.glf x i hg) (by rw [c.hK]; exact hk) (by rw [c.hK]; exact cb)
    (sa_list ih c hp h1 m) (sk_list ih c h2 m) (nmOk_ok hnm).1 k1 k2 (fun e => by
      subst e
      rw [mapO_nil h1]
      rfl) (fun e es' e' => by
      subst e'
      simp only [List.all_cons, Bool.and_eq_true] at hp
      exact star_cons hp.1) (by rw [star_false hp, k3]; rfl)
  rw [← hx, ← hz] at q
  exact q
theorem mtd_step {n : Nat} {nm : Str} {apos pos : Pos} {o : Expr} {es : List Expr} {kws : List Keyword} {y : Ex} {xs zs : List Ex} {ks : List Str} (ih : EOk W C k n) (c : Ctx W C k Γ X wx) (hp : es.all plainE = true)
    (h0 : compE C.t n Γ o = some y) (h1 : mapO (compE C.t n Γ) es = some xs) (h2 : mapO (fun (q : Keyword) => compE C.t n Γ q.value) kws = some zs) (h3 : mapO (fun (q : Keyword) => q.arg) kws = some ks) (ha : attOk o = true) (hl : (apos.endLine == pos.line) = true) (hn : es.length + kws.length < 28) (m : Nat) :
    SE W wx X (ev C (m + 1) (.mtd y nm xs zs ks)) (.Call (.Attribute o nm apos) es kws pos) := by
  obtain ⟨k1, k2, k3⟩ := kws_all (env := X.env) (pos := pos) h3
  have hx : xs.length = es.length := mapO_len h1
  have ok : DispOk W X (k + 1) es.length ks nm (C.disp nm es.length ks) := by
    intro cc sl call hd
    unfold Ec.disp at hd
    obtain ⟨f, e1, e2⟩ := Option.bind_eq_some_iff.mp hd
    obtain ⟨sl', e3, e4⟩ := Option.map_eq_some_iff.mp e2
    cases e4
    obtain ⟨fd, ps, F, cb, hk⟩ := c.wo.fns f _ _ _ e3
    obtain ⟨m1, m2⟩ := c.wo.meth cc nm f e1
    rw [← c.hK] at m1 m2 F cb
    exact ⟨W.fa f, fd, ps, ps.length, m1, m2, F, rfl, cb⟩
  have q := se_mtd (W := W) (wx := wx) (X := X) (k := k + 1) (n := es.length) (ks := ks) (m := nm) (apos := apos) (pos := pos) (disp := C.disp nm es.length ks) c.hK ok c.room c.tk (ih Γ X wx o y c h0 m).1
    (sa_list ih c hp h1 m) (sk_list ih c h2 m) k1 k2 (fun e => by
      subst e
      rw [mapO_nil h1]
      rfl) (fun e es' e' => by
      subst e'
      simp only [List.all_cons, Bool.and_eq_true] at hp
      exact star_cons hp.1) (by rw [star_false hp, k3]; rfl) (mcall_eq ha hl hn hp h3)
  rw [← hx] at q
  exact q
theorem mth_step {n : Nat} {nm : Str} {apos pos : Pos} {o : Expr} {es : List Expr} {y : Ex} {xs : List Ex} {t : Mt} (ih : EOk W C k n) (c : Ctx W C k Γ X wx) (hp : es.all plainE = true)
    (h0 : compE C.t n Γ o = some y) (h1 : mapO (compE C.t n Γ) es = some xs) (ha : attOk o = true) (hl : (apos.endLine == pos.line) = true) (hn : es.length < 28) (ht : mtOf nm = some t) (m : Nat) :
    SE W wx X (ev C (m + 1) (.mth y t xs)) (.Call (.Attribute o nm apos) es [] pos) := by
  obtain ⟨id, t1, t2, t3, t4⟩ := mt_ok (X := X) (W := W) (wx := wx) c.hK c.room.room.units ht
  cases es with
  | nil =>
    have hx := mapO_nil h1
    subst hx
    exact se_mth0 c.hK t1 t2 t3 t4 (ih Γ X wx o y c h0 m).1 (attB_ok ha) hl
  | cons e es =>
    have hp' := hp
    simp only [List.all_cons, Bool.and_eq_true] at hp'
    refine se_mth c.hK t1 t2 t3 t4 (ih Γ X wx o y c h0 m).1 (sa_list ih c hp h1 m) (attB_ok ha) ?_ hl (star_cons hp'.1) (star_false hp'.2)
    have hf : (backTo pos (starEach (e :: es) X.env)).all (fun x => !x.1) = true := by
      rw [List.all_eq_true]
      intro x hx
      have := star_false (env := X.env) (pos := pos) hp
      rw [List.any_eq_false] at this
      simpa using this x hx
    rw [hf]
    simp only [Bool.true_and, Bool.and_eq_true, decide_eq_true_eq]
    refine ⟨rfl, ?_⟩
    have : (e :: es).length < 28 := hn
    simp only [List.length_cons, List.length_nil, List.isEmpty_nil, if_true] at this ⊢
    omega
theorem ssOf_ok {f : Expr} {es : List Expr} {kws : List Keyword} {q : Str × Str × Expr} (h : ssOf f es kws = some q) : ∃ p p2 p3, f = .Name q.1 p ∧ es = [.Call (.Name q.2.1 p2) [q.2.2] [] p3] ∧ kws = [] := by
  unfold ssOf at h
  split at h
  · cases h
    exact ⟨_, _, _, rfl, rfl, rfl⟩
  · cases h
theorem ss_step {n : Nat} {f : Expr} {es : List Expr} {kws : List Keyword} {q : Str × Str × Expr} {y : Ex} {pos : Pos} (ih : EOk W C k n) (c : Ctx W C k Γ X wx) (h : (ssOf f es kws).filter (ssIs C.t Γ) = some q) (hy : compE C.t n Γ q.2.2 = some y) (m : Nat) : SE W wx X (ev C (m + 1) (.ss y)) (.Call f es kws pos) := by
  obtain ⟨h1, h2⟩ := Option.filter_eq_some_iff.mp h
  obtain ⟨p, p2, p3, e1, e2, e3⟩ := ssOf_ok h1
  obtain ⟨x1, x2, a⟩ := q
  simp only [ssIs, Bool.and_eq_true, decide_eq_true_eq] at h2
  obtain ⟨z1, z2, z3, z4, z5, z6, z7⟩ := h2
  subst z1 z2 e1 e2 e3
  have na : ∀ {b : Expr}, plainE b = true → starEach [b] X.env = (false, eval b X.env) :: starEach [] X.env := fun hb => star_cons hb
  exact se_ss c.hK c.calm (c.gl1 z3) (c.wo.bl _ z5) (c.gl1 z4) (c.wo.bl _ z6) (ih Γ X wx a y c hy m).1 (na z7) rfl (na rfl) rfl
theorem xmk_step {n cc : Nat} {x : Str} {p pos : Pos} {es : List Expr} {xs : List Ex} {q : List (Str × Nat) × Nat} (ih : EOk W C k n) (c : Ctx W C k Γ X wx) (hnm : nmOk x = true) (hgl : Γ.glob x = true) (hp : es.all plainE = true)
    (h1 : mapO (compE C.t n Γ) es = some xs) (hx : xs.isEmpty = false) (hg : C.t.gl x = some (.cls cc)) (hq : C.t.exc cc = some q) (m : Nat) : PMk X (.Call (.Name x p) es [] pos) (tMkE (W.ca cc) q.1 q.2 (tX W wx dsK (seqA (fun e => (ev C m e).bind toVal) xs))) := by
  have T := c.wo.exc cc q hq
  cases es with
  | nil =>
    rw [mapO_nil h1] at hx
    cases hx
  | cons e es =>
    have hp' := hp
    simp only [List.all_cons, Bool.and_eq_true] at hp'
    rw [← c.hK] at T
    exact pmk_ex (k := k) T c.room (c.gl1 hgl) (c.wo.glc x cc hg) (sa_list ih c hp h1 m) (nmOk_ok hnm).1 (star_cons hp'.1) (star_false hp'.2)
theorem xmq_step {n cc : Nat} {x : Str} {p pos : Pos} {kws : List Keyword} {zs : List Ex} {ks : List Str} {js : List Nat} {q : List (Str × Nat) × Nat} (ih : EOk W C k n) (c : Ctx W C k Γ X wx) (hnm : nmOk x = true) (hgl : Γ.glob x = true)
    (h2 : mapO (fun (q : Keyword) => compE C.t n Γ q.value) kws = some zs) (h3 : mapO (fun (q : Keyword) => q.arg) kws = some ks) (hg : C.t.gl x = some (.cls cc)) (hq : C.t.exc cc = some q) (hj : C.t.xkw cc ks = some js) (m : Nat) :
    PMk X (.Call (.Name x p) [] kws pos) (tMkE (W.ca cc) q.1 q.2 (tX W wx dsK (pckA zs.length js (seqA (fun e => (ev C m e).bind toVal) zs)))) := by
  have T := c.wo.xkw cc ks js q hj hq
  obtain ⟨k1, k2, k3⟩ := kws_all (env := X.env) (pos := pos) h3
  have hz : zs.length = ks.length := (mapO_len h2).trans (mapO_len h3).symm
  rw [← c.hK] at T
  rw [hz]
  exact pmk_imp (pmk_exK (k := k) T c.room (c.gl1 hgl) (c.wo.glc x cc hg) (sk_list ih c h2 m) (nmOk_ok hnm).1 k1 k2 (by rw [k3]; rfl)) fun σ H Q z => tPick_imp z
theorem cao_step {n i : Nat} {x : Str} {p pos : Pos} {es : List Expr} {xs : List Ex} (ih : EOk W C k n) (c : Ctx W C k Γ X wx) (hnm : nmOk x = true) (hv : Γ.vis x = true) (hp : es.all plainE = true) (h1 : mapO (compE C.t n Γ) es = some xs) (hx : xs.isEmpty = false) (hi : ixOf x Γ.N = some i) (m : Nat) :
    SE W wx X (ev C (m + 1) (.cao (.slot i) xs)) (.Call (.Name x p) es [] pos) := by
  cases m with
  | zero =>
    refine ⟨fun pins s σ H Q I h => ?_⟩
    obtain ⟨g, P, st, r, q⟩ := h
    exact q.elim
  | succ m =>
  cases es with
  | nil =>
    rw [mapO_nil h1] at hx
    cases hx
  | cons e es =>
    have hp' := hp
    simp only [List.all_cons, Bool.and_eq_true] at hp'
    have hl : xs.length = (e :: es).length := mapO_len h1
    obtain ⟨n1, n2⟩ := nmOk_ok hnm
    have ok : CaoOk W X (k + 1) (e :: es).length (C.dispC (e :: es).length) := by
      intro cc sl call hd
      unfold Ec.dispC at hd
      obtain ⟨f, e1, e2⟩ := Option.bind_eq_some_iff.mp hd
      obtain ⟨sl', e3, e4⟩ := Option.map_eq_some_iff.mp e2
      cases e4
      obtain ⟨fd, ps, F, cb, hk⟩ := c.wo.fns f _ _ _ e3
      have m1 := c.wo.cco cc f e1
      rw [← c.hK] at m1 F cb
      exact ⟨W.fa f, fd, ps, ps.length, m1, F, rfl, cb⟩
    have q := se_cao (fe := .Name x p) (pos := pos) (mx := ev C (m + 1) (.slot i)) (disp := C.dispC (e :: es).length) c.hK ok c.room c.tk (se_var (by rw [c.hN]; exact ixOf_ok hi) (c.vis1 hv) n1 n2) (sa_list ih c hp h1 (m + 1)) (by rw [arm_eval_Call_Name'] <;> rfl) (star_cons hp'.1) (star_false hp'.2)
    rw [← hl] at q
    exact q
theorem bi_step {n : Nat} {x : Str} {p pos : Pos} {es : List Expr} {b : Bi} {a : Ex} {r : List Ex} (ih : EOk W C k n) (c : Ctx W C k Γ X wx) (hnm : nmOk x = true) (hgl : Γ.glob x = true) (hp : es.all plainE = true)
    (h1 : mapO (compE C.t n Γ) es = some (a :: r)) (hbl : C.t.bl x = true) (hb : biOf x = some b) (m : Nat) : SE W wx X (ev C (m + 1) (.bi b a r)) (.Call (.Name x p) es [] pos) := by
  cases es with
  | nil => cases h1
  | cons e es =>
    obtain ⟨a', r', e1, e2, e3⟩ := mapO_cons h1
    cases e3
    simp only [List.all_cons, Bool.and_eq_true] at hp
    obtain ⟨b1, b2⟩ := bi_boot hb
    exact se_bi c.hK c.wo.wk c.calm c.room.gd c.un (c.gl1 hgl) (c.wo.bl x hbl) b1 (ih Γ X wx e a c e1 m).1 (sa_list ih c hp.2 e2 m) b2 (nmOk_ok hnm).1 (star_cons hp.1) (star_false hp.2)
/-- int(a), dict(a), another built-in -/
theorem biX_step {n : Nat} {x : Str} {p pos : Pos} {es : List Expr} {xs : List Ex} {ir : Ex} (ih : EOk W C k n) (c : Ctx W C k Γ X wx) (hnm : nmOk x = true) (hgl : Γ.glob x = true) (hp : es.all plainE = true)
    (h1 : mapO (compE C.t n Γ) es = some xs) (hbl : C.t.bl x = true) (h : biX x xs = some ir) : ∀ m, SE W wx X (ev C m ir) (.Call (.Name x p) es [] pos) ∧ ST W wx X (evT C m ir) (.Call (.Name x p) es [] pos) := by
  unfold biX at h
  split at h
  · rename_i e0 ht
    cases h
    unfold tyX at ht
    split at ht
    · rename_i a
      cases es with
      | nil => cases h1
      | cons e es =>
        obtain ⟨b, bs, e1, e2, e3⟩ := mapO_cons h1
        cases e3
        cases es with
        | cons _ _ =>
          obtain ⟨_, _, _, _, e4⟩ := mapO_cons e2
          cases e4
        | nil =>
          simp only [List.all_cons, List.all_nil, Bool.and_true] at hp
          split at ht
          · rename_i ex
            subst ex
            cases ht
            exact both_def c.hK (lift0 fun m => se_intT (c.gl1 hgl) (c.wo.bl _ hbl) (by decide +kernel) (ih Γ X wx e a c e1 m).1 (by decide) (by decide) (star_cons hp) rfl) (fun _ => rfl) fun _ => rfl
          · split at ht
            · rename_i ex
              subst ex
              cases ht
              exact both_def c.hK (lift0 fun m => se_dct c.hK c.calm (c.gl1 hgl) (c.wo.bl _ hbl) (by decide +kernel) (ih Γ X wx e a c e1 m).1 (by decide) (by decide) (star_cons hp) rfl) (fun _ => rfl) fun _ => rfl
            · cases ht
    · cases ht
  · split at h
    · rename_i b a r hb _
      cases h
      exact both_def c.hK (lift0 fun m => bi_step ih c hnm hgl hp h1 hbl hb m) (fun _ => rfl) fun _ => rfl
    · cases h
theorem lc_step {n : Nat} {elt tg iter : Expr} {ifs : List Expr} {scope : Scope} {pos : Pos} {src : Src} {t : Tg} {x : Ex} {cond : Option Ex} (hE : EOk W C k n) (hS : SrcOk W C k n) (hT : TgOk W C k n) (c : Ctx W C k Γ X wx)
    (hb : blkC Γ.N Γ.sc scope (ownOf Γ.N scope) = true) (hi : isSet iter = false) (h1 : compSrc C.t n Γ tg iter = some src) (h2 : compTg C.t n (Γ.blk scope) tg = some t) (h3 : compE C.t n (Γ.blk scope) elt = some x)
    (ht : t.slots.all (fun i => ((ownOf Γ.N scope).map (·.2)).contains i) = true) (hc : (ifs = [] ∧ cond = none) ∨ ∃ e z, ifs = [e] ∧ cond = some z ∧ compE C.t n (Γ.blk scope) e = some z) (m : Nat) :
    SE W wx X (ev C (m + 1) (.lc x t src cond ((ownOf Γ.N scope).map (·.2)))) (.ListComp elt [⟨tg, iter, ifs, 0⟩] scope pos) := by
  refine se_lc c.calm c.nd (hS Γ X wx tg iter src c hi h1 m) (own_ok c.hN c.sc hb) (fun s H Ca cl fp => hT _ _ _ tg t _ (c.blk scope s H Ca cl fp) h2 (fun i h => ?_) m) (fun s H Ca cl fp => ?_) (fun s H Ca cl fp => sd_of (hE _ _ _ elt x (c.blk scope s H Ca cl fp) h3 m).1) (foldS_ok hi)
  · rw [List.all_eq_true] at ht
    simpa using ht i h
  · rcases hc with ⟨rfl, rfl⟩ | ⟨e, z, rfl, rfl, hz⟩
    · exact ⟨fun pins s σ H Q I h => pts_nil.run pins s σ H Q I (by
        obtain ⟨g, P, st, r, q⟩ := h
        exact q g H (.refl g) r true rfl)⟩
    · exact pts_one (hE _ _ _ e z (c.blk scope s H Ca cl fp) hz m).2
theorem cmp_true {M : Model} {A : Around} {E : Value → Shared → Prop} {s : Shared} {l r : Expr} {op : CmpOp} {pos : Pos} {env : Env} {whole : Sem Value} {Q : Bool → Shared → Prop} (hm : behindInMarks op r = false)
    (h : wpAny M A (eval (.Compare l [op] [r] pos) env) (fun c s₃ => wpAny M A (truthy c) Q E s₃) E s) : wpAny M A (isTrue (.Compare l [op] [r] pos) env whole) Q E s := fun Γ p hΓ => by
  have h1 := h Γ p hΓ
  simp only [isTrue_Compare1, markedBehindIn_of_false hm, Sem.wp_bind', Sem.wp_holding, Sem.wp_cmd_standAt, Sem.wp_operate]
  simp only [eval_Compare1, markedBehindIn_of_false hm, Sem.wp_bind', Sem.wp_holding, Sem.wp_cmd_standAt, Sem.wp_operate] at h1
  exact Sem.wp_mono M Γ _ (fun a p₁ s₁ h₁ => Sem.wp_mono M Γ _ (fun b _ s₂ h₂ => Sem.wp_mono M Γ _ (fun c p₃ s₃ h₃ => h₃ Γ p₃ hΓ)
    (fun _ _ _ h' => h') _ _ h₂) (fun _ _ _ h' => h') _ _ h₁) (fun _ _ _ h' => h') _ _ h1
theorem st_cmpS {a b : Expr} {op : CmpOp} {pos : Pos} {m : Ac Rv} (p : SE W wx X m (.Compare a [op] [b] pos)) (hm : behindInMarks op b = false) (bl : BlA m) : ST W wx X (m.bind truA) (.Compare a [op] [b] pos) := ⟨fun pins s σ H Q I h => by
  refine cmp_true hm (thn (p.run pins s σ H (fun v H1 => ∃ k, v = .bl k ∧ Q k H1) I (tru_bl bl h)) fun c s3 ⟨v, H1, I1, rv, k, e, q⟩ => ?_)
  subst e
  obtain rfl : c = Value.bool k := rv
  exact wpAny_truthy_bool ⟨H1, I1, q⟩⟩
theorem bl_stk : BlA Ac.stk := fun s x s' e => by cases e
theorem bl_kin {neg : Bool} {kvs : List (Str × Dat)} {m : Ac Rv} : BlA (kinA neg kvs m) := by
  unfold kinA
  refine bl_bind fun x => bl_bind fun w => ?_
  split
  · exact bl_ret
  · exact bl_stk
theorem bl_oeq {neg : Bool} {ma mb : Ac Rv} {d : Nat → Option (List Dat → List Mob → Cou)} : BlA (oeqA neg ma mb d) := by
  unfold oeqA
  refine bl_bind fun x => bl_bind fun y => ?_
  split
  · refine bl_bind fun w => bl_bind fun w' => ?_
    split
    · split
      · split
        · refine bl_bind fun z => ?_
          unfold bneA
          split
          · exact bl_ret
          · exact bl_stk
        · exact bl_stk
      · exact bl_stk
    · exact bl_stk
  · exact bl_stk
/-- by a truth of a comparison -/
theorem both_cmp {a b : Expr} {op : CmpOp} {pos : Pos} {ir : Ex} (h : ∀ m, SE W wx X (ev C m ir) (.Compare a [op] [b] pos)) (hm : behindInMarks op b = false) (bl : ∀ m, BlA (ev C m ir)) (ht : ∀ m, evT C (m + 1) ir = (ev C m ir).bind truA) : ∀ m, SE W wx X (ev C m ir) (.Compare a [op] [b] pos) ∧ ST W wx X (evT C m ir) (.Compare a [op] [b] pos) := fun m => by
  refine ⟨h m, ?_⟩
  cases m with
  | zero => exact st_stk
  | succ m =>
    rw [ht]
    exact st_cmpS (h m) hm (bl m)
theorem bl_ev {ir : Ex} (h : ∀ m, BlA (ev C (m + 1) ir)) : ∀ m, BlA (ev C m ir) := fun m => by
  cases m with
  | zero => exact bl_stk
  | succ m => exact h m
theorem kdE_ok {tb : Tb} {e : Expr} {kvs : List (Str × Dat)} (h : kdE tb Γ e = some kvs) : ∃ x p, e = .Name x p ∧ nmOk x = true ∧ Γ.glob x = true ∧ tb.kd x = some kvs := by
  unfold kdE at h
  split at h
  · rename_i x p
    split at h
    · rename_i hc
      simp only [Bool.and_eq_true] at hc
      exact ⟨x, p, rfl, hc.1, hc.2, h⟩
    · cases h
  · cases h
theorem cmp_ok {n : Nat} {a b : Expr} {op : CmpOp} {o : COp} {x y : Ex} {p : Pos} (hE : EOk W C k n) (c : Ctx W C k Γ X wx) (hs : isSet b = false) (h1 : cmpOf op = some o) (h2 : compE C.t n Γ a = some x) (h3 : compE C.t n Γ b = some y) : ∀ m, SE W wx X (ev C m (.cmp o x y)) (.Compare a [op] [b] p) ∧ ST W wx X (evT C m (.cmp o x y)) (.Compare a [op] [b] p) := by
  rw [← py_cmp h1]
  exact fun m => ⟨lift0 (fun m => se_cmp c.hK c.room.room.units o (hE Γ X wx _ x c h2 m).1 (hE Γ X wx _ y c h3 m).1 (marks_ok hs)) m, by
    cases m with
    | zero => exact st_stk
    | succ m =>
      cases m with
      | zero => exact ⟨fun pins s σ H Q I h => absurd h tX_stk⟩
      | succ m => exact st_cmp c.hK c.room.room.units o (hE Γ X wx _ x c h2 m).1 (hE Γ X wx _ y c h3 m).1 (marks_ok hs)⟩
theorem oeq_ok {X : Cx} (c : Ctx W C k Γ X wx) : OeqOk W X k C.dispE := by
  intro cc call hd
  obtain ⟨f, e2, rfl⟩ := Option.map_eq_some_iff.mp hd
  obtain ⟨m1, fd, ps, F, hl, hb⟩ := c.wo.eqm cc f e2
  rw [← c.hK] at m1 F hb
  exact ⟨W.fa f, fd, ps, m1, F, hl, hb⟩
theorem cmpX_ok {n : Nat} {a b : Expr} {op : CmpOp} {ir : Ex} {p : Pos} (hE : EOk W C k n) (c : Ctx W C k Γ X wx) (hs : isSet b = false) (h : cmpX (Γ.own p) op (kdE C.t Γ b) (compE C.t n Γ a) (compE C.t n Γ b) = some ir) :
    ∀ m, SE W wx X (ev C m ir) (.Compare a [op] [b] p) ∧ ST W wx X (evT C m ir) (.Compare a [op] [b] p) := by
  unfold cmpX at h
  split at h
  · rename_i kvs hk
    obtain ⟨y, e1, rfl⟩ := Option.map_eq_some_iff.mp h
    obtain ⟨x, q, rfl, k1, k2, k3⟩ := kdE_ok hk
    obtain ⟨d, k4, k5⟩ := c.wo.kd x kvs k3
    exact both_cmp (lift0 fun m => se_kin c.hK k5 (c.gl1 k2) k4 (hE Γ X wx a y c e1 m).1 (nmOk_ok k1).1 rfl) rfl (bl_ev fun _ => bl_kin) fun _ => rfl
  · rename_i kvs hk
    obtain ⟨y, e1, rfl⟩ := Option.map_eq_some_iff.mp h
    obtain ⟨x, q, rfl, k1, k2, k3⟩ := kdE_ok hk
    obtain ⟨d, k4, k5⟩ := c.wo.kd x kvs k3
    exact both_cmp (lift0 fun m => se_knin c.hK k5 (c.gl1 k2) k4 (hE Γ X wx a y c e1 m).1 (nmOk_ok k1).1 rfl) rfl (bl_ev fun _ => bl_kin) fun _ => rfl
  · split at h
    · rename_i x y h1 h2 h3
      split at h
      · cases h
        obtain rfl := py_cmp h1
        exact both_cmp (lift0 fun m => se_oeq (neg := false) (oeq_ok c) c.room (hE Γ X wx a x c h2 m).1 (hE Γ X wx b y c h3 m).1 (marks_ok hs)) (marks_ok hs) (bl_ev fun _ => bl_oeq) fun _ => rfl
      · cases h
        exact cmp_ok hE c hs h1 h2 h3
    · rename_i x y h1 h2 h3
      split at h
      · cases h
        obtain rfl := py_cmp h1
        exact both_cmp (lift0 fun m => se_oeq (neg := true) (oeq_ok c) c.room (hE Γ X wx a x c h2 m).1 (hE Γ X wx b y c h3 m).1 (marks_ok hs)) (marks_ok hs) (bl_ev fun _ => bl_oeq) fun _ => rfl
      · cases h
        exact cmp_ok hE c hs h1 h2 h3
    · rename_i o x y _ _ h1 h2 h3
      cases h
      exact cmp_ok hE c hs h1 h2 h3
    · cases h
theorem subX_ok {n : Nat} {o i : Expr} {ir : Ex} {p : Pos} (hE : EOk W C k n) (c : Ctx W C k Γ X wx) (hp : plainE i = true) (h : subX (kdE C.t Γ o) (compE C.t n Γ o) (compE C.t n Γ i) = some ir) : ∀ m, SE W wx X (ev C m ir) (.Subscript o i p) ∧ ST W wx X (evT C m ir) (.Subscript o i p) := by
  unfold subX at h
  split at h
  · rename_i kvs y hk e1
    cases h
    obtain ⟨x, q, rfl, k1, k2, k3⟩ := kdE_ok hk
    obtain ⟨d, k4, k5⟩ := c.wo.kd x kvs k3
    refine both_def c.hK (lift0 fun m => se_kget c.hK k5 (c.gl1 k2) k4 (hE Γ X wx i y c e1 m).1 (plainIx_ok hp) (nmOk_ok k1).1) (fun whole => ?_) fun _ => rfl
    cases i <;> first | rfl | cases hp
  · rename_i y hk e1
    obtain ⟨x, e2, rfl⟩ := Option.map_eq_some_iff.mp h
    refine both_def c.hK (lift0 fun m => se_sub c.hK c.room.room.units (hE Γ X wx _ x c e2 m).1 (hE Γ X wx _ y c e1 m).1 (plainIx_ok hp)) (fun whole => ?_) fun _ => rfl
    cases i <;> first | rfl | cases hp
  · cases h
theorem mk_step {n : Nat} {x : Str} {p pos : Pos} {es : List Expr} {kws : List Keyword} {xs zs : List Ex} {ks : List Str} {i cc : Nat} {sl : List Sl} (ih : EOk W C k n) (c : Ctx W C k Γ X wx) (hnm : nmOk x = true) (hgl : Γ.glob x = true) (hp : es.all plainE = true)
    (h1 : mapO (compE C.t n Γ) es = some xs) (h2 : mapO (fun (q : Keyword) => compE C.t n Γ q.value) kws = some zs) (h3 : mapO (fun (q : Keyword) => q.arg) kws = some ks) (hg : C.t.gl x = some (.cls cc)) (hi : C.t.ctor cc = some i) (hb : C.t.bnd i (es.length + 1) ks = some sl) (m : Nat) :
    SE W wx X (ev C (m + 1) (.mk cc i xs zs sl)) (.Call (.Name x p) es kws pos) := by
  obtain ⟨fd, ps, F, cb⟩ := c.wo.lows i _ _ _ hb
  have M := c.wo.ctor cc i hi
  obtain ⟨k1, k2, k3⟩ := kws_all (env := X.env) (pos := pos) h3
  have hz : zs.length = ks.length := (mapO_len h2).trans (mapO_len h3).symm
  have hx : xs.length = es.length := mapO_len h1
  rw [← c.hK] at M F cb
  have q := se_mk (x := x) (p := p) (pos := pos) (W := W) (wx := wx) (X := X) (k := k) (f := W.fa i) (fd := fd) (ps := ps) (ks := ks) (np := ps.length) (n := es.length) (c := cc) (call := C.low i) (sl := sl) c.hK M F rfl c.room c.tk (c.gl1 hgl) (c.wo.glc x cc hg) cb
    (sa_list ih c hp h1 m) (sk_list ih c h2 m) (nmOk_ok hnm).1 k1 k2 (fun e => by
      subst e
      rw [mapO_nil h1]
      rfl) (fun e es' e' => by
      subst e'
      simp only [List.all_cons, Bool.and_eq_true] at hp
      exact star_cons hp.1) (by rw [star_false hp, k3]; rfl)
  rw [← hx, ← hz] at q
  exact q
theorem con_cls {n cc : Nat} {o : Expr} {y : Ex} (ih : EOk W C k n) (c : Ctx W C k Γ X wx) (h0 : compE C.t n Γ o = some y) (hc : clsOf y = some cc) : SE W wx X (Ac.ret (.val (.cls cc))) o := by
  have e : y = .con (.cls cc) := by
    unfold clsOf at hc
    split at hc
    · cases hc
      rfl
    · cases hc
  subst e
  exact (ih Γ X wx o _ c h0 1).1
theorem clsX_step {n cc : Nat} {nm : Str} {apos pos : Pos} {o : Expr} {es : List Expr} {kws : List Keyword} {y ir : Ex} {xs zs : List Ex} {ks : List Str} (ih : EOk W C k n) (c : Ctx W C k Γ X wx) (hp : es.all plainE = true)
    (h0 : compE C.t n Γ o = some y) (hcl : clsOf y = some cc) (h1 : mapO (compE C.t n Γ) es = some xs) (h2 : mapO (fun (q : Keyword) => compE C.t n Γ q.value) kws = some zs) (h3 : mapO (fun (q : Keyword) => q.arg) kws = some ks) (ha : attOk o = true) (hl : (apos.endLine == pos.line) = true) (hn : es.length + kws.length < 28)
    (h : clsX C.t cc nm es.length xs zs ks = some ir) : ∀ m, SE W wx X (ev C m ir) (.Call (.Attribute o nm apos) es kws pos) ∧ ST W wx X (evT C m ir) (.Call (.Attribute o nm apos) es kws pos) := by
  have po := con_cls ih c h0 hcl
  obtain ⟨k1, k2, k3⟩ := kws_all (env := X.env) (pos := pos) h3
  have hz : zs.length = ks.length := (mapO_len h2).trans (mapO_len h3).symm
  have hx : xs.length = es.length := mapO_len h1
  unfold clsX at h
  split at h
  · rename_i f hf
    split at h
    · rename_i a r sl hb
      cases h
      cases kws with
      | cons q kws =>
        obtain ⟨b, bs, _, _, e⟩ := mapO_cons h3
        cases e
      | nil =>
        cases es with
        | nil =>
          have := mapO_nil h1
          cases this
        | cons e0 es =>
          obtain ⟨fd, ps, F, cb, hk⟩ := c.wo.fns f _ _ _ hb
          obtain ⟨mc, pa, r0, cm⟩ := c.wo.cmet cc nm f hf
          rw [← c.hK] at r0 cm F cb
          have hp' := hp
          simp only [List.all_cons, Bool.and_eq_true] at hp'
          refine both_def c.hK (lift0 fun m => ?_) (fun _ => rfl) fun _ => rfl
          have q := se_cmt (apos := apos) (pos := pos) (W := W) (wx := wx) (X := X) (k := k + 1) (f := W.fa f) (fd := fd) (ps := ps) (np := ps.length) (n := (e0 :: es).length) (c := cc) (call := C.call f) (sl := sl) c.hK po r0 cm F rfl c.room c.tk cb
            (sa_list ih c hp h1 m) (star_cons hp'.1) (star_false hp'.2) (mcall_eq ha hl hn hp h3)
          rw [← hx] at q
          exact q
    · cases h
  · split at h
    · rename_i f hf
      obtain ⟨sl, hb, rfl⟩ := Option.map_eq_some_iff.mp h
      obtain ⟨fd, ps, F, cb, hk⟩ := c.wo.fns f _ _ _ hb
      obtain ⟨mc, r0, sm⟩ := c.wo.smet cc nm f hf
      rw [← c.hK] at r0 sm F cb
      refine both_def c.hK (lift0 fun m => ?_) (fun _ => rfl) fun _ => rfl
      have q := se_smt (apos := apos) (pos := pos) (W := W) (wx := wx) (X := X) (k := k + 1) (f := W.fa f) (fd := fd) (ps := ps) (ks := ks) (np := ps.length) (n := es.length) (c := cc) (call := C.call f) (sl := sl) c.hK po r0 sm F rfl c.room c.tk cb
        (sa_list ih c hp h1 m) (sk_list ih c h2 m) k1 k2 (fun e => by
          subst e
          rw [mapO_nil h1]
          rfl) (fun e es' e' => by
          subst e'
          simp only [List.all_cons, Bool.and_eq_true] at hp
          exact star_cons hp.1) (by rw [star_false hp, k3]; rfl) (mcall_eq ha hl hn hp h3)
      rw [← hx, ← hz] at q
      exact q
    · cases h
theorem ifs_ok {n : Nat} {scope : Scope} {ifs : List Expr} {z : Option Ex} (hE : EOk W C k n) (c : Ctx W C k Γ X wx) (h : ifsC (compE C.t n (Γ.blk scope)) ifs = some z) (m : Nat) : BlkX X scope fun Y => PTs Y ifs (tX W wx0 (eqK Bool) (condA (evT C m) z)) := fun s H Ca cl fp => by
  unfold ifsC at h
  split at h
  · cases h
    exact ⟨fun pins s σ H Q I h => pts_nil.run pins s σ H Q I (by
      obtain ⟨g, P, st, r, q⟩ := h
      exact q g H (.refl g) r true rfl)⟩
  · obtain ⟨x, e1, rfl⟩ := Option.map_eq_some_iff.mp h
    exact pts_one (hE _ _ _ _ x (c.blk scope s H Ca cl fp) e1 m).2
  · cases h
theorem lc2_step {n : Nat} {elt tg iter tg1 iter1 : Expr} {ifs ifs1 : List Expr} {scope : Scope} {pos : Pos} {src src1 : Src} {t t1 : Tg} {x : Ex} {z z1 : Option Ex} (hE : EOk W C k n) (hS : SrcOk W C k n) (hT : TgOk W C k n) (c : Ctx W C k Γ X wx)
    (hb : blkC Γ.N Γ.sc scope (ownOf Γ.N scope) = true) (hi : isSet iter = false) (hi1 : isSet iter1 = false) (h1 : compSrc C.t n Γ tg iter = some src) (h2 : compTg C.t n (Γ.blk scope) tg = some t) (h3 : ifsC (compE C.t n (Γ.blk scope)) ifs = some z)
    (h4 : compSrc C.t n (Γ.blk scope) tg1 iter1 = some src1) (h5 : compTg C.t n (Γ.blk scope) tg1 = some t1) (h6 : ifsC (compE C.t n (Γ.blk scope)) ifs1 = some z1) (h7 : compE C.t n (Γ.blk scope) elt = some x)
    (ht : t.slots.all (fun i => ((ownOf Γ.N scope).map (·.2)).contains i) = true) (ht1 : t1.slots.all (fun i => ((ownOf Γ.N scope).map (·.2)).contains i) = true) (m : Nat) :
    SE W wx X (ev C (m + 1) (.lc2 x t src z t1 src1 z1 ((ownOf Γ.N scope).map (·.2)) t1.slots)) (.ListComp elt [⟨tg, iter, ifs, 0⟩, ⟨tg1, iter1, ifs1, 0⟩] scope pos) := by
  rw [List.all_eq_true] at ht ht1
  exact se_lc2 c.calm c.nd (hS Γ X wx tg iter src c hi h1 m) (own_ok c.hN c.sc hb) (fun i h => by simpa using ht1 i h) (fun s H Ca cl fp => hT _ _ _ tg t _ (c.blk scope s H Ca cl fp) h2 (fun i h => by simpa using ht i h) m) (ifs_ok hE c h3 m)
    (fun s H Ca cl fp => hS _ _ _ tg1 iter1 src1 (c.blk scope s H Ca cl fp) hi1 h4 m) (fun s H Ca cl fp => hT _ _ _ tg1 t1 _ (c.blk scope s H Ca cl fp) h5 (fun i h => h) m) (ifs_ok hE c h6 m) (fun s H Ca cl fp => sd_of (hE _ _ _ elt x (c.blk scope s H Ca cl fp) h7 m).1) (foldS_ok hi) fun env => foldS_ok hi1
theorem st_ite {c a b : Expr} {mc ma mb : Ac Bool} {pos : Pos} (pc : ST W wx X mc c) (pa : ST W wx X ma a) (pb : ST W wx X mb b) : ST W wx X (mc.bind fun k => if k then ma else mb) (.IfExp c a b pos) := ⟨fun pins s σ H Q I h => by
  have h2 := tb_ite h
  refine isTrue_IfExp (thn (pc.run pins s σ H _ I h2) fun d s1 ⟨H1, I1, q1⟩ => ?_)
  cases d with
  | true => exact pa.run pins s1 σ H1 Q I1 q1
  | false => exact pb.run pins s1 σ H1 Q I1 q1⟩
theorem e_step {n : Nat} (hE : EOk W C k n) (hS : SrcOk W C k n) (hT : TgOk W C k n) : EOk W C k (n + 1) := by
  intro Γ X wx e ir c h
  unfold compE at h
  split at h
  · cases h
    exact both_def c.hK (lift0 fun m => se_con pe_non fun g => .non) (fun _ => rfl) fun _ => rfl
  · cases h
    exact both_def c.hK (lift0 fun m => se_con pe_bl fun g => .bl _) (fun _ => rfl) fun _ => rfl
  · cases h
    exact both_def c.hK (lift0 fun m => se_con pe_int fun g => .int _) (fun _ => rfl) fun _ => rfl
  · cases h
    exact both_def c.hK (lift0 fun m => se_con pe_str fun g => .str _) (fun _ => rfl) fun _ => rfl
  · -- a name
    rename_i x p
    split at h
    · rename_i hnm
      obtain ⟨n1, n2⟩ := nmOk_ok hnm
      split at h
      · rename_i hgl
        split at h
        · rename_i d hg
          cases h
          obtain ⟨u, v, e1, e2, e3⟩ := c.wo.gl x d hg
          exact both_def c.hK (lift0 fun m => se_glob (c.gl1 hgl) e1 e2 e3 n1) (fun _ => rfl) fun _ => rfl
        · rename_i cc hg
          cases h
          exact both_def c.hK (lift0 fun m => se_glob (c.gl1 hgl) (c.wo.glc x cc hg) (v := .ref (W.ca cc)) rfl (fun g => .cls cc) n1) (fun _ => rfl) fun _ => rfl
        · cases h
        · split at h
          · rename_i hbl
            obtain ⟨ty, e1, rfl⟩ := Option.map_eq_some_iff.mp h
            obtain ⟨b1, b2⟩ := ty_boot e1
            exact both_def c.hK (lift0 fun m => se_bltn (c.gl1 hgl) (c.wo.bl x hbl) b1 (v := .ty ty) rfl (fun g => .ty ty) b2 n1) (fun _ => rfl) fun _ => rfl
          · cases h
      · split at h
        · rename_i hv
          obtain ⟨i, e1, rfl⟩ := Option.map_eq_some_iff.mp h
          exact both_def c.hK (lift0 fun m => se_var (by rw [c.hN]; exact ixOf_ok e1) (c.vis1 hv) n1 n2) (fun _ => rfl) fun _ => rfl
        · cases h
    · cases h
  · -- a tuple
    split at h
    · rename_i hp
      obtain ⟨irs, e1, rfl⟩ := Option.map_eq_some_iff.mp h
      exact both_def c.hK (lift0 fun m => se_tup (sa_list hE c hp e1 m)) (fun _ => rfl) fun _ => rfl
    · cases h
  · split at h
    · rename_i hp
      obtain ⟨irs, e1, rfl⟩ := Option.map_eq_some_iff.mp h
      exact both_def c.hK (wrapE (lift0 fun m => se_lst (sa_list hE c hp e1 m))) (fun _ => rfl) (wrapT fun _ => rfl)
    · cases h
  · -- formatted texts
    split at h
    · rename_i hc
      subst hc
      obtain ⟨x, e1, rfl⟩ := Option.map_eq_some_iff.mp h
      exact both_def c.hK (lift0 fun m => se_jn1 (se_fmt (hE Γ X wx _ x c e1 m).1)) (fun _ => rfl) fun _ => rfl
    · cases h
  · obtain ⟨irs, e1, rfl⟩ := Option.map_eq_some_iff.mp h
    exact both_def c.hK (lift0 fun m => se_jn (pj_list hE c e1 m)) (fun _ => rfl) fun _ => rfl
  · split at h
    · rename_i hc
      subst hc
      obtain ⟨x, e1, rfl⟩ := Option.map_eq_some_iff.mp h
      exact both_def c.hK (lift0 fun m => se_fmt (hE Γ X wx _ x c e1 m).1) (fun _ => rfl) fun _ => rfl
    · cases h
  · split at h
    · rename_i x y z h1 h2 h3
      cases h
      exact both_def c.hK (lift0 fun m => se_dup (hE Γ X wx _ x c h1 m).1 (sd_of (hE Γ X wx _ y c h2 m).1) (sd_of (hE Γ X wx _ z c h3 m).1)) (fun _ => rfl) fun _ => rfl
    · cases h
  · -- a dict
    rename_i ks vs pos _
    split at h
    · rename_i h15
      obtain ⟨kvs, e1, rfl⟩ := Option.map_eq_some_iff.mp h
      refine both_def c.hK (wrapE (lift0 fun m => ?_)) (fun _ => rfl) (wrapT fun _ => rfl)
      obtain ⟨k1, k2, k3, k4⟩ := pps_list hE c (pos := pos) e1 m
      cases ks with
      | nil =>
        cases vs with
        | nil =>
          cases e1
          exact se_dic0
        | cons _ _ => cases e1
      | cons a ks =>
        cases kvs with
        | nil => cases k4
        | cons p kvs => exact se_dic k1 k2 k3 (fun z => by cases z) h15
    · cases h
  · -- arithmetic
    split at h
    · rename_i o x y h1 h2 h3
      cases h
      rw [← py_bin h1]
      exact both_def c.hK (lift0 fun m => se_bin c.hK o (hE Γ X wx _ x c h2 m).1 (hE Γ X wx _ y c h3 m).1) (fun _ => rfl) fun _ => rfl
    · cases h
  · -- not
    obtain ⟨x, e1, rfl⟩ := Option.map_eq_some_iff.mp h
    exact fun m => ⟨lift0 (fun m => se_not c.hK (hE Γ X wx _ x c e1 m).1) m, liftT (fun m => st_not (hE Γ X wx _ x c e1 m).2) m⟩
  · obtain ⟨x, e1, rfl⟩ := Option.map_eq_some_iff.mp h
    exact both_def c.hK (lift0 fun m => se_neg (hE Γ X wx _ x c e1 m).1) (fun _ => rfl) fun _ => rfl
  · -- and, or
    exact fun m => ⟨(bool_list hE c h m).1, (bool_list hE c h m).2.pt⟩
  · -- if else
    split at h
    · rename_i z x y h1 h2 h3
      cases h
      exact fun m => ⟨lift0 (fun m => se_ite (hE Γ X wx _ z c h1 m).2 (hE Γ X wx _ x c h2 m).1 (hE Γ X wx _ y c h3 m).1) m, liftT (fun m => st_ite (hE Γ X wx _ z c h1 m).2 (hE Γ X wx _ x c h2 m).2 (hE Γ X wx _ y c h3 m).2) m⟩
    · cases h
  · -- comparisons
    split at h
    · cases h
    · rename_i hs
      rw [Bool.not_eq_true] at hs
      exact cmpX_ok hE c hs h
  · split at h
    · cases h
    · rename_i hs
      rw [Bool.not_eq_true] at hs
      split at h
      · rename_i o o' x y z h1 h2 h3 h4 h5
        cases h
        rw [← py_cmp h1, ← py_cmp h2]
        have hm : ∀ {b : Expr}, lastMarks [o.py, o'.py] [b, _] = false := fun {b} => marks_ok hs
        exact fun m => ⟨lift0 (fun m => se_chn c.hK c.room.room.units o o' (hE Γ X wx _ x c h3 m).1 (sd_of (hE Γ X wx _ y c h4 m).1) (hE Γ X wx _ z c h5 m).1 hm) m, by
          cases m with
          | zero => exact st_stk
          | succ m =>
            cases m with
            | zero => exact ⟨fun pins s σ H Q I h => absurd h tX_stk⟩
            | succ m => exact st_chn c.hK c.room.room.units o o' (hE Γ X wx _ x c h3 m).1 (sd_of (hE Γ X wx _ y c h4 m).1) (hE Γ X wx _ z c h5 m).1 hm⟩
      · cases h
  · -- attributes
    split at h
    · rename_i ha
      split at h
      · obtain ⟨x, e1, rfl⟩ := Option.map_eq_some_iff.mp h
        exact both_def c.hK (lift0 fun m => se_att c.hK c.wo.flds (hE Γ X wx _ x c e1 m).1 (attB_ok ha)) (fun _ => rfl) fun _ => rfl
      · split at h
        · obtain ⟨x, e1, rfl⟩ := Option.map_eq_some_iff.mp h
          refine both_def c.hK (lift0 fun m => se_prop (k := k) ?_ c.room (hE Γ X wx _ x c e1 m).1 (attB_ok ha)) (fun _ => rfl) fun _ => rfl
          intro cc call hd
          obtain ⟨f, e2, rfl⟩ := Option.map_eq_some_iff.mp hd
          obtain ⟨m1, ⟨p, m2⟩, fd, ps, F, hl, hb⟩ := c.wo.prop cc _ f e2
          rw [← c.hK] at m1 m2 F hb
          exact ⟨p, W.fa f, fd, ps, m1, m2, F, hl, hb⟩
        · split at h
          · obtain ⟨x, e1, rfl⟩ := Option.map_eq_some_iff.mp h
            exact both_def c.hK (lift0 fun m => se_xat c.hK c.wo.xf (hE Γ X wx _ x c e1 m).1 (attB_ok ha)) (fun _ => rfl) fun _ => rfl
          · cases h
    · cases h
  · obtain ⟨x, e1, rfl⟩ := Option.map_eq_some_iff.mp h
    exact both_def c.hK (lift0 fun m => se_rev (hE Γ X wx _ x c e1 m).1) (fun _ => rfl) fun _ => rfl
  · split at h
    · rename_i x l hh h1 h2 h3
      cases h
      exact both_def c.hK (lift0 fun m => se_slc c.hK (hE Γ X wx _ x c h1 m).1 (so_opt hE c h2 m) (so_opt hE c h3 m)) (fun _ => rfl) fun _ => rfl
    · cases h
  · split at h
    · rename_i hp
      exact subX_ok hE c hp h
    · cases h
  · -- comprehensions of two clauses
    split at h
    · rename_i hb
      simp only [Bool.and_eq_true, Bool.not_eq_true'] at hb
      split at h
      · rename_i src t z src1 t1 z1 x h1 h2 h3 h4 h5 h6 h7
        split at h
        · rename_i ht
          rw [Bool.and_eq_true] at ht
          cases h
          exact both_def c.hK (lift0 fun m => lc2_step hE hS hT c hb.1.1 hb.1.2 hb.2 h1 h2 h3 h4 h5 h6 h7 ht.1 ht.2 m) (fun _ => rfl) fun _ => rfl
        · cases h
      · cases h
    · cases h
  · -- comprehensions
    split at h
    · rename_i hb
      simp only [Bool.and_eq_true, Bool.not_eq_true'] at hb
      split at h
      · rename_i src t x h1 h2 h3
        split at h
        · rename_i ht
          split at h
          · cases h
            exact both_def c.hK (lift0 fun m => lc_step hE hS hT c hb.1 hb.2 h1 h2 h3 ht (.inl ⟨rfl, rfl⟩) m) (fun _ => rfl) fun _ => rfl
          · obtain ⟨z, e1, rfl⟩ := Option.map_eq_some_iff.mp h
            exact both_def c.hK (lift0 fun m => lc_step hE hS hT c hb.1 hb.2 h1 h2 h3 ht (.inr ⟨_, z, rfl, rfl, e1⟩) m) (fun _ => rfl) fun _ => rfl
          · cases h
        · cases h
      · cases h
    · cases h
  · -- calls
    split at h
    · rename_i hp
      split at h
      · rename_i q hq
        obtain ⟨y, e1, rfl⟩ := Option.map_eq_some_iff.mp h
        exact both_def c.hK (lift0 fun m => ss_step hE c hq e1 m) (fun _ => rfl) fun _ => rfl
      split at h
      · rename_i xs zs ks h1 h2
        obtain ⟨h3, h4⟩ := kwsC_ok h2
        split at h
        · split at h
          · rename_i hg
            simp only [Bool.and_eq_true] at hg
            split at h
            · rename_i i hf
              obtain ⟨sl, e1, rfl⟩ := Option.map_eq_some_iff.mp h
              exact both_def c.hK (lift0 fun m => call_step hE c hg.1 hg.2 hp h1 h3 h4 hf e1 m) (fun _ => rfl) fun _ => rfl
            · rename_i cc hf
              split at h
              · rename_i q hq
                split at h
                · rename_i hk
                  simp only [Bool.and_eq_true, Bool.not_eq_true', List.isEmpty_iff] at hk
                  obtain ⟨rfl, hx⟩ := hk
                  cases h
                  refine both_def c.hK (lift0 fun m => ?_) (fun _ => rfl) fun _ => rfl
                  show SE W wx X ((C.errA cc (seqA (fun e => (ev C m e).bind toVal) xs)).bind fun d => Ac.ret (.val d)) _
                  unfold Ec.errA
                  rw [hq]
                  exact se_xmk (xmk_step hE c hg.1 hg.2 hp h1 hx hf hq m)
                · split at h
                  · rename_i he
                    obtain ⟨js, hj, rfl⟩ := Option.map_eq_some_iff.mp h
                    obtain rfl := List.isEmpty_iff.mp he
                    refine both_def c.hK (lift0 fun m => ?_) (fun _ => rfl) fun _ => rfl
                    show SE W wx X ((C.errA cc (pckA zs.length js (seqA (fun e => (ev C m e).bind toVal) zs))).bind fun d => Ac.ret (.val d)) _
                    unfold Ec.errA
                    rw [hq]
                    exact se_xmk (xmq_step hE c hg.1 hg.2 h3 h4 hf hq hj m)
                  · cases h
              · rename_i i _ hi
                obtain ⟨sl, e1, rfl⟩ := Option.map_eq_some_iff.mp h
                exact both_def c.hK (lift0 fun m => mk_step hE c hg.1 hg.2 hp h1 h3 h4 hf hi e1 m) (fun _ => rfl) fun _ => rfl
              · cases h
            · cases h
            · split at h
              · rename_i hb
                simp only [Bool.and_eq_true, List.isEmpty_iff] at hb
                obtain ⟨hb1, rfl⟩ := hb
                exact biX_step hE c hg.1 hg.2 hp h1 hb1 h
              · cases h
          · split at h
            · rename_i hg
              simp only [Bool.and_eq_true, Bool.not_eq_true', List.isEmpty_iff] at hg
              obtain ⟨⟨⟨g1, g2⟩, rfl⟩, g4⟩ := hg
              obtain ⟨i, e1, rfl⟩ := Option.map_eq_some_iff.mp h
              exact both_def c.hK (lift0 fun m => cao_step hE c g1 g2 hp h1 g4 e1 m) (fun _ => rfl) fun _ => rfl
            · cases h
        · split at h
          · rename_i y h0
            split at h
            · rename_i hc
              simp only [Bool.and_eq_true, decide_eq_true_eq] at hc
              obtain ⟨⟨hc1, hc2⟩, hc3⟩ := hc
              split at h
              · rename_i cc hcl
                exact clsX_step hE c hp h0 hcl h1 h3 h4 hc1 hc2 hc3 h
              · split at h
                · cases h
                  exact both_def c.hK (lift0 fun m => mtd_step hE c hp h0 h1 h3 h4 hc1 hc2 hc3 m) (fun _ => rfl) fun _ => rfl
                · split at h
                  · rename_i hk
                    rw [List.isEmpty_iff] at hk
                    subst hk
                    obtain ⟨t, e1, rfl⟩ := Option.map_eq_some_iff.mp h
                    exact both_def c.hK (lift0 fun m => mth_step hE c hp h0 h1 hc1 hc2 hc3 e1 m) (fun _ => rfl) fun _ => rfl
                  · cases h
            · cases h
          · cases h
        · cases h
      · cases h
    · cases h
  · cases h
end
end En
set_option maxHeartbeats 4000000
/-! En20: the compiler is right: sources, targets, statements. -/
namespace En
open PySem PySem.Spec PyProof.Rows L2
section
variable {W : Wd} {C : Ec} {k : Nat} {Γ : Ge} {X : Cx} {wx : WX}
theorem liftI {tg e : Expr} {ir : Src} (h : ∀ m, SI W wx X tg (srcA C (m + 1) ir) e) : ∀ m, SI W wx X tg (srcA C m ir) e := fun m => by
  cases m with
  | zero => exact si_stk
  | succ m => exact h m
theorem star1 {a : Expr} {env : Env} (h : plainE a = true) : starEach [a] env = [(false, eval a env)] := by
  rw [star_cons h]
  rfl
theorem s_step {n : Nat} (hE : EOk W C k n) : SrcOk W C k (n + 1) := by
  intro Γ X wx tg e ir c hs h
  unfold compSrc at h
  have any : ∀ {e : Expr}, (compE C.t n Γ e).map Src.ex = some ir → ∀ m, SI W wx X tg (srcA C m ir) e := fun {e} h => by
    obtain ⟨x, e1, rfl⟩ := Option.map_eq_some_iff.mp h
    exact liftI fun m => si_any c.hK (hE Γ X wx _ x c e1 m).1
  split at h
  · rename_i x p a pos
    split at h
    · rename_i ex
      subst ex
      split at h
      · rename_i hc
        simp only [Bool.and_eq_true] at hc
        obtain ⟨⟨c1, c2⟩, c3⟩ := hc
        obtain ⟨y, e1, rfl⟩ := Option.map_eq_some_iff.mp h
        exact liftI fun m => si_rng1 (c.gl1 c1) (c.wo.bl _ c2) (sd_of (hE Γ X wx a y c e1 m).1) (star1 c3)
      · cases h
    · split at h
      · rename_i ex
        subst ex
        split at h
        · split at h
          · rename_i hc
            simp only [Bool.and_eq_true] at hc
            obtain ⟨⟨c1, c2⟩, c3⟩ := hc
            obtain ⟨y, e1, rfl⟩ := Option.map_eq_some_iff.mp h
            exact liftI fun m => si_enum (c.gl1 c1) (c.wo.bl _ c2) (sd_of (hE Γ X wx a y c e1 m).1) (star1 c3)
          · cases h
        · cases h
      · exact any h
  · rename_i x p a b pos
    split at h
    · rename_i ex
      subst ex
      split at h
      · rename_i hc
        simp only [Bool.and_eq_true] at hc
        obtain ⟨⟨⟨c1, c2⟩, c3⟩, c4⟩ := hc
        split at h
        · rename_i y z h1 h2
          cases h
          exact liftI fun m => si_rng2 (c.gl1 c1) (c.wo.bl _ c2) (sd_of (hE Γ X wx a y c h1 m).1) (sd_of (hE Γ X wx b z c h2 m).1) (by rw [star_cons c3, star1 c4]) (star1 c4)
        · cases h
      · cases h
    · split at h
      · rename_i ex
        subst ex
        split at h
        · split at h
          · rename_i hc
            simp only [Bool.and_eq_true] at hc
            obtain ⟨⟨⟨c1, c2⟩, c3⟩, c4⟩ := hc
            split at h
            · rename_i y z h1 h2
              cases h
              exact liftI fun m => si_zip (c.gl1 c1) (c.wo.bl _ c2) (sd_of (hE Γ X wx a y c h1 m).1) (sd_of (hE Γ X wx b z c h2 m).1) (star_cons c3) (star_cons c4) (by rw [star1 c4]; rfl)
            · cases h
          · cases h
        · cases h
      · exact any h
  · exact any h
theorem asg_len : ∀ {es : List Expr} {env : Env}, es.all plainE = true → (assignEach es env).length = es.length ∧ (assignEach es env).findIdx? (·.1) = none
  | [], _, _ => ⟨rfl, rfl⟩
  | e :: es, env, h => by
    simp only [List.all_cons, Bool.and_eq_true] at h
    obtain ⟨h1, h2⟩ := asg_len (env := env) h.2
    have e0 : assignEach (e :: es) env = (false, assign e env) :: assignEach es env := by
      have hp := h.1
      cases e <;> first | rfl | cases hp
    rw [e0]
    refine ⟨congrArg (· + 1) h1, ?_⟩
    rw [List.findIdx?_cons, h2]
    rfl
theorem asg_map {e : Expr} {es : List Expr} {env : Env} (h : plainE e = true) : (assignEach (e :: es) env).map (·.2) = assign e env :: (assignEach es env).map (·.2) := by
  cases e <;> first | rfl | cases h
theorem tgs_list {n : Nat} (hT : TgOk W C k n) (c : Ctx W C k Γ X wx) {vs : List Nat} : ∀ {es : List Expr} {ts : List Tg}, es.all plainE = true → mapO (compTg C.t n Γ) es = some ts → (∀ i ∈ Tg.slotss ts, i ∈ vs) → ∀ m, SGs W wx X (tgsA (fun t => tgA C m t) ts) vs es
  | [], ts, _, h, _, m => by
    rw [mapO_nil h]
    exact sgs_nil
  | e :: es, ts, hp, h, hv, m => by
    obtain ⟨b, bs, h1, h2, rfl⟩ := mapO_cons h
    simp only [List.all_cons, Bool.and_eq_true] at hp
    have hv' : ∀ i ∈ b.slots ++ Tg.slotss bs, i ∈ vs := hv
    exact sgs_cons (hT Γ X wx e b vs c h1 (fun i hi => hv' i (List.mem_append_left _ hi)) m) (tgs_list hT c hp.2 h2 (fun i hi => hv' i (List.mem_append_right _ hi)) m) (asg_map hp.1)
theorem t_step {n : Nat} (hE : EOk W C k n) (hT : TgOk W C k n) : TgOk W C k (n + 1) := by
  intro Γ X wx e t vs c h hv m
  cases m with
  | zero =>
    unfold tgA
    exact sg_stk
  | succ m =>
    unfold compTg at h
    split at h
    · rename_i x p
      split at h
      · rename_i hl
        obtain ⟨i, e1, rfl⟩ := Option.map_eq_some_iff.mp h
        obtain ⟨l1, l2⟩ := c.loc1 hl
        exact sg_name (hv i (List.mem_singleton.mpr rfl)) c.nd (by rw [c.hN]; exact ixOf_ok e1) l1 l2
      · cases h
    · rename_i es kk pos
      split at h
      · rename_i hp
        obtain ⟨ts, e1, rfl⟩ := Option.map_eq_some_iff.mp h
        obtain ⟨a1, a2⟩ := asg_len (env := X.env) hp
        exact sg_tup c.hK c.calm (tgs_list hT c hp e1 hv m) (a1.trans (mapO_len e1).symm) a2
      · cases h
    · rename_i o i pos
      split at h
      · rename_i hp
        split at h
        · rename_i x y h1 h2
          cases h
          refine sg_sub c.room.room.units (hE Γ X wx o x c h1 m).1 (hE Γ X wx i y c h2 m).1 fun v => ?_
          cases i <;> first | rfl | cases hp
        · cases h
      · cases h
    · cases h
theorem all_ok (n : Nat) : EOk W C k n ∧ SrcOk W C k n ∧ TgOk W C k n := by
  induction n with
  | zero =>
    refine ⟨?_, ?_, ?_⟩
    · intro Γ X wx e ir c h
      cases h
    · intro Γ X wx tg e ir c _ h
      cases h
    · intro Γ X wx e t vs c h
      cases h
  | succ n ih =>
    obtain ⟨h1, h2, h3⟩ := ih
    exact ⟨e_step h1 h2 h3, s_step h1, t_step h1 h3⟩
end
/-! ### statements -/
def fnK (sc : Scope) : Bool := (if sc.kind.isAnnotationScope then ScopeKind.function else sc.kind) == .function
/-- whether a comprehension is stored ahead of its own names -/
def swB (Γ : Ge) (e tg : Expr) : Bool := match e, tg with
  | .ListComp elt gens sc p, .Name t pos => fnK Γ.sc && Γ.sc.names.lookup t == some .local && pos.line == p.line && !(sc.names.any fun (n, k) => n == t && (k == .local || k == .cell))
  | _, _ => false
def isLc1 : Expr → Bool
  | .ListComp _ [_] _ _ => true
  | _ => false
/-- the cases of a match -/
def casesC (f : List Stmt → Option (List Sm)) : List MatchCase → Option (List (List Str × List Sm) × List Sm)
  | [] => some ([], [])
  | ⟨.MatchAs none none _, none, body⟩ :: r => (match r with
    | [] => (f body).map fun d => ([], d)
    | _ => none)
  | ⟨p, none, body⟩ :: r => (match patOf p, f body, casesC f r with
    | some xs, some b, some (cs, d) => some ((xs, b) :: cs, d)
    | _, _, _ => none)
  | _ => none
def isTL : Expr → Bool
  | .Tuple .. => true
  | .List .. => true
  | _ => false
def nameOf : Expr → Option (Str × Nat)
  | .Name x p => some (x, p.line)
  | _ => none
/-- names of a plain exchange -/
def parN (Γ : Ge) (ts vs : List Expr) : Option (List Str) := match mapO nameOf ts with
  | some ((x, l) :: r) => if (!vs.all (constantsAlone 8)) && (!vs.all (foldedForSure 8)) && vs.all plainE && decide (vs.length = ts.length) && (decide (ts.length = 2) || decide (ts.length = 3)) && fnK Γ.sc && ((x, l) :: r).all (fun p => Γ.sc.names.lookup p.1 == some .local && p.2 == l) && decide (((x, l) :: r).map (·.1)).Nodup then some (((x, l) :: r).map (·.1)) else none
  | _ => none
/-- a tuple that is unpacked in the usual way -/
def outName (Γ : Ge) : Expr → Bool
  | .Name x _ => !(Γ.sc.names.lookup x == some .local)
  | _ => true
def tupOk (Γ : Ge) (ts vs : List Expr) : Bool := (ts.any (outName Γ) || !(ts.length == 2 || ts.length == 3)) && decide (vs.length = ts.length)
/-! the clauses of a try -/
def nmC (tb : Tb) (Γ : Ge) (x : Str) : Option Nat := if nmOk x && Γ.glob x then (match tb.gl x with
  | some (.cls c) => some c
  | _ => none) else none
def teC (tb : Tb) (Γ : Ge) : Expr → Option (List Nat)
  | .Name x _ => (nmC tb Γ x).map fun c => [c]
  | .Tuple [.Name x _, .Name y _] _ _ => match nmC tb Γ x, nmC tb Γ y with
    | some a, some b => some [a, b]
    | _, _ => none
  | .Tuple [.Name x _, .Name y _, .Name z _] _ _ => match nmC tb Γ x, nmC tb Γ y, nmC tb Γ z with
    | some a, some b, some c => some [a, b, c]
    | _, _, _ => none
  | _ => none
/-- what stands in a clause's suite: plain things put into names -/
def hotE (Γ : Ge) : Expr → Option Ex
  | .Constant .none _ _ => some (.con .non)
  | .Constant (.bool b) _ _ => some (.con (.bl b))
  | .Constant (.int i) _ _ => some (.con (.int i))
  | .Constant (.str x) _ _ => some (.con (.str x))
  | .Name x _ => if nmOk x && Γ.vis x then (ixOf x Γ.N).map .slot else none
  | .List [] _ => some (.lst [])
  | _ => none
def hotS (Γ : Ge) : Stmt → Option Sm
  | .Pass _ => some .pas
  | .Assign [.Name x _] e _ => if Γ.loc x then (match ixOf x Γ.N, hotE Γ e with
    | some i, some y => some (.asg (.slot i) y)
    | _, _ => none) else none
  | _ => none
def hdC (tb : Tb) (Γ : Ge) : ExceptHandler → Option (List Nat × Option Nat × List Sm)
  | .ExceptHandler (some te) none (b :: suite) _ => (teC tb Γ te).map fun cs => (cs, none, (b :: suite).map fun st => (hotS Γ st).getD .stk)
  | .ExceptHandler (some te) (some n) (b :: suite) _ => if Γ.isl n then (match teC tb Γ te, ixOf n Γ.N with
    | some cs, some i => some (cs, some i, (b :: suite).map fun st => (hotS Γ st).getD .stk)
    | _, _ => none) else none
  | _ => none
mutual
def compS (tb : Tb) : Nat → Ge → Stmt → Option Sm
  | 0, _, _ => none
  | n + 1, Γ, st => match st with
    | .Pass _ => some .pas
    | .Break _ => some .brk
    | .Continue _ => some .cnt
    | .Expr (.Constant (.str _) _ _) _ => some .pas
    | .Expr e _ => if isLc e then none else (compE tb n Γ e).map .exp
    | .Return none _ => some (.ret none)
    | .Return (some e) _ => (compE tb n Γ e).map fun x => .ret (some x)
    | .If c a b _ => match compE tb n Γ c, compSs tb n Γ a, compSs tb n Γ b with
      | some x, some y, some z => some (.ife x y z)
      | _, _, _ => none
    | .While c b [] _ => match compE tb n Γ c, compSs tb n Γ b with
      | some x, some y => some (.whl x y)
      | _, _ => none
    | .For tg it b els _ => if isSet it then none else match compSrc tb n Γ tg it, compTg tb n Γ tg, compSs tb n Γ b, compSs tb n Γ els with
      | some src, some t, some x, some y => some (.for t src x y)
      | _, _, _, _ => none
    | .AugAssign (.Name x _) op e p => if Γ.loc x then (match binOf op, ixOf x Γ.N, compE tb n Γ e with
      | some .add, some i, some y => if Γ.own p then some (.iad i true y) else some (.aug i .add y)
      | some .sub, some i, some y => if Γ.own p then some (.iad i false y) else some (.aug i .sub y)
      | _, _, _ => none) else none
    | .AugAssign (.Attribute o f _) op e _ => match binOf op, compE tb n Γ o, compE tb n Γ e with
      | some .add, some x, some y => some (.fau x f .add y)
      | some .sub, some x, some y => some (.fau x f .sub y)
      | _, _, _ => none
    | .Raise (some (.Call (.Name x _) es [] _)) none _ => if es.all plainE && (nmOk x && Γ.glob x) then (match tb.gl x, mapO (compE tb n Γ) es with
      | some (.cls c), some xs => if (tb.exc c).isSome && !xs.isEmpty then some (.rse c xs) else none
      | _, _ => none) else none
    | .Try body (h :: hds) [] [] _ => match compSs tb n Γ body, mapO (hdC tb Γ) (h :: hds) with
      | some b, some hs => some (.tryS b hs)
      | _, _ => none
    | .Assign [.Name x p] e _ => if Γ.loc x then (match ixOf x Γ.N, compE tb n Γ e with
      | some i, some y => if isLc e then (if swB Γ e (.Name x p) && Γ.isl x && isLc1 e then some (.asg (.slot i) y) else none) else some (.asg (.slot i) y)
      | _, _ => none) else none
    | .Assign [.Subscript o i p] e _ => if plainE i && !isLc e then (match compTg tb n Γ (.Subscript o i p), compE tb n Γ e with
      | some t, some y => some (.asg t y)
      | _, _ => none) else none
    | .Assign [.Attribute o f _] e _ => if !isLc e then (match compE tb n Γ o, compE tb n Γ e with
      | some x, some y => some (.att x f y)
      | _, _ => none) else none
    | .Assign [.Tuple ts tk tp] (.Tuple vs vk vp) _ => if tupOk Γ ts vs then (match compTg tb n Γ (.Tuple ts tk tp), compE tb n Γ (.Tuple vs vk vp) with
        | some t, some y => some (.asg t y)
        | _, _ => none)
      else (match parN Γ ts vs, mapO (compE tb n Γ) vs with
        | some [x, y], some es => (match ixOf x Γ.N, ixOf y Γ.N with
          | some i, some j => some (.par2 i j es)
          | _, _ => none)
        | some [x, y, z], some es => (match ixOf x Γ.N, ixOf y Γ.N, ixOf z Γ.N with
          | some i, some j, some l => some (.par3 i j l es)
          | _, _, _ => none)
        | _, _ => none)
    | .Assign [.Tuple ts tk tp] e _ => if isTL e || isLc e then none else (match compTg tb n Γ (.Tuple ts tk tp), compE tb n Γ e with
      | some t, some y => some (.asg t y)
      | _, _ => none)
    | .Match e mcs _ => match compE tb n Γ e, casesC (compSs tb n Γ) mcs with
      | some x, some (cs, d) => some (.mat x cs d)
      | _, _ => none
    | _ => none
/- what is no part of the language sticks -/
def compSs (tb : Tb) : Nat → Ge → List Stmt → Option (List Sm)
  | 0, _, _ => none
  | n + 1, Γ, sts => some (sts.map fun st => (compS tb n Γ st).getD .stk)
end
end En
set_option maxHeartbeats 4000000
/-! En21: the compiler is right: statements. -/
namespace En
open PySem PySem.Spec PyProof.Rows L2
/-- a body's context -/
structure CtxS (W : Wd) (C : Ec) (k : Nat) (Γ : Ge) (X : Cx) (wx : WX) : Prop where
  c : Ctx W C k Γ X wx
  pass : PassesOwn (model X.prog X.w) X.A X.env X.xe
  stack : X.stack = X.env :: X.outer
  frame : X.env.frame = some X.env.locals
  ex : X.ex = []
section
variable {W : Wd} {C : Ec} {k : Nat} {Γ : Ge} {X : Cx} {wx : WX}
theorem sw_plain {e : Expr} {t : Option Expr} {l : Nat} {env : Env} (h : isLc e = false) : swapsWith e t l env = pure false := by
  cases e <;> first | rfl | cases h
theorem sws_plain {e t : Expr} {l : Nat} {env : Env} (h : isLc e = false) : swapsWithSole [t] e l env = pure false := sw_plain h
theorem sw_lc {e : Expr} {x : Str} {p : Pos} {l : Nat} {env : Env} (hs : env.scope = Γ.sc) (h : swB Γ e (.Name x p) = true) : swapsWith e (some (.Name x p)) l env = pure true := by
  cases e <;> first | cases h | skip
  rename_i elt gens sc pos
  have h' : ((if Γ.sc.kind.isAnnotationScope then ScopeKind.function else Γ.sc.kind) == .function && Γ.sc.names.lookup x == some .local && p.line == pos.line && !(sc.names.any fun (n, k) => n == x && (k == .local || k == .cell))) = true := h
  rw [← hs] at h'
  show pure ((if env.scope.kind.isAnnotationScope then ScopeKind.function else env.scope.kind) == .function && env.scope.names.lookup x == some .local && p.line == pos.line && !(sc.names.any fun (n, k) => n == x && (k == .local || k == .cell))) = pure true
  rw [h']
theorem fm_ne {α β : Type} (f : α → Option β) : ∀ (l : List α), (∃ a ∈ l, f a = none) → (l.filterMap f).length ≠ l.length
  | [], ⟨a, h, _⟩ => by cases h
  | a :: r, ⟨b, hb, hf⟩ => by
    have le : (r.filterMap f).length ≤ r.length := List.length_filterMap_le f r
    cases e : f a with
    | none =>
      rw [List.filterMap_cons_none e, List.length_cons]
      omega
    | some c =>
      rw [List.filterMap_cons_some e, List.length_cons, List.length_cons]
      rcases List.mem_cons.mp hb with h | h
      · rw [h, e] at hf
        cases hf
      · have := fm_ne f r ⟨b, h, hf⟩
        omega
theorem swap_none {ts vs : List Expr} {tk vk : Nat} {tp vp : Pos} {env : Env} (hs : env.scope = Γ.sc) (h : (ts.any (outName Γ) || !(ts.length == 2 || ts.length == 3)) = true) : swappedStores [.Tuple ts tk tp] (.Tuple vs vk vp) env = pure none := by
  unfold swappedStores
  dsimp only
  split
  · rfl
  · rename_i hc
    split
    · rfl
    · split
      · rfl
      · rename_i hn
        exfalso
        rw [Bool.or_eq_true] at h
        rcases h with h | h
        · apply hn
          rw [Bool.or_eq_true]
          refine .inl ?_
          rw [bne_iff_ne]
          refine fm_ne _ _ ?_
          obtain ⟨t, ht, hz⟩ := List.any_eq_true.mp h
          refine ⟨t, ht, ?_⟩
          cases t <;> try rfl
          rename_i x p
          have hz' : (!(Γ.sc.names.lookup x == some .local)) = true := hz
          have e : (env.kindOf x == some NameKind.local) = false := by
            show (env.scope.names.lookup x == some NameKind.local) = false
            rw [hs]
            simpa using hz'
          simp only [e, Bool.false_and, Bool.false_eq_true, if_false]
        · apply hc
          rw [h]
          rfl
theorem swap_ntl {ts : List Expr} {tk : Nat} {tp : Pos} {e : Expr} {env : Env} (h : isTL e = false) : swappedStores [.Tuple ts tk tp] e env = pure none := by
  cases e <;> first | rfl | cases h
theorem mapO_names : ∀ {ts : List Expr} {ns : List (Str × Nat)}, mapO nameOf ts = some ns → ∃ ps : List Pos, ps.map (·.line) = ns.map (·.2) ∧ ts = (ns.zip ps).map fun q => Expr.Name q.1.1 q.2
  | [], ns, h => by
    rw [mapO_nil h]
    exact ⟨[], rfl, rfl⟩
  | t :: ts, ns, h => by
    obtain ⟨b, bs, h1, h2, rfl⟩ := mapO_cons h
    obtain ⟨ps, k1, k2⟩ := mapO_names h2
    cases t <;> first | cases h1 | skip
    rename_i x p
    refine ⟨p :: ps, ?_, ?_⟩
    · rw [List.map_cons, List.map_cons, k1]
    · rw [List.zip_cons_cons, List.map_cons, ← k2]
end
end En
set_option maxHeartbeats 4000000
/-! En22: exchanges; statements. -/
namespace En
open PySem PySem.Spec PyProof.Rows L2
section
variable {W : Wd} {C : Ec} {k : Nat} {Γ : Ge} {X : Cx} {wx : WX}
theorem star_not {e : Expr} (h : plainE e = true) : (match e with
    | .Starred .. => true
    | _ => false) = false := by
  cases e <;> first | rfl | cases h
theorem bk_env {env : Env} {sc : Scope} (hs : env.scope = sc) (h : ((if sc.kind.isAnnotationScope then ScopeKind.function else sc.kind) == .function) = true) : (env.blockKind != .function) = false := by
  unfold Env.blockKind
  rw [hs]
  simp only [bne, h, Bool.not_true]
theorem swap_two {x y : Str} {px py tp vp : Pos} {tk vk : Nat} {a b : Expr} {env : Env} (hb : (env.blockKind != .function) = false) (hx : env.scope.names.lookup x = some .local) (hy : env.scope.names.lookup y = some .local) (hl : (py.line == px.line) = true) (hne : x ≠ y) (ha : plainE a = true) (hb' : plainE b = true)
    (hf : ([a, b].all (foldedForSure 8)) = false) (hc : ([a, b].all (constantsAlone 8)) = false) : swappedStores [.Tuple [.Name x px, .Name y py] tk tp] (.Tuple [a, b] vk vp) env = pure (some [x, y]) := by
  have kx : (env.kindOf x == some NameKind.local) = true := by
    show (env.scope.names.lookup x == _) = true
    rw [hx]
    rfl
  have ky : (env.kindOf y == some NameKind.local) = true := by
    show (env.scope.names.lookup y == _) = true
    rw [hy]
    rfl
  have hll : (px.line == px.line) = true := by simp
  have ed : ([x, y].eraseDups.length != [x, y].length) = false := by
    have h1 : (y == x) = false := by simpa using fun z => hne z.symm
    have h2 : ([x, y] : List Str).eraseDups = [x, y] := by simp [List.eraseDups, List.eraseDupsBy, List.eraseDupsBy.loop, h1]
    rw [h2]
    simp
  unfold swappedStores
  simp only [hb, Option.map, List.head?, Option.getD, Expr.pos, List.filterMap, kx, ky, hl, hll, Bool.and_self, if_true, ed, hf, hc]
  split
  · rename_i h
    simp at h
  · split
    · rename_i h
      exfalso
      obtain ⟨e, he, hz⟩ := List.any_eq_true.mp h
      have hp : plainE e = true := by
        simp only [List.mem_cons, List.mem_nil_iff, or_false] at he
        rcases he with rfl | rfl
        · exact ha
        · exact hb'
      cases e <;> first | exact absurd hz Bool.false_ne_true | exact absurd hp Bool.false_ne_true
    · rfl
theorem swap_three {x y z : Str} {px py pz tp vp : Pos} {tk vk : Nat} {a b c : Expr} {env : Env} (hb : (env.blockKind != .function) = false) (hx : env.scope.names.lookup x = some .local) (hy : env.scope.names.lookup y = some .local) (hz : env.scope.names.lookup z = some .local) (hl : (py.line == px.line) = true) (hl2 : (pz.line == px.line) = true)
    (hxy : x ≠ y) (hxz : x ≠ z) (hyz : y ≠ z) (ha : plainE a = true) (hb' : plainE b = true) (hc' : plainE c = true)
    (hf : ([a, b, c].all (foldedForSure 8)) = false) (hc : ([a, b, c].all (constantsAlone 8)) = false) : swappedStores [.Tuple [.Name x px, .Name y py, .Name z pz] tk tp] (.Tuple [a, b, c] vk vp) env = pure (some [x, y, z]) := by
  have kx : (env.kindOf x == some NameKind.local) = true := by
    show (env.scope.names.lookup x == _) = true
    rw [hx]
    rfl
  have ky : (env.kindOf y == some NameKind.local) = true := by
    show (env.scope.names.lookup y == _) = true
    rw [hy]
    rfl
  have kz : (env.kindOf z == some NameKind.local) = true := by
    show (env.scope.names.lookup z == _) = true
    rw [hz]
    rfl
  have hll : (px.line == px.line) = true := by simp
  have ed : ([x, y, z].eraseDups.length != [x, y, z].length) = false := by
    have h1 : (y == x) = false := by simpa using fun z => hxy z.symm
    have h2 : (z == x) = false := by simpa using fun z => hxz z.symm
    have h3 : (z == y) = false := by simpa using fun z => hyz z.symm
    have h4 : ([x, y, z] : List Str).eraseDups = [x, y, z] := by simp [List.eraseDups, List.eraseDupsBy, List.eraseDupsBy.loop, h1, h2, h3]
    rw [h4]
    simp
  unfold swappedStores
  simp only [hb, Option.map, List.head?, Option.getD, Expr.pos, List.filterMap, kx, ky, kz, hl, hl2, hll, Bool.and_self, if_true, ed, hf, hc]
  split
  · rename_i h
    simp at h
  · split
    · rename_i h
      exfalso
      obtain ⟨e, he, hz⟩ := List.any_eq_true.mp h
      have hp : plainE e = true := by
        simp only [List.mem_cons, List.mem_nil_iff, or_false] at he
        rcases he with rfl | rfl | rfl
        · exact ha
        · exact hb'
        · exact hc'
      cases e <;> first | exact absurd hz Bool.false_ne_true | exact absurd hp Bool.false_ne_true
    · rfl
def SOk (W : Wd) (C : Ec) (k n : Nat) : Prop := ∀ Γ X wx st ir, CtxS W C k Γ X wx → compS C.t n Γ st = some ir → ∀ m, SS W wx X (ex C m ir) st
def SsOk (W : Wd) (C : Ec) (k n : Nat) : Prop := ∀ Γ X wx sts irs, CtxS W C k Γ X wx → compSs C.t n Γ sts = some irs → ∀ m, SSs W wx X (seqsA (ex C m) irs) sts
theorem liftS {st : Stmt} {ir : Sm} (h : ∀ m, SS W wx X (ex C (m + 1) ir) st) : ∀ m, SS W wx X (ex C m ir) st := fun m => by
  cases m with
  | zero => exact ss_stk
  | succ m => exact h m
theorem ss_list {n : Nat} (ih : SOk W C k n) (c : CtxS W C k Γ X wx) : ∀ (sts : List Stmt), ∀ m, SSs W wx X (seqsA (ex C m) (sts.map fun st => (compS C.t n Γ st).getD .stk)) sts
  | [], m => ss_nil
  | st :: sts, m => by
    refine ss_cons ?_ (ss_list ih c sts m)
    show SS W wx X (ex C m ((compS C.t n Γ st).getD .stk)) st
    cases e : compS C.t n Γ st with
    | some b => exact ih Γ X wx st b c e m
    | none =>
      show SS W wx X (ex C m .stk) st
      cases m with
      | zero => exact ss_stk
      | succ m => exact ss_stk
theorem par_ok {ts vs : List Expr} {ns : List Str} (h : parN Γ ts vs = some ns) : ∃ ps : List Pos, ps.length = ns.length ∧ ts = (ns.zip ps).map (fun q => Expr.Name q.1 q.2) ∧ (∀ x ∈ ns, Γ.sc.names.lookup x = some .local) ∧ (∀ p ∈ ps, ∀ q ∈ ps, (p.line == q.line) = true) ∧ ns.Nodup ∧ vs.all plainE = true ∧ vs.all (foldedForSure 8) = false ∧ vs.all (constantsAlone 8) = false ∧ vs.length = ts.length ∧ fnK Γ.sc = true := by
  unfold parN at h
  split at h
  · rename_i x l r hm
    split at h
    · rename_i hc
      cases h
      simp only [Bool.and_eq_true, Bool.not_eq_true', decide_eq_true_eq] at hc
      obtain ⟨⟨⟨⟨⟨⟨⟨c1, c2⟩, c3⟩, c4⟩, c5⟩, c6⟩, c7⟩, c8⟩ := hc
      obtain ⟨ps, k1, k2⟩ := mapO_names hm
      have hlen : ps.length = ((x, l) :: r).length := by
        have := congrArg List.length k1
        simpa using this
      refine ⟨ps, by simpa using hlen, ?_, ?_, ?_, c8, c3, c2, c1, c4, c6⟩
      · rw [k2]
        generalize ((x, l) :: r) = ns
        clear k1 k2 c7 c8 hm hlen
        induction ns generalizing ps with
        | nil => rfl
        | cons n ns ih =>
          cases ps with
          | nil => rfl
          | cons p ps =>
            simp only [List.zip_cons_cons, List.map_cons]
            rw [ih]
      · intro y hy
        obtain ⟨p, hp, rfl⟩ := List.mem_map.mp hy
        have := (List.all_eq_true.mp c7) p hp
        simp only [Bool.and_eq_true, beq_iff_eq] at this
        exact this.1
      · have hall : ∀ p ∈ ps, p.line = l := by
          intro p hp
          have : p.line ∈ ((x, l) :: r).map (·.2) := by
            rw [← k1]
            exact List.mem_map.mpr ⟨p, hp, rfl⟩
          obtain ⟨q, hq, e⟩ := List.mem_map.mp this
          have := (List.all_eq_true.mp c7) q hq
          simp only [Bool.and_eq_true, beq_iff_eq] at this
          rw [← e]
          exact this.2
        intro p hp q hq
        rw [hall p hp, hall q hq]
        simp
    · cases h
  · cases h
end
end En
set_option maxHeartbeats 4000000
/-! En23: the compiler is right: statements; a table of defs. -/
namespace En
open PySem PySem.Spec PyProof.Rows L2
section
variable {W : Wd} {C : Ec} {k : Nat} {Γ : Ge} {X : Cx} {wx : WX}
theorem cE {n : Nat} (c : CtxS W C k Γ X wx) {e : Expr} {ir : Ex} (h : compE C.t n Γ e = some ir) (m : Nat) : SE W wx X (ev C m ir) e ∧ ST W wx X (evT C m ir) e := (all_ok n).1 Γ X wx e ir c.c h m
theorem cT {n : Nat} (c : CtxS W C k Γ X wx) {e : Expr} {t : Tg} (h : compTg C.t n Γ e = some t) (m : Nat) : SG W wx X (tgA C m t) t.slots e := (all_ok n).2.2 Γ X wx e t _ c.c h (fun _ h => h) m
theorem set_step {n : Nat} (c : CtxS W C k Γ X wx) {x : Str} {p pos : Pos} {e : Expr} {i : Nat} {y : Ex} (hl : Γ.loc x = true) (hi : ixOf x Γ.N = some i) (he : compE C.t n Γ e = some y) (hc : isLc e = false) : ∀ m, SS W wx X (ex C m (.asg (.slot i) y)) (.Assign [.Name x p] e pos) := liftS fun m => by
  cases m with
  | zero => exact ⟨fun pins s σ H D I ⟨g, P, st, r, q⟩ => q.elim⟩
  | succ m =>
    obtain ⟨l1, l2⟩ := c.c.loc1 hl
    exact ss_set c.c.nd (by rw [c.c.hN]; exact ixOf_ok hi) l1 (cE c he (m + 1)).1 (sw_plain hc) l2
theorem setLc_step {n : Nat} (c : CtxS W C k Γ X wx) {x : Str} {p pos : Pos} {e : Expr} {i : Nat} {y : Ex} (hl : Γ.isl x = true) (hi : ixOf x Γ.N = some i) (he : compE C.t n Γ e = some y) (hs : swB Γ e (.Name x p) = true) (h1 : isLc1 e = true) : ∀ m, SS W wx X (ex C m (.asg (.slot i) y)) (.Assign [.Name x p] e pos) := liftS fun m => by
  cases m with
  | zero => exact ⟨fun pins s σ H D I ⟨g, P, st, r, q⟩ => q.elim⟩
  | succ m =>
    have hsw := sw_lc (l := pos.line) c.c.sc hs
    cases n with
    | zero => cases he
    | succ n =>
      have hil : X.env.scope.names.lookup x = some .local := by
        rw [c.c.sc]
        unfold Ge.isl at hl
        simpa using hl
      cases e <;> first | cases hs | skip
      rename_i elt gens scope lpos
      unfold compE at he
      split at he <;> first | cases he | skip
      all_goals (rename_i heq; cases heq)
      · cases h1
      rename_i tg iter ifs
      obtain ⟨ihE, ihS, ihT⟩ := all_ok (W := W) (C := C) (k := k) n
      split at he
      · rename_i hb
        simp only [Bool.and_eq_true, Bool.not_eq_true'] at hb
        split at he
        · rename_i src t x' h1 h2 h3
          split at he
          · rename_i ht
            have fin : ∀ {cond : Option Ex}, ((ifs = [] ∧ cond = none) ∨ ∃ e z, ifs = [e] ∧ cond = some z ∧ compE C.t n (Γ.blk scope) e = some z) → y = .lc x' t src cond ((ownOf Γ.N scope).map (·.2)) → SS W wx X (ex C (m + 1 + 1) (.asg (.slot i) y)) (.Assign [.Name x p] (.ListComp elt [⟨tg, iter, ifs, 0⟩] scope lpos) pos) := fun {cond} hc hy => by
              subst hy
              have q := ss_setLc (i := i) (y := x) (py := p) (elt := elt) (tg := tg) (iter := iter) (ifs := ifs) (pos := lpos) (spos := pos) c.c.calm c.c.nd (by rw [c.c.hN]; exact ixOf_ok hi) hil hsw (ihS Γ X wx tg iter src c.c hb.2 h1 m) (own_ok c.c.hN c.c.sc hb.1)
                (a := tgA C m t) (mt := condA (evT C m) cond) (me := (ev C m x').bind toVal)
                (fun s H Ca cl fp => ihT _ _ _ tg t _ (c.c.blk scope s H Ca cl fp) h2 (fun i h => by
                  rw [List.all_eq_true] at ht
                  simpa using ht i h) m) (fun s H Ca cl fp => by
                  rcases hc with ⟨rfl, rfl⟩ | ⟨e, z, rfl, rfl, hz⟩
                  · exact ⟨fun pins s σ H Q I h => pts_nil.run pins s σ H Q I (by
                      obtain ⟨g, P, st, r, q⟩ := h
                      exact q g H (.refl g) r true rfl)⟩
                  · exact pts_one (ihE _ _ _ e z (c.c.blk scope s H Ca cl fp) hz m).2) (fun s H Ca cl fp => sd_of (ihE _ _ _ elt x' (c.c.blk scope s H Ca cl fp) h3 m).1) (foldS_ok hb.2)
              exact q
            split at he
            · cases he
              exact fin (.inl ⟨rfl, rfl⟩) rfl
            · obtain ⟨z, e1, rfl⟩ := Option.map_eq_some_iff.mp he
              exact fin (.inr ⟨_, z, rfl, rfl, e1⟩) rfl
            · cases he
          · cases he
        · cases he
      · cases he
theorem mcs_ok {n : Nat} (ihs : SsOk W C k n) (c : CtxS W C k Γ X wx) (m : Nat) : ∀ {mcs : List MatchCase} {cs : List (List Str × List Sm)} {d : List Sm}, casesC (compSs C.t n Γ) mcs = some (cs, d) → McOk W wx X mcs (cs.map fun p => (p.1, seqsA (ex C m) p.2)) (seqsA (ex C m) d)
  | [], cs, d, h => by
    unfold casesC at h
    cases h
    exact .nil
  | mc :: r, cs, d, h => by
    unfold casesC at h
    split at h
    · rename_i heq
      cases heq
    · rename_i heq
      cases heq
      split at h
      · obtain ⟨d', e1, e2⟩ := Option.map_eq_some_iff.mp h
        cases e2
        exact .dflt (ihs Γ X wx _ _ c e1 m)
      · cases h
    · rename_i heq
      cases heq
      split at h
      · rename_i xs b cs' d' h1 h2 h3
        cases h
        exact .cons h1 (ihs Γ X wx _ b c h2 m) (mcs_ok ihs c m h3)
      · cases h
    · cases h
/-! the clauses -/
theorem nmC_ok {tb : Tb} {x : Str} {cc : Nat} (h : nmC tb Γ x = some cc) : nmOk x = true ∧ Γ.glob x = true ∧ tb.gl x = some (.cls cc) := by
  unfold nmC at h
  split at h
  · rename_i hc
    simp only [Bool.and_eq_true] at hc
    split at h
    · rename_i c' hg
      cases h
      exact ⟨hc.1, hc.2, hg⟩
    · cases h
  · cases h
theorem names_ok (c : CtxS W C k Γ X wx) {x : Str} {cc : Nat} (h : nmC C.t Γ x = some cc) : Names X x (.ref (W.ca cc)) := by
  obtain ⟨h1, h2, h3⟩ := nmC_ok h
  exact ⟨c.c.gl1 h2, (nmOk_ok h1).1, .inl (c.c.wo.glc x cc h3)⟩
theorem teC_ok (c : CtxS W C k Γ X wx) {te : Expr} {cs : List Nat} (h : teC C.t Γ te = some cs) : TstOk X te (cs.map fun c => .ref (W.ca c)) := by
  unfold teC at h
  split at h
  · obtain ⟨a, e, rfl⟩ := Option.map_eq_some_iff.mp h
    exact tst_name (names_ok c e)
  · split at h
    · rename_i a b h1 h2
      cases h
      exact tst_tup2 (names_ok c h1) (names_ok c h2)
    · cases h
  · split at h
    · rename_i a b d h1 h2 h3
      cases h
      exact tst_tup3 (names_ok c h1) (names_ok c h2) (names_ok c h3)
    · cases h
  · cases h
theorem hotE_ok (c : CtxS W C k Γ X wx) {e : Expr} {ir : Ex} (h : hotE Γ e = some ir) (a : Addr) (pn : List (Addr × Obj)) (m : Nat) : SE W wx0 (X.suite a pn) (ev C (m + 1) ir) e := by
  unfold hotE at h
  split at h
  · cases h
    exact se_con pe_non fun g => .non
  · cases h
    exact se_con pe_bl fun g => .bl _
  · cases h
    exact se_con pe_int fun g => .int _
  · cases h
    exact se_con pe_str fun g => .str _
  · split at h
    · rename_i hc
      simp only [Bool.and_eq_true] at hc
      obtain ⟨i, e1, rfl⟩ := Option.map_eq_some_iff.mp h
      obtain ⟨n1, n2⟩ := nmOk_ok hc.1
      exact se_var (X := X.suite a pn) (by show X.N[i]? = _; rw [c.c.hN]; exact ixOf_ok e1) (c.c.vis1 hc.2) n1 n2
    · cases h
  · cases h
    exact se_lst sa_nil
  · cases h
theorem hotE_lc {e : Expr} {ir : Ex} (h : hotE Γ e = some ir) : isLc e = false := by
  unfold hotE at h
  split at h <;> first | rfl | cases h
theorem hotS_ok (c : CtxS W C k Γ X wx) {st : Stmt} {ir : Sm} (h : hotS Γ st = some ir) (a : Addr) (pn : List (Addr × Obj)) : ∀ m, SS W wx0 (X.suite a pn) (ex C m ir) st := by
  unfold hotS at h
  split at h
  · cases h
    exact liftS fun m => ss_pass
  · split at h
    · rename_i hl
      split at h
      · rename_i i y h1 h2
        cases h
        obtain ⟨l1, l2⟩ := c.c.loc1 hl
        refine liftS fun m => ?_
        cases m with
        | zero => exact ⟨fun pins s σ H D I ⟨g, P, st, r, q⟩ => q.elim⟩
        | succ m => exact ss_set (X := X.suite a pn) c.c.nd (by show X.N[i]? = _; rw [c.c.hN]; exact ixOf_ok h1) l1 (hotE_ok c h2 a pn m) (sw_plain (hotE_lc h2)) l2
      · cases h
    · cases h
  · cases h
theorem hotL_ok (c : CtxS W C k Γ X wx) (a : Addr) (pn : List (Addr × Obj)) (m : Nat) : ∀ (sts : List Stmt), SSs W wx0 (X.suite a pn) (seqsA (ex C m) (sts.map fun st => (hotS Γ st).getD .stk)) sts
  | [] => ss_nil
  | st :: sts => by
    refine ss_cons ?_ (hotL_ok c a pn m sts)
    show SS W wx0 (X.suite a pn) (ex C m ((hotS Γ st).getD .stk)) st
    cases e : hotS Γ st with
    | some b => exact hotS_ok c e a pn m
    | none =>
      show SS W wx0 (X.suite a pn) (ex C m .stk) st
      cases m with
      | zero => exact ss_stk
      | succ m => exact ss_stk
theorem hds_ok (c : CtxS W C k Γ X wx) (m : Nat) : ∀ {hds : List ExceptHandler} {hs : List (List Nat × Option Nat × List Sm)}, mapO (hdC C.t Γ) hds = some hs → HsOk X hds ((hs.map fun h => (⟨h.1, h.2.1, seqsA (ex C m) h.2.2⟩ : HdA)).map (HdA.tr W))
  | [], hs, h => by
    rw [mapO_nil h]
    exact .nil
  | hd :: hds, hs, h => by
    obtain ⟨b, bs, h1, h2, rfl⟩ := mapO_cons h
    have ih := hds_ok c m h2
    unfold hdC at h1
    split at h1
    · obtain ⟨cs, e, rfl⟩ := Option.map_eq_some_iff.mp h1
      exact .plain (teC_ok c e) (fun a pn => hotL_ok c a pn m _) ih
    · split at h1
      · rename_i hl
        split at h1
        · rename_i cs i e1 e2
          cases h1
          refine .named (teC_ok c e1) (by rw [c.c.hN]; exact ixOf_ok e2) ?_ (fun a pn => hotL_ok c a pn m _) ih
          show X.env.scope.names.lookup _ = _
          rw [c.c.sc]
          unfold Ge.isl at hl
          simpa using hl
        · cases h1
      · cases h1
    · cases h1
theorem CtxS.tr (c : CtxS W C k Γ X wx) {V : WX} {pn : List (Addr × Obj)} {xe : Value → Shared → Prop} (tk : Takes (X.tr pn xe) V) (ps : PassesOwn (model X.prog X.w) X.A X.env xe) : CtxS W C k Γ (X.tr pn xe) V :=
  ⟨⟨c.c.wo, c.c.hK, c.c.hN, c.c.nd, c.c.sc, c.c.fnl, c.c.calm, c.c.room, tk⟩, ps, c.stack, c.frame, c.ex⟩
theorem iadOk (c : CtxS W C k Γ X wx) (b : Bool) : IadOk W X (k + 1) (iopO b) (C.dispI b) := by
  intro cc call hd
  obtain ⟨f, e1, rfl⟩ := Option.map_eq_some_iff.mp hd
  obtain ⟨m1, fd, ps, F, hl, hb⟩ := c.c.wo.iop cc b f e1
  rw [← c.c.hK] at m1 F hb
  exact ⟨W.fa f, fd, ps, m1, F, hl, hb⟩
theorem st_step {n : Nat} (ih : SOk W C k n) (ihs : SsOk W C k n) : SOk W C k (n + 1) := by
  intro Γ X wx st ir c h
  unfold compS at h
  split at h
  · cases h
    exact liftS fun m => ss_pass
  · cases h
    exact liftS fun m => ss_break
  · cases h
    exact liftS fun m => ss_continue
  · cases h
    exact liftS fun m => ss_doc
  · split at h
    · cases h
    · rename_i hc
      rw [Bool.not_eq_true] at hc
      obtain ⟨x, e1, rfl⟩ := Option.map_eq_some_iff.mp h
      exact liftS fun m => ss_expr (cE c e1 m).1 (sw_plain hc)
  · cases h
    exact liftS fun m => ss_retN
  · obtain ⟨x, e1, rfl⟩ := Option.map_eq_some_iff.mp h
    exact liftS fun m => ss_ret (cE c e1 m).1
  · split at h
    · rename_i x y z h1 h2 h3
      cases h
      exact liftS fun m => ss_if (cE c h1 m).2 (ihs Γ X wx _ y c h2 m) (ihs Γ X wx _ z c h3 m)
    · cases h
  · split at h
    · rename_i x y h1 h2
      cases h
      exact liftS fun m => ss_while c.pass (cE c h1 m).2 (ihs Γ X wx _ y c h2 m)
    · cases h
  · split at h
    · cases h
    · rename_i hi
      rw [Bool.not_eq_true] at hi
      split at h
      · rename_i src t x y h1 h2 h3 h4
        cases h
        exact liftS fun m => ss_for c.pass c.c.calm ((all_ok n).2.1 Γ X wx _ _ src c.c hi h1 m) (cT c h2 m) (ihs Γ X wx _ x c h3 m) (ihs Γ X wx _ y c h4 m) (foldS_ok hi)
      · cases h
  · split at h
    · rename_i hl
      obtain ⟨l1, l2⟩ := c.c.loc1 hl
      split at h
      · rename_i i y h1 h2 h3
        rw [← py_bin h1]
        split at h
        · cases h
          exact liftS fun m => ss_iad (iadOk c true) c.c.room c.c.tk c.c.nd (by rw [c.c.hN]; exact ixOf_ok h2) l1 (sd_of (cE c h3 m).1) l2
        · cases h
          exact liftS fun m => ss_aug (.inl rfl) c.c.nd (by rw [c.c.hN]; exact ixOf_ok h2) l1 (cE c h3 m).1 l2
      · rename_i i y h1 h2 h3
        rw [← py_bin h1]
        split at h
        · cases h
          exact liftS fun m => ss_iad (iadOk c false) c.c.room c.c.tk c.c.nd (by rw [c.c.hN]; exact ixOf_ok h2) l1 (sd_of (cE c h3 m).1) l2
        · cases h
          exact liftS fun m => ss_aug (.inr rfl) c.c.nd (by rw [c.c.hN]; exact ixOf_ok h2) l1 (cE c h3 m).1 l2
      · cases h
    · cases h
  · split at h
    · rename_i x y h1 h2 h3
      cases h
      rw [← py_bin h1]
      exact liftS fun m => ss_fau c.c.hK c.c.wo.flds (.inl rfl) (cE c h2 m).1 (cE c h3 m).1
    · rename_i x y h1 h2 h3
      cases h
      rw [← py_bin h1]
      exact liftS fun m => ss_fau c.c.hK c.c.wo.flds (.inr rfl) (cE c h2 m).1 (cE c h3 m).1
    · cases h
  · split at h
    · rename_i hp
      simp only [Bool.and_eq_true] at hp
      split at h
      · rename_i cc xs hg h1
        split at h
        · rename_i hx
          simp only [Bool.and_eq_true, Bool.not_eq_true'] at hx
          cases h
          obtain ⟨q, hq⟩ := Option.isSome_iff_exists.mp hx.1
          refine liftS fun m => ?_
          show SS W wx X (rseA (C.errA cc (seqA (fun e => (ev C m e).bind toVal) xs))) _
          unfold Ec.errA
          rw [hq]
          exact ss_rse c.c.calm c.c.tk (xmk_step (all_ok n).1 c.c hp.2.1 hp.2.2 hp.1 h1 hx.2 hg hq m)
        · cases h
      · cases h
    · cases h
  · split at h
    · rename_i b hs h1 h2
      cases h
      exact liftS fun m => ss_try c.c.hK c.c.wo.xm c.ex c.stack c.frame c.c.nd c.c.tk (fun V pn xe tk ps => ihs Γ (X.tr pn xe) V _ b (c.tr tk ps) h1 m) (hds_ok c m h2)
    · cases h
  · split at h
    · rename_i hl
      split at h
      · rename_i i y h1 h2
        split at h
        · split at h
          · rename_i hs
            simp only [Bool.and_eq_true] at hs
            cases h
            exact setLc_step c hs.1.2 h1 h2 hs.1.1 hs.2
          · cases h
        · rename_i hc
          rw [Bool.not_eq_true] at hc
          cases h
          exact set_step c hl h1 h2 hc
      · cases h
    · cases h
  · split at h
    · rename_i hc
      simp only [Bool.and_eq_true, Bool.not_eq_true'] at hc
      split at h
      · rename_i t y h1 h2
        cases h
        exact liftS fun m => ss_asg (cE c h2 m).1 (cT c h1 m) (sws_plain hc.2) rfl rfl
      · cases h
    · cases h
  · split at h
    · rename_i hc
      simp only [Bool.not_eq_true'] at hc
      split at h
      · rename_i x y h1 h2
        cases h
        exact liftS fun m => ss_att c.c.hK c.c.wo.flds (cE c h1 m).1 (cE c h2 m).1 (sw_plain hc)
      · cases h
    · cases h
  · rename_i ts tk tp vs vk vp pos
    split at h
    · rename_i ht
      unfold tupOk at ht
      simp only [Bool.and_eq_true] at ht
      split at h
      · rename_i t y h1 h2
        cases h
        exact liftS fun m => ss_asg (cE c h2 m).1 (cT c h1 m) rfl (swap_none c.c.sc ht.1) rfl
      · cases h
    · split at h
      · rename_i x y es h1 h2
        split at h
        · rename_i i j h3 h4
          cases h
          obtain ⟨ps, p1, p2, p3, p4, p5, p6, p7, p8, p9, p10⟩ := par_ok h1
          match ps, p1, p2, p4 with
          | [px, py], _, p2, p4 =>
            subst p2
            match vs, p6, p7, p8, p9, h2 with
            | [a, b], p6, p7, p8, _, h2 =>
              simp only [List.all_cons, List.all_nil, Bool.and_true, Bool.and_eq_true] at p6
              have hne : x ≠ y := by
                intro z
                subst z
                simp at p5
              have hxi := ixOf_ok h3
              have hyi := ixOf_ok h4
              have hij : i ≠ j := by
                intro z
                subst z
                rw [hxi] at hyi
                exact hne (Option.some.inj hyi)
              have lx := p3 x (by simp)
              have ly := p3 y (by simp)
              rw [← c.c.sc] at lx ly
              exact liftS fun m => ss_par c.c.calm c.c.nd (by rw [c.c.hN]; exact hxi) (by rw [c.c.hN]; exact hyi) hij lx ly (sa_list (all_ok n).1 c.c (by simp [p6.1, p6.2]) h2 m) (swap_two (bk_env c.c.sc p10) lx ly (p4 py (by simp) px (by simp)) hne p6.1 p6.2 p7 p8) rfl
        · cases h
      · rename_i x y z es h1 h2
        split at h
        · rename_i i j l h3 h4 h5
          cases h
          obtain ⟨ps, p1, p2, p3, p4, p5, p6, p7, p8, p9, p10⟩ := par_ok h1
          match ps, p1, p2, p4 with
          | [px, py, pz], _, p2, p4 =>
            subst p2
            match vs, p6, p7, p8, p9, h2 with
            | [a, b, d], p6, p7, p8, _, h2 =>
              simp only [List.all_cons, List.all_nil, Bool.and_true, Bool.and_eq_true] at p6
              simp only [List.nodup_cons, List.mem_cons, List.mem_nil_iff, or_false, not_or] at p5
              have hxi := ixOf_ok h3
              have hyi := ixOf_ok h4
              have hzi := ixOf_ok h5
              have dif : ∀ {u v : Str} {a b : Nat}, u ≠ v → Γ.N[a]? = some u → Γ.N[b]? = some v → a ≠ b := fun {u v a b} hne h1 h2 z => by
                subst z
                rw [h1] at h2
                exact hne (Option.some.inj h2)
              have lx := p3 x (by simp)
              have ly := p3 y (by simp)
              have lz := p3 z (by simp)
              rw [← c.c.sc] at lx ly lz
              exact liftS fun m => ss_par3 c.c.calm c.c.nd (by rw [c.c.hN]; exact hxi) (by rw [c.c.hN]; exact hyi) (by rw [c.c.hN]; exact hzi) (dif p5.1.1 hxi hyi) (dif p5.1.2 hxi hzi) (dif p5.2.1 hyi hzi) lx ly lz (sa_list (all_ok n).1 c.c (by simp [p6.1, p6.2.1, p6.2.2]) h2 m)
                (swap_three (bk_env c.c.sc p10) lx ly lz (p4 py (by simp) px (by simp)) (p4 pz (by simp) px (by simp)) p5.1.1 p5.1.2 p5.2.1 p6.1 p6.2.1 p6.2.2 p7 p8) rfl
        · cases h
      · cases h
  · split at h
    · cases h
    · rename_i hc
      simp only [Bool.or_eq_true, not_or, Bool.not_eq_true] at hc
      split at h
      · rename_i t y h1 h2
        cases h
        exact liftS fun m => ss_asg (cE c h2 m).1 (cT c h1 m) (sws_plain hc.2) (swap_ntl hc.1) rfl
      · cases h
  · split at h
    · rename_i x cs d h1 h2
      cases h
      exact liftS fun m => ss_mat (m := nxA) (cE c h1 m).1 (mcs_ok ihs c m h2)
    · cases h
  · cases h
theorem sts_ok (n : Nat) : SOk W C k n ∧ SsOk W C k n := by
  induction n with
  | zero =>
    refine ⟨?_, ?_⟩
    · intro Γ X wx st ir c h
      cases h
    · intro Γ X wx st ir c h
      cases h
  | succ n ih =>
    refine ⟨st_step ih.1 ih.2, ?_⟩
    intro Γ X wx sts irs c h m
    unfold compSs at h
    cases h
    exact ss_list ih.1 c sts m
end
end En
set_option maxHeartbeats 4000000
/-! En24: a table of defs, each at its depth; a law's end. -/
namespace En
open PySem PySem.Spec PyProof.Rows L2
structure Fn where
  N : List Str
  np : Nat
  ir : List Sm
/-- what def f does, k calls deep at most -/
def calT (tb : Tb) (wf fu : Nat) (tab : Nat → Option Fn) : Nat → Nat → List Dat → List Mob → Cou
  | 0 => fun _ _ _ => .stuck
  | 1 => fun _ _ _ => .stuck
  | k + 2 => fun f ds sto => match tab f with
    | some fn => bodyC (seqsA (ex ⟨tb, calT tb wf fu tab (k + 1), calT tb wf fu tab k, wf⟩ fu) fn.ir) fn.N.length ds sto
    | none => .stuck
/-- a def of the table as the text has it -/
structure FnW (W : Wd) (tb : Tb) (f : Nat) (fn : Fn) (fd : FuncData) (ps : List Str) : Prop where
  ob : ∃ (name qual : Str) (params : Arguments) (body : List Stmt) (scope : Scope) (dV kV doc pm cdv ct oc : Value) (an od : Option Addr) (osl : Array (Option Value)) (st : List (Nat × Nat)) (n : Nat),
    fd = PySem.W.fnOf name qual params body scope dV kV doc pm an cdv ct ∧ W.K.lookup (W.fa f) = some ⟨oc, od, .func fd, osl⟩ ∧ PySem.W.codeIn W.K cdv qual = true ∧ FnScope fn.N ps scope ∧ compSs tb n ⟨fn.N, scope, fun _ => true, st⟩ body = some fn.ir
  np : ps.length = fn.np
  bd : ∀ n ks sl, tb.bnd f n ks = some sl → CB W.K fd ps n ks sl
  b2 : ∀ c, (tb.eqm c = some f ∨ ∃ b, tb.iop c b = some f) → ps.length = 2 ∧ ∀ (s : Shared) (u v : Value), W.K.In s.heap → BindsTo s fd ⟨[u, v], []⟩ (ps.zip [u, v])
  b1 : ∀ c m, tb.prop c m = some f → ps.length = 1 ∧ ∀ (s : Shared) (u : Value), W.K.In s.heap → BindsTo s fd ⟨[u], []⟩ (ps.zip [u])
structure Ws (w : World) (W : Wd) (tb : Tb) (tab : Nat → Option Fn) (mg : Str → Option Value) : Prop where
  fn : ∀ f fn, tab f = some fn → ∃ fd ps, FnW W tb f fn fd ps
  has : ∀ f n ks sl, tb.bnd f n ks = some sl → ∃ fn, tab f = some fn
  hasP : ∀ c m f, tb.prop c m = some f → ∃ fn, tab f = some fn
  kp : ∀ f fn, tab f = some fn → PySem.W.keepIn W.K (.ref (W.fa f)) = true
  meth : ∀ c m f, tb.meth c m = some f → Cls W.K (W.ca c) ∧ Meth W.K (W.ca c) m (W.fa f)
  prop : ∀ c m f, tb.prop c m = some f → Cls W.K (W.ca c) ∧ ∃ p, PropOf W.K (W.ca c) m p (W.fa f)
  gl : ∀ x d, tb.gl x = some (.dat d) → ∃ u v, mg x = some u ∧ L2.RelV v u ∧ ∀ g, R W g d v
  glc : ∀ x c, tb.gl x = some (.cls c) → mg x = some (.ref (W.ca c))
  glf : ∀ x f, tb.gl x = some (.fn f) → mg x = some (.ref (W.fa f))
  bl : ∀ x, tb.bl x = true → mg x = none
  flds : FldOk W tb.flds
  wk : Wk W tb.T
  hasE : ∀ c f, tb.eqm c = some f → ∃ fn, tab f = some fn
  ctor : ∀ c f, tb.ctor c = some f → Mk W.K (W.ca c) (W.fa f)
  cmet : ∀ c m f, tb.cmet c m = some f → ∃ mc pa, ClX.CRead W.K (W.ca c) mc ∧ ClX.CMet W.K (W.ca c) mc m pa (W.fa f)
  smet : ∀ c m f, tb.smet c m = some f → ∃ mc, ClX.CRead W.K (W.ca c) mc ∧ SMet W.K (W.ca c) mc m (W.fa f)
  eqm : ∀ c f, tb.eqm c = some f → OEqC W.K (W.ca c) (W.fa f)
  kd : ∀ x kvs, tb.kd x = some kvs → ∃ d, mg x = some (.ref d) ∧ KdOk W w d kvs
  exc : ∀ (P : Program) (base : Heap) (k c : Nat) (q : List (Str × Nat) × Nat), tb.exc c = some q → ErrC P w W.K mg base k (W.ca c) q.1 q.2
  xkw : ∀ (P : Program) (base : Heap) (k c : Nat) (ks : List Str) (js : List Nat) (q : List (Str × Nat) × Nat), tb.xkw c ks = some js → tb.exc c = some q → ErrK P w W.K mg base k (W.ca c) q.1 q.2 ks js
  xf : XfOk W tb.xf
  xm : XmOk W tb.xm
  cco : ∀ c f, tb.cco c = some f → StX.CallO W.K (W.ca c) (W.fa f)
  iop : ∀ c b f, tb.iop c b = some f → IopC W.K (W.ca c) (iopO b) (W.fa f)
  hasI : ∀ c b f, tb.iop c b = some f → ∃ fn, tab f = some fn
section
variable {P : Program} {w : World} {W : Wd} {tb : Tb} {tab : Nat → Option Fn} {mg : Str → Option Value} {wf fu : Nat}
theorem fnG_stuck {base : Heap} {k : Nat} {f : Addr} {fd : FuncData} {ps : List Str} {np : Nat} : FnG P w W.K mg base k f fd ps (spF W np fun _ _ => .stuck) :=
  ⟨fun vs H Q E ⟨_, _, _, _, _, _, _, h⟩ => h.elim, fun A outer s H args Q E _ _ ⟨_, _, _, _, _, _, _, _, _, _, h⟩ => h.elim⟩
theorem calG2 (S : Ws w W tb tab mg) (base : Heap) : ∀ k : Nat, (∀ f fn fd ps, tab f = some fn → FnW W tb f fn fd ps → FnG P w W.K mg base k (W.fa f) fd ps (spF W ps.length (calT tb wf fu tab k f))) ∧ (∀ f fn fd ps, tab f = some fn → FnW W tb f fn fd ps → FnG P w W.K mg base (k + 1) (W.fa f) fd ps (spF W ps.length (calT tb wf fu tab (k + 1) f)))
  | 0 => ⟨fun _ _ _ _ _ _ => fnG_stuck, fun _ _ _ _ _ _ => fnG_stuck⟩
  | k + 1 => by
    obtain ⟨h0, h1⟩ := calG2 S base k
    refine ⟨h1, fun f fn fd ps hf F => ?_⟩
    obtain ⟨name, qual, params, body, scope, dV, kV, doc, pm, cdv, ct, oc, an, od, osl, st, n, e1, lk, hcd, sc, hc⟩ := F.ob
    subst e1
    have e2 : calT tb wf fu tab (k + 1 + 1) f = bodyC (seqsA (ex ⟨tb, calT tb wf fu tab (k + 1), calT tb wf fu tab k, wf⟩ fu) fn.ir) fn.N.length := by
      funext ds sto
      show (match tab f with
        | some fn => bodyC (seqsA (ex ⟨tb, calT tb wf fu tab (k + 1), calT tb wf fu tab k, wf⟩ fu) fn.ir) fn.N.length ds sto
        | none => .stuck) = _
      rw [hf]
    rw [e2]
    refine fnG_of lk hcd sc fun X E x1 x2 x3 x4 x5 x6 x7 x8 x9 x10 x11 x12 x13 x14 x15 => ?_
    have wo : Wo X.prog X.w W ⟨tb, calT tb wf fu tab (k + 1), calT tb wf fu tab k, wf⟩ k X.mg X.base := by
      rw [x1, x2, x4, x5]
      refine ⟨fun f n ks sl hb => ?_, S.meth, fun c m f hp => ?_, S.gl, S.glc, S.glf, S.bl, S.flds, S.wk, fun f n ks sl hb => ?_, S.ctor, S.cmet, S.smet, fun c f he => ?_, S.kd, fun c q h => S.exc P base k c q h, fun c ks js q h h2 => S.xkw P base k c ks js q h h2, S.xf, S.xm, S.cco, fun c b f he => ?_⟩
      · obtain ⟨fn', hf'⟩ := S.has f n ks sl hb
        obtain ⟨fd', ps', F'⟩ := S.fn f fn' hf'
        exact ⟨fd', ps', h1 f fn' fd' ps' hf' F', F'.bd n ks sl hb, S.kp f fn' hf'⟩
      · obtain ⟨fn', hf'⟩ := S.hasP c m f hp
        obtain ⟨fd', ps', F'⟩ := S.fn f fn' hf'
        obtain ⟨b1, b2⟩ := F'.b1 c m hp
        obtain ⟨p1, p2⟩ := S.prop c m f hp
        refine ⟨p1, p2, fd', ps', ?_, b1, b2⟩
        have := h0 f fn' fd' ps' hf' F'
        rw [b1] at this
        exact this
      · obtain ⟨fn', hf'⟩ := S.has f n ks sl hb
        obtain ⟨fd', ps', F'⟩ := S.fn f fn' hf'
        exact ⟨fd', ps', h0 f fn' fd' ps' hf' F', F'.bd n ks sl hb⟩
      · obtain ⟨fn', hf'⟩ := S.hasE c f he
        obtain ⟨fd', ps', F'⟩ := S.fn f fn' hf'
        obtain ⟨b1, b2⟩ := F'.b2 c (.inl he)
        refine ⟨S.eqm c f he, fd', ps', ?_, b1, b2⟩
        have := h0 f fn' fd' ps' hf' F'
        rw [b1] at this
        exact this
      · obtain ⟨fn', hf'⟩ := S.hasI c b f he
        obtain ⟨fd', ps', F'⟩ := S.fn f fn' hf'
        obtain ⟨b1, b2⟩ := F'.b2 c (.inr ⟨b, he⟩)
        refine ⟨S.iop c b f he, fd', ps', ?_, b1, b2⟩
        have := h1 f fn' fd' ps' hf' F'
        rw [b1] at this
        exact this
    exact (sts_ok (W := W) (C := ⟨tb, calT tb wf fu tab (k + 1), calT tb wf fu tab k, wf⟩) (k := k) n).2 ⟨fn.N, scope, fun _ => true, st⟩ X _ body fn.ir
      ⟨⟨wo, x3, x6, by rw [x6]; exact sc.nd, x7, fun _ _ => by rw [x10], x8, x13, x14⟩, x15, x11, x12, x9⟩ hc fu
theorem calG (S : Ws w W tb tab mg) (base : Heap) (k : Nat) {f : Nat} {fn : Fn} {fd : FuncData} {ps : List Str} (hf : tab f = some fn) (F : FnW W tb f fn fd ps) : FnG P w W.K mg base k (W.fa f) fd ps (spF W ps.length (calT tb wf fu tab k f)) := (calG2 S base k).1 f fn fd ps hf F
end
/-! ### a law's end -/
theorem law_callG {P : Program} {w : World} {K : PySem.W.Frag} {mg mb : Str → Option Value} {k : Nat} {fa a : Addr} {fd : FuncData} {x : Str} {sp : Sp} {s₁ : Shared} {vs : List Value} {ns : List Int}
    (KX : K.In s₁.heap) (hns : s₁.heap.Ns mainGlobals mg) (hb : s₁.heap.Ns builtinsNs mb) (hbb : ∀ x : Str, x ≠ "__name__" → mb x = bootBuiltins x) (hlim : s₁.heap.NoLimit) (hg : s₁.gens = #[])
    (ha : s₁.heap.get? a = some { cls := .type "list", data := .seq vs.toArray }) (hi : IntsAre vs ns) (hl : ns.length ≤ sizeLine) (hr : Room k callerA)
    (F : ∀ base : Heap, K.In base → base.Ns mainGlobals mg → FnG P w K mg base k fa fd [x] sp) (hbind : ∀ (s : Shared) (u : Value), BindsTo s fd ⟨[u], []⟩ [(x, u)])
    (hsp : ∀ H : Hp, Only H → SqL K H a (ns.map V.int) → sp [.ref a] H (fun v _ => v = .bl true) fun _ _ _ => False) :
    codeAny (model P w) callerA (.call (.ref fa) ⟨[.ref a], []⟩) (fun r s' => r = .ok (.ret (.bool true)) ∧ OldK s₁.heap s'.heap ∧ s'.os = s₁.os ∧ AllBare s'.gens) s₁ := by
  have room : RoomG k callerA := ⟨hr, rfl⟩
  have rv := vals_ints hi
  -- the heap without what H tracks is the base of the run
  have run : ∀ H : Hp, Only H → SqL K H a (ns.map V.int) → HOk P w H s₁.heap → (∀ b, H b ≠ none → b = a) → (H a ≠ none → K.lookup a = none) →
      codeAny (model P w) callerA (.call (.ref fa) ⟨[.ref a], []⟩) (fun r s' => r = .ok (.ret (.bool true)) ∧ OldK s₁.heap s'.heap ∧ s'.os = s₁.os ∧ AllBare s'.gens) s₁ := by
    intro H only sq hok isa noK
    have free : ∀ {b : Addr} {o : Obj}, s₁.heap.get? b = some o → (∀ its n, o.data ≠ .seq its n) → H b = none := fun {b o} e hd => by
      cases q : H b with
      | none => rfl
      | some u =>
        have hb : b = a := isa b (fun z => by rw [q] at z; cases z)
        rw [hb, ha] at e
        cases e
        exact absurd rfl (hd _ _)
    have ns' : ∀ {b : Addr} {m : Str → Option Value}, s₁.heap.Ns b m → (hidT s₁.heap H).Ns b m := fun {b m} h => by
      obtain ⟨o, es, ep, e, d, r⟩ := h
      exact ⟨o, es, ep, hidT_get e (free e fun its n z => by rw [d] at z; cases z), d, r⟩
    have kin : K.In (hidT s₁.heap H) := fun b o e => by
      refine hidT_get (KX b o e) ?_
      cases q : H b with
      | none => rfl
      | some u =>
        have hb : b = a := isa b (fun z => by rw [q] at z; cases z)
        subst hb
        rw [noK (fun z => by rw [q] at z; cases z)] at e
        cases e
    obtain ⟨mc, l1, l2⟩ := hlim
    have md : Mod K mg (hidT s₁.heap H) := ⟨kin, ns' hns, ⟨mb, ns' hb, hbb⟩, mc, ns' l1, l2⟩
    have env : Env0 P w K mg (hidT s₁.heap H) callerA [] s₁ H := ⟨rfl, md, fun b o e => of_hidT e, Nat.le_of_eq (hidT_size _ _), trivial, fun b hb => (by cases hb), hok, .of_eq hg⟩
    refine codeAny_mono ((F _ kin (ns' hns)).run callerA [] s₁ H ⟨[.ref a], []⟩ [.ref a] [.ref a] _ _ room env (hbind s₁ (.ref a)) (.cons rfl .nil) (hsp H only sq)) fun r s' h => ?_
    cases r with
    | error e =>
      obtain ⟨_, _, _, _, _, _, _, _, _, _, _, _, w⟩ := h
      exact w.elim
    | ok fl =>
      cases fl <;> first | exact False.elim h | skip
      rename_i u
      obtain ⟨v, H', os, bare, un, hok', rel, q⟩ := h
      obtain rfl : v = .bl true := q
      obtain rfl : u = Value.bool true := rel
      refine ⟨rfl, OldK.of_keep fun b o e => ?_, os, bare⟩
      cases q : H b with
      | none => exact un.keep b o e q (by intro z; cases z) (by simp)
      | some u =>
        rcases only b with z | ⟨ob, xs, z⟩
        · rw [q] at z
          cases z
        · obtain ⟨e1, _⟩ := hok b _ z
          obtain ⟨e2, _⟩ := hok' b _ (un.frzs b ob _ z)
          rw [e] at e1
          cases e1
          exact e2
  cases hk : K.lookup a with
  | some o =>
    have e := KX a o hk
    rw [ha] at e
    cases e
    exact run (fun _ => none) (fun _ => .inl rfl) (.inr ⟨_, vs.toArray, _, hk, rfl, rfl, rfl, by rw [List.size_toArray, hi.length]; exact hl, by simpa using rv⟩) (fun b u z => by cases z) (fun b z => absurd rfl z) fun z => absurd rfl z
  | none =>
    have one : ∀ {b : Addr} {u : HO}, (if b = a then some (HO.frz { cls := .type "list", data := .seq vs.toArray } (.lst (ns.map V.int))) else none) = some u → b = a ∧ u = .frz { cls := .type "list", data := .seq vs.toArray } (.lst (ns.map V.int)) := fun {b u} z => by
      split at z
      · cases z
        exact ⟨by assumption, rfl⟩
      · cases z
    refine run (fun b => if b = a then some (.frz { cls := .type "list", data := .seq vs.toArray } (.lst (ns.map V.int))) else none) (fun b => ?_) (.inl (.inr ⟨_, if_pos rfl⟩)) (fun b u z => ?_) (fun b z => ?_) fun _ => hk
    · by_cases hb : b = a
      · exact .inr ⟨_, _, if_pos hb⟩
      · exact .inl (if_neg hb)
    · obtain ⟨rfl, rfl⟩ := one z
      exact ⟨ha, by rw [List.length_map]; exact hl, vs, _, rv, ha⟩
    · by_cases hb : b = a
      · exact hb
      · exact absurd (if_neg hb) z
/-- the law's walk, over a head by facts -/
theorem walkG {l : PySem.W.OpenLaw} {n k : Nat} {q : Program} {loose : List Str} {XP : (Str → Option Value) → Heap → Prop} {YP : World → Heap → Prop} {d : DefRec} {x : Str}
    (hn : l.most = some n) (hn2 : n ≤ sizeLine) (hdf : d.params.defaults = []) (hr : Room k callerA)
    (F : ∀ (w : World) (mg : Str → Option Value) (fa : Addr) (h : Heap), YP w h → h.Ns mainGlobals mg → mg d.name = some (.ref fa) →
      ∃ (K : PySem.W.Frag) (fd : FuncData) (sp : Sp), K.In h ∧ (∀ (s : Shared) (u : Value), BindsTo s fd ⟨[u], []⟩ [(x, u)]) ∧
        (∀ (H : Hp) (a : Addr) (ns : List Int), ns.length ≤ n → Only H → SqL K H a (ns.map V.int) → sp [.ref a] H (fun v _ => v = .bl true) fun _ _ _ => False) ∧
        ∀ base : Heap, K.In base → base.Ns mainGlobals mg → FnG l.prog w K mg base k fa fd [x] sp) :
    PySem.W.WalkO q loose XP YP l.row.toRowW d [] (fun f vs => PySem.call f vs) := by
  refine Att.attach_call hn hdf fun w s₀ s₁ mg mb fa o pm cd doc a vs ns G Y ho hd hcd hmg hobj hints hlen hg => ?_
  obtain ⟨K, fd, sp, KX, hb, hsp, hF⟩ := F w mg fa _ Y G.T.g hmg
  exact law_callG KX G.T.g G.T.b G.T.builtins G.T.nolimit hg hobj hints (Nat.le_trans hlen hn2) hr hF hb fun H hO hS => hsp H a ns hlen hO hS
/-- the law's promise, from what it does in the small language -/
theorem law_sp {W : Wd} {call : List Dat → List Mob → Cou} {H : Hp} {a : Addr} {ns : List Int} (only : Only H) (sq : SqL W.K H a (ns.map V.int)) (h : ∃ sto, call [.scr (ns.map Dat.int)] [] = .ok (.val (.bl true)) sto) : spF W 1 call [.ref a] H (fun v _ => v = .bl true) fun _ _ _ => False := by
  obtain ⟨sto, e⟩ := h
  have rs : ∀ ns : List Int, Rs W ⟨H, fun _ => 0, 0⟩ (ns.map Dat.int) (ns.map V.int) := by
    intro ns
    induction ns with
    | nil => exact .nil
    | cons n ns ih => exact .cons (.int n) ih
  refine ⟨⟨H, fun _ => 0, 0⟩, fun _ => none, [], [.scr (ns.map Dat.int)], ?_, .cons (.scr sq (rs ns)) .nil, rfl, ?_⟩
  · exact ⟨fun _ _ h => h, fun _ _ h => (by cases h), rfl, rfl, fun k o e => (by simp at e), fun j k h => (by simp at h), fun k h => (by simp at h), fun i d e => (by simp at e), fun i o e => (by simp at e), fun i j a ⟨o, e⟩ => (by simp at e)⟩
  · rw [e]
    intro g' H' v l r q
    exact R.blE q
end En
set_option maxHeartbeats 4000000
/-! En25: a head: facts of the module as one Bool; how calls bind. -/
namespace En
open PySem PySem.Spec PyProof.Rows L2
/-- the module's name x is that constant -/
def glB (K : PySem.W.Frag) (x : Str) (d : Dat) : Bool := match PySem.W.nsIn K mainGlobals x with
  | some (some u) => datB K d u
  | _ => false
theorem glB_ok {W : Wd} {h : Heap} {mg : Str → Option Value} {x : Str} {d : Dat} (X : W.K.In h) (G : h.Ns mainGlobals mg) (c : glB W.K x d = true) : ∃ u v, mg x = some u ∧ L2.RelV v u ∧ ∀ g, R W g d v := by
  unfold glB at c
  split at c
  · rename_i u q
    obtain ⟨v, k1, k2⟩ := datB_ok c
    exact ⟨u, v, PySem.W.mg_of X G q, k1, k2⟩
  · cases c
/-! a Hook with a check of one's own -/
def SaysE (ck : PySem.W.Frag → Bool) (fa : List He.Fa) (fn : List He.DefD) (K : PySem.W.Frag) : Prop := (ck K && (He.obsD fa fn K).1, (He.obsD fa fn K).2) = He.valD fn
def obsE (n : Nat) (ck : PySem.W.Frag → Bool) (fa : List He.Fa) (fn : List He.DefD) (g : Addr → Option Obj) : He.AlD := (ck (He.frG g (He.asD g n)) && (He.obsDG n fa fn g).1, (He.obsDG n fa fn g).2)
def hookE (n : Nat) (ck : PySem.W.Frag → Bool) (fa : List He.Fa) (fn : List He.DefD) : PySem.W.Hook where
  α := He.AlD
  obs := fun s => obsE n ck fa fn s.heap.get?
  val := fun _ => He.valD fn
  says := fun _ h => ∃ K : PySem.W.Frag, K.In h ∧ SaysE ck fa fn K
  of := fun _ _ e => ⟨_, He.frG_in, e⟩
  keeps := fun _ _ _ ⟨K, hK, c⟩ k => ⟨K, PySem.W.Frag.In.keeps hK k, c⟩
theorem obsE_eq {n : Nat} {ck : PySem.W.Frag → Bool} {fa : List He.Fa} {fn : List He.DefD} {g : Addr → Option Obj} {s : Shared} (h : ∀ a, g a = s.heap.get? a) : obsE n ck fa fn g = (hookE n ck fa fn).obs s := by
  have e : g = s.heap.get? := funext h
  rw [e] <;> rfl
theorem SaysE.both {ck : PySem.W.Frag → Bool} {fa : List He.Fa} {fn : List He.DefD} {K : PySem.W.Frag} (c : SaysE ck fa fn K) : ck K = true ∧ He.SaysD fa fn K := by
  have c' : (ck K && (He.obsD fa fn K).1, (He.obsD fa fn K).2) = (true, fn.map He.DefD.val) := c
  obtain ⟨c1, c2⟩ := Prod.mk.inj c'
  simp only [Bool.and_eq_true] at c1
  exact ⟨c1.1, Prod.ext c1.2 c2⟩
/-! how calls bind -/
theorem cb_of {K : PySem.W.Frag} {x qual : Str} {params : Arguments} {body : List Stmt} {scope : Scope} {f : Addr} {fd : FuncData} {ps ks : List Str} {n : Nat} {sl : List Sl} (F : FunD K x qual params body scope [] [] f fd) (hl : sl.length = ps.length)
    (h : ∀ (kV doc pm : Value) (an : Option Addr) (cdv ct : Value) (us ws : List Value), us.length = n → ws.length = ks.length → ∃ bs, bindArgs (PySem.W.fnOf x qual params body scope .none kV doc pm an cdv ct) ⟨us, ks.zip ws⟩ = pure (ps.zip bs) ∧ SlV K us ws sl bs) : CB K fd ps n ks sl := by
  obtain ⟨oc, od, dV, kV, doc, pm, an, cdv, ct, osl, rfl, lk, hcd, hD, hK⟩ := F.ex
  rcases hD with ⟨_, rfl⟩ | ⟨e, _⟩
  · refine .inl ⟨fun s us ws _ l1 l2 => ?_, hl⟩
    obtain ⟨bs, e1, e2⟩ := h kV doc pm an cdv ct us ws l1 l2
    exact ⟨bs, .of_eq e1, e2⟩
  · exact absurd rfl e
/-- keyword-only defaults that K holds -/
def KdE (K : PySem.W.Frag) (kV : Value) (kd : List (Str × Dat)) : Bool := match kd with
  | [] => true
  | _ => (match kV with
    | .ref D => kd.all fun q => (match PySem.W.nsIn K D q.1 with
      | some (some u) => datB K q.2 u
      | _ => false)
    | _ => false)
theorem kd_vals {K : PySem.W.Frag} {D : Addr} : ∀ {kd : List (Str × Dat)}, (kd.all fun q => (match PySem.W.nsIn K D q.1 with
      | some (some u) => datB K q.2 u
      | _ => false)) = true → ∃ us : List Value, us.length = kd.length ∧ (∀ (i : Nat) (d : Dat), (kd.map (·.2))[i]? = some d → ∃ u, us[i]? = some u ∧ datB K d u = true) ∧ ∀ q ∈ (kd.map (·.1)).zip us, PySem.W.nsIn K D q.1 = some (some q.2)
  | [], _ => ⟨[], rfl, fun i d h => by simp at h, fun q hq => by cases hq⟩
  | m :: ms, h => by
    rw [List.all_cons, Bool.and_eq_true] at h
    obtain ⟨h1, h2⟩ := h
    obtain ⟨us, l, r, a⟩ := kd_vals (kd := ms) h2
    split at h1
    · rename_i u e
      refine ⟨u :: us, congrArg Nat.succ l, fun i d hd => ?_, fun q hq => ?_⟩
      · cases i with
        | zero =>
          have : m.2 = d := by simpa using hd
          exact ⟨u, rfl, this ▸ h1⟩
        | succ i => exact r i d (by simpa using hd)
      · rcases List.mem_cons.mp (show q ∈ (m.1, u) :: (ms.map (·.1)).zip us from hq) with z | z
        · rw [z]
          exact e
        · exact a q z
    · cases h1
/-- f(e, ..): the keyword-only parameters are left to their defaults -/
theorem cbk_of {K : PySem.W.Frag} {x qual : Str} {params : Arguments} {body : List Stmt} {scope : Scope} {f : Addr} {fd : FuncData} {ps : List Str} {n : Nat} {sl : List Sl} {kd : List (Str × Dat)} (F : FunD K x qual params body scope [] [] f fd) (hk : KdE K fd.kwdefaults kd = true) (hne : kd ≠ []) (hl : sl.length = ps.length)
    (h : ∀ (D : Addr) (doc pm : Value) (an : Option Addr) (cdv ct : Value) (us mv : List Value), us.length = n → mv.length = kd.length →
      ∃ bs, KwChain D ((kd.map (·.1)).zip mv) (bindArgs (PySem.W.fnOf x qual params body scope .none (.ref D) doc pm an cdv ct) ⟨us, []⟩) (ps.zip bs) ∧ ((∀ (i : Nat) (d : Dat), (kd.map (·.2))[i]? = some d → ∃ u, mv[i]? = some u ∧ datB K d u = true) → SlV K us [] sl bs)) : CB K fd ps n [] sl := by
  obtain ⟨oc, od, dV, kV, doc, pm, an, cdv, ct, osl, rfl, lk, hcd, hD, hK⟩ := F.ex
  rcases hD with ⟨_, rfl⟩ | ⟨e, _⟩
  · unfold KdE at hk
    cases kd with
    | nil => exact absurd rfl hne
    | cons q kd =>
      cases kV <;> first | exact absurd hk Bool.false_ne_true | skip
      rename_i D
      obtain ⟨mv, l1, l2, l3⟩ := kd_vals (K := K) (D := D) (kd := q :: kd) hk
      refine .inl ⟨fun s us ws X h1 h2 => ?_, hl⟩
      obtain rfl : ws = [] := List.length_eq_zero_iff.mp h2
      obtain ⟨bs, e1, e2⟩ := h D doc pm an cdv ct us mv h1 l1
      exact ⟨bs, BindsTo.of_looks fun M => KwChain.looks X l3 e1, e2 l2⟩
  · exact absurd rfl e
/-- a def whose last parameter takes what is left over -/
theorem cbs_of {K : PySem.W.Frag} {x qual : Str} {params : Arguments} {body : List Stmt} {scope : Scope} {f : Addr} {fd : FuncData} {ps0 : List Str} {pv : Str} {n : Nat} {sl : List Sl} (F : FunD K x qual params body scope [] [] f fd) (hn : ps0.length ≤ n)
    (hx : ∀ ds xs : List Dat, ds.length = n → permD ds [] sl = some xs → xs = ds.take ps0.length ++ [.tup (ds.drop ps0.length)] ∧ (ds.drop ps0.length).length ≤ sizeLine)
    (h : ∀ (kV doc pm : Value) (an : Option Addr) (cdv ct : Value) (us rest : List Value), us.length = ps0.length → bindArgs (PySem.W.fnOf x qual params body scope .none kV doc pm an cdv ct) ⟨us ++ rest, []⟩ = (newTuple rest >>= fun t => pure (ps0.zip us ++ [(pv, t)]))) : CB K fd (ps0 ++ [pv]) n [] sl := by
  obtain ⟨oc, od, dV, kV, doc, pm, an, cdv, ct, osl, rfl, lk, hcd, hD, hK⟩ := F.ex
  rcases hD with ⟨_, rfl⟩ | ⟨e, _⟩
  · exact .inr ⟨rfl, ⟨ps0, pv, rfl, hn, h kV doc pm an cdv ct, hx⟩⟩
  · exact absurd rfl e
theorem rest0 {n : Nat} (ds xs : List Dat) (_ : ds.length = n) (e : permD ds [] [.rest 0] = some xs) : xs = ds.take 0 ++ [.tup (ds.drop 0)] ∧ (ds.drop 0).length ≤ sizeLine := by
  simp only [permD, Sl.get] at e
  by_cases h : (ds.drop 0).length ≤ sizeLine
  · rw [if_pos h] at e
    cases e
    exact ⟨rfl, h⟩
  · rw [if_neg h] at e
    cases e
theorem rest1 {n : Nat} (ds xs : List Dat) (_ : ds.length = n + 1) (e : permD ds [] [.pos 0, .rest 1] = some xs) : xs = ds.take 1 ++ [.tup (ds.drop 1)] ∧ (ds.drop 1).length ≤ sizeLine := by
  cases ds with
  | nil => simp [permD, Sl.get] at e
  | cons d r =>
    simp only [permD, Sl.get, List.getElem?_cons_zero, List.drop_succ_cons, List.drop_zero] at e
    by_cases h : r.length ≤ sizeLine
    · rw [if_pos h] at e
      cases e
      exact ⟨rfl, h⟩
    · rw [if_neg h] at e
      cases e
/-- n values, no keywords, no defaults -/
def posSl (n : Nat) : List Sl := (List.range n).map .pos
/-- a def of the table, from the head's fact -/
theorem fnW_of {W : Wd} {tb : Tb} {f : Nat} {fn : Fn} {x qual : Str} {params : Arguments} {body : List Stmt} {scope : Scope} {dvs : List V} {kws : List (Str × V)} {fd : FuncData} {ps : List Str} {st : List (Nat × Nat)} {n : Nat} (F : FunD W.K x qual params body scope dvs kws (W.fa f) fd)
    (sc : FnScope fn.N ps scope) (hc : compSs tb n ⟨fn.N, scope, fun _ => true, st⟩ body = some fn.ir) (hp : ps.length = fn.np) (bd : ∀ n ks sl, tb.bnd f n ks = some sl → CB W.K fd ps n ks sl)
  (b2 : ∀ c, (tb.eqm c = some f ∨ ∃ b, tb.iop c b = some f) → ps.length = 2 ∧ ∀ (s : Shared) (u v : Value), W.K.In s.heap → BindsTo s fd ⟨[u, v], []⟩ (ps.zip [u, v]))
  (b1 : ∀ c m, tb.prop c m = some f → ps.length = 1 ∧ ∀ (s : Shared) (u : Value), W.K.In s.heap → BindsTo s fd ⟨[u], []⟩ (ps.zip [u])) : FnW W tb f fn fd ps := by
  obtain ⟨oc, od, dV, kV, doc, pm, an, cdv, ct, osl, e, lk, hcd, hD, hK⟩ := F.ex
  exact ⟨⟨x, qual, params, body, scope, dV, kV, doc, pm, cdv, ct, oc, an, od, osl, st, n, e, lk, hcd, sc, hc⟩, hp, bd, b2, b1⟩
end En
set_option maxHeartbeats 4000000
/-! En26: the evaluator stepped by simp: every continuation has a name, no lambda stands in a state. -/
namespace En
open PySem PySem.Spec PyProof.Rows L2
section
variable {α β : Type}
theorem b_ok {a : α} {s : Stt} {f : α → Ac β} : Out.bind (.ok a s) f = f a s := rfl
theorem b_exc {x : Dat} {s : Stt} {f : α → Ac β} : Out.bind (.exc x s : Out α) f = .exc x s := rfl
theorem a_bind {m : Ac α} {f : α → Ac β} {s : Stt} : Ac.bind m f s = Out.bind (m s) f := rfl
theorem a_ret {a : α} {s : Stt} : Ac.ret a s = .ok a s := rfl
theorem a_opt {a : α} {s : Stt} : Ac.opt (some a) s = .ok a s := rfl
theorem a_nx {s : Stt} : nxA s = .ok .nx s := rfl
end
theorem look_bind {α : Type} {x : Rv} {s : Stt} {f : Vw → Ac α} : Ac.bind (lookA x) f s = match look s x with
    | some w => f w s
    | none => .stuck := by
  unfold Ac.bind lookA
  cases look s x <;> rfl
theorem opt_bind {α β : Type} {o : Option α} {s : Stt} {f : α → Ac β} : Ac.bind (Ac.opt o) f s = match o with
    | some w => f w s
    | none => .stuck := by
  unfold Ac.bind
  cases o <;> rfl
/-! looks -/
def Dat.pln : Dat → Bool
  | .ref _ => false
  | _ => true
def lkB (s : Stt) : Option Slt → Option Vw
  | some (.own o) => some (.mb o)
  | some (.val d) => Vw.of s d
  | _ => none
theorem lk_bor {s : Stt} {i : Nat} : look s (.bor i) = lkB s s.env[i]? := by
  unfold look lkB
  rfl
theorem lkB_own {s : Stt} {o : Mob} : lkB s (some (.own o)) = some (.mb o) := rfl
theorem lkB_val {s : Stt} {d : Dat} : lkB s (some (.val d)) = look s (.val d) := rfl
theorem lk_own {s : Stt} {o : Mob} : look s (.own o) = some (.mb o) := rfl
theorem lk_ref {s : Stt} {n : Nat} : look s (.val (.ref n)) = (s.sto[n]?).map .mb := rfl
theorem lk_non {s : Stt} : look s (.val .non) = some (.dt .non) := rfl
theorem lk_bl {s : Stt} {b : Bool} : look s (.val (.bl b)) = some (.dt (.bl b)) := rfl
theorem lk_int {s : Stt} {i : Int} : look s (.val (.int i)) = some (.dt (.int i)) := rfl
theorem lk_str {s : Stt} {x : Str} : look s (.val (.str x)) = some (.dt (.str x)) := rfl
theorem lk_tup {s : Stt} {x : List Dat} : look s (.val (.tup x)) = some (.dt (.tup x)) := rfl
theorem lk_lst {s : Stt} {x : List Dat} : look s (.val (.lst x)) = some (.dt (.lst x)) := rfl
theorem lk_dct {s : Stt} {x : List (Key × Dat)} : look s (.val (.dct x)) = some (.dt (.dct x)) := rfl
theorem lk_obj {s : Stt} {c : Nat} {x : List (Str × Dat)} : look s (.val (.obj c x)) = some (.dt (.obj c x)) := rfl
theorem lk_err {s : Stt} {c : Nat} {x : List (Str × Dat)} : look s (.val (.err c x)) = some (.dt (.err c x)) := rfl
theorem lk_cls {s : Stt} {c : Nat} : look s (.val (.cls c)) = some (.dt (.cls c)) := rfl
theorem lk_ty {s : Stt} {c : String} : look s (.val (.ty c)) = some (.dt (.ty c)) := rfl
theorem lk_scr {s : Stt} {x : List Dat} : look s (.val (.scr x)) = some (.dt (.scr x)) := rfl
theorem lk_pln {s : Stt} {d : Dat} (h : d.pln = true) : look s (.val d) = some (.dt d) := by
  cases d <;> first | rfl | cases h
theorem v_of {s : Stt} {d : Dat} : Vw.of s d = look s (.val d) := rfl
/-! data of a result -/
def tvB (i : Nat) (s : Stt) : Option Slt → Out Dat
  | some (.own o) => .ok o.dat { s with env := s.env.set i (.val o.dat) }
  | some (.val d) => .ok d s
  | _ => .stuck
theorem tv_val {d : Dat} {s : Stt} : toVal (.val d) s = .ok d s := rfl
theorem tv_own {o : Mob} {s : Stt} : toVal (.own o) s = .ok o.dat s := rfl
theorem tv_bor {i : Nat} {s : Stt} : toVal (.bor i) s = tvB i s s.env[i]? := by
  unfold toVal tvB
  rfl
theorem tvB_own {i : Nat} {env : List Slt} {sto : List Mob} {o : Mob} : tvB i ⟨env, sto⟩ (some (.own o)) = .ok o.dat ⟨env.set i (.val o.dat), sto⟩ := rfl
theorem tvB_val {i : Nat} {s : Stt} {d : Dat} : tvB i s (some (.val d)) = .ok d s := rfl
theorem md_lst {xs : List Dat} : (Mob.lst xs).dat = .lst xs := rfl
theorem md_dct {xs : List (Key × Dat)} : (Mob.dct xs).dat = .dct xs := rfl
theorem md_ins {c : Nat} {xs : List (Str × Dat)} : (Mob.ins c xs).dat = .obj c xs := rfl
/-! lists of expressions -/
def kSq2 (d : Dat) : List Dat → Ac (List Dat) := fun ds s => .ok (d :: ds) s
theorem kSq2_e {d : Dat} {ds : List Dat} {s : Stt} : kSq2 d ds s = .ok (d :: ds) s := rfl
section
variable {C : Ec} {n : Nat} {s : Stt}
abbrev evs (C : Ec) (n : Nat) (es : List Ex) : Ac (List Dat) := seqA (fun e => (ev C n e).bind toVal) es
def sqD (C : Ec) (n : Nat) (es : List Ex) : Ac (List Dat) := seqA (fun e => (ev C n e).bind toVal) es
def kSq1 (C : Ec) (n : Nat) (r : List Ex) (d : Dat) : Ac (List Dat) := fun s => (sqD C n r s).bind (kSq2 d)
theorem sq_nil : sqD C n [] s = .ok [] s := rfl
theorem sq_cons {e : Ex} {r : List Ex} : sqD C n (e :: r) s = ((ev C n e s).bind toVal).bind (kSq1 C n r) := rfl
theorem kSq1_e {r : List Ex} {d : Dat} : kSq1 C n r d s = (sqD C n r s).bind (kSq2 d) := rfl
/-! expressions -/
def slO (i : Nat) (s : Stt) : Option Slt → Out Rv
  | some (.val d) => .ok (.val d) s
  | some (.own _) => .ok (.bor i) s
  | _ => .stuck
theorem slO_val {i : Nat} {d : Dat} : slO i s (some (.val d)) = .ok (.val d) s := rfl
theorem slO_own {i : Nat} {o : Mob} : slO i s (some (.own o)) = .ok (.bor i) s := rfl
theorem e_con {d : Dat} : ev C (n + 1) (.con d) s = .ok (.val d) s := rfl
theorem e_slot {i : Nat} : ev C (n + 1) (.slot i) s = slO i s s.env[i]? := by
  show slotA i s = _
  unfold slotA slO
  rfl
def kTup : List Dat → Ac Rv := fun ds s => if ds.length ≤ sizeLine then .ok (.val (.tup ds)) s else .stuck
def kLst : List Dat → Ac Rv := fun ds s => if ds.length ≤ sizeLine then .ok (.own (.lst ds)) s else .stuck
theorem kTup_e {ds : List Dat} : kTup ds s = if ds.length ≤ sizeLine then .ok (.val (.tup ds)) s else .stuck := rfl
theorem kLst_e {ds : List Dat} : kLst ds s = if ds.length ≤ sizeLine then .ok (.own (.lst ds)) s else .stuck := rfl
theorem ite_ap {α β : Type} {p : Prop} [Decidable p] {f g : α → β} {x : α} : (if p then f else g) x = if p then f x else g x := by
  split <;> rfl
theorem e_tup {es : List Ex} : ev C (n + 1) (.tup es) s = (sqD C n es s).bind kTup := by
  show Ac.bind _ _ s = _
  unfold Ac.bind
  congr 1
  funext ds s
  show (if _ then Ac.ret _ else Ac.stk) s = _
  rw [ite_ap]
  rfl
theorem e_lst {es : List Ex} : ev C (n + 1) (.lst es) s = (sqD C n es s).bind kLst := by
  show Ac.bind _ _ s = _
  unfold Ac.bind
  congr 1
  funext ds s
  show (if _ then Ac.ret _ else Ac.stk) s = _
  rw [ite_ap]
  rfl
def kBin1 (C : Ec) (n : Nat) (op : BOp) (b : Ex) (x : Rv) : Ac Rv := fun s => (ev C n b s).bind (binK op x)
theorem e_bin {op : BOp} {a b : Ex} : ev C (n + 1) (.bin op a b) s = (ev C n a s).bind (kBin1 C n op b) := rfl
theorem kBin1_e {op : BOp} {b : Ex} {x : Rv} : kBin1 C n op b x s = (ev C n b s).bind (binK op x) := rfl
def biO (s : Stt) (op : BOp) : Option Vw → Option Vw → Out Rv
  | some w, some w' => Ac.opt (w.bin op w') s
  | _, _ => .stuck
theorem binK_e {op : BOp} {x y : Rv} : binK op x y s = biO s op (look s x) (look s y) := by
  unfold binK biO
  rw [look_bind]
  cases look s x with
  | none => rfl
  | some w =>
    show Ac.bind (lookA y) _ s = _
    rw [look_bind]
    cases look s y <;> rfl
theorem biO_e {op : BOp} {w w' : Vw} : biO s op (some w) (some w') = Ac.opt (w.bin op w') s := rfl
def kNeg : Rv → Ac Rv := fun x s => match look s x with
  | some (.dt (.int i)) => .ok (.val (.int (-i))) s
  | _ => .stuck
theorem e_neg {a : Ex} : ev C (n + 1) (.neg a) s = (ev C n a s).bind kNeg := by
  show Ac.bind _ _ s = _
  unfold Ac.bind
  congr 1
  funext x s
  unfold kNeg lookA
  cases look s x with
  | none => rfl
  | some w => cases w with
    | dt d => cases d <;> rfl
    | mb o => rfl
def ngO (s : Stt) : Option Vw → Out Rv
  | some (.dt (.int i)) => .ok (.val (.int (-i))) s
  | _ => .stuck
theorem kNeg_e {x : Rv} : kNeg x s = ngO s (look s x) := rfl
theorem ngO_e {i : Int} : ngO s (some (.dt (.int i))) = .ok (.val (.int (-i))) s := rfl
def kCmp1 (C : Ec) (n : Nat) (op : COp) (b : Ex) (x : Rv) : Ac Rv := fun s => (ev C n b s).bind (cmpK op x)
theorem e_cmp {op : COp} {a b : Ex} : ev C (n + 1) (.cmp op a b) s = (ev C n a s).bind (kCmp1 C n op b) := rfl
theorem kCmp1_e {op : COp} {b : Ex} {x : Rv} : kCmp1 C n op b x s = (ev C n b s).bind (cmpK op x) := rfl
/-- a comparison's answer -/
def cmR (s : Stt) : Option Bool → Out Rv
  | some b => .ok (.val (.bl b)) s
  | none => .stuck
def cmO (s : Stt) (op : COp) : Option Vw → Option Vw → Out Rv
  | some w, some w' => cmR s (w.cmp op w')
  | _, _ => .stuck
theorem cmpK_e {op : COp} {x y : Rv} : cmpK op x y s = cmO s op (look s x) (look s y) := by
  unfold cmpK cmO
  rw [look_bind]
  cases look s x with
  | none => rfl
  | some w =>
    show Ac.bind (lookA y) _ s = _
    rw [look_bind]
    cases look s y with
    | none => rfl
    | some w' =>
      show Ac.opt ((w.cmp op w').map _) s = cmR s (w.cmp op w')
      cases w.cmp op w' <;> rfl
theorem cmO_e {op : COp} {w w' : Vw} : cmO s op (some w) (some w') = cmR s (w.cmp op w') := rfl
theorem cmR_e {b : Bool} : cmR s (some b) = .ok (.val (.bl b)) s := rfl
def kChn1 (C : Ec) (n : Nat) (op op' : COp) (b c : Ex) (x : Rv) : Ac Rv := fun s => ((ev C n b s).bind toVal).bind fun d => (lookA x).bind fun w => (lookA (.val d)).bind fun w' => (Ac.opt (w.cmp op w')).bind fun k =>
  if k then (ev C n c).bind fun z => cmpK op' (.val d) z else Ac.ret (.val (.bl false))
theorem e_chn {op op' : COp} {a b c : Ex} : ev C (n + 1) (.chn op op' a b c) s = (ev C n a s).bind (kChn1 C n op op' b c) := rfl
def kChn2 (C : Ec) (n : Nat) (op op' : COp) (c : Ex) (x : Rv) (d : Dat) : Ac Rv := fun s => (cmpK op x (.val d) s).bind fun k => match k with
  | .val (.bl true) => fun s => (ev C n c s).bind (cmpK op' (.val d))
  | .val (.bl false) => fun s => .ok (.val (.bl false)) s
  | _ => fun _ => .stuck
theorem kChn1_e {op op' : COp} {b c : Ex} {x : Rv} : kChn1 C n op op' b c x s = ((ev C n b s).bind toVal).bind (kChn2 C n op op' c x) := by
  unfold kChn1
  congr 1
  funext d s
  unfold kChn2
  rw [cmpK_e, look_bind]
  unfold cmO
  cases look s x with
  | none => rfl
  | some w =>
    show Ac.bind (lookA (.val d)) _ s = _
    rw [look_bind]
    cases look s (.val d) with
    | none => rfl
    | some w' =>
      show Ac.bind (Ac.opt (w.cmp op w')) _ s = Out.bind (cmR s (w.cmp op w')) _
      rw [opt_bind]
      cases w.cmp op w' with
      | none => rfl
      | some k => cases k <;> rfl
def kChn3 (C : Ec) (n : Nat) (op' : COp) (c : Ex) (d : Dat) : Rv → Ac Rv
  | .val (.bl true) => fun s => (ev C n c s).bind (cmpK op' (.val d))
  | .val (.bl false) => fun s => .ok (.val (.bl false)) s
  | _ => fun _ => .stuck
theorem kChn2_e {op op' : COp} {c : Ex} {x : Rv} {d : Dat} : kChn2 C n op op' c x d s = (cmpK op x (.val d) s).bind (kChn3 C n op' c d) := by
  unfold kChn2
  rfl
theorem kChn3_t {op' : COp} {c : Ex} {d : Dat} : kChn3 C n op' c d (.val (.bl true)) s = (ev C n c s).bind (cmpK op' (.val d)) := rfl
theorem kChn3_f {op' : COp} {c : Ex} {d : Dat} : kChn3 C n op' c d (.val (.bl false)) s = .ok (.val (.bl false)) s := rfl
/-! truth -/
def trO (s : Stt) : Option Vw → Out Bool
  | some w => Ac.opt w.truth s
  | none => .stuck
theorem truA_e {x : Rv} : truA x s = trO s (look s x) := by
  unfold truA Ac.bind lookA trO
  cases look s x <;> rfl
theorem trO_e {w : Vw} : trO s (some w) = Ac.opt w.truth s := rfl
def kNot : Bool → Ac Bool := fun k s => .ok (!k) s
theorem kNot_e {k : Bool} : kNot k s = .ok (!k) s := rfl
def kNotV : Bool → Ac Rv := fun k s => .ok (.val (.bl (!k))) s
theorem kNotV_e {k : Bool} : kNotV k s = .ok (.val (.bl (!k))) s := rfl
theorem e_nt {a : Ex} : ev C (n + 1) (.nt a) s = ((ev C n a s).bind truA).bind kNotV := by
  show (ev C n a s).bind _ = _
  cases ev C n a s <;> try rfl
  rename_i x s1
  show Out.bind (lookA x s1) _ = Out.bind (truA x s1) _
  unfold truA Ac.bind lookA
  cases look s1 x with
  | none => rfl
  | some w => cases h : w.truth <;> (unfold Out.bind; simp only [h]; rfl)
def kAnd (C : Ec) (n : Nat) (b : Ex) (x : Rv) : Bool → Ac Rv
  | true => ev C n b
  | false => fun s => .ok x s
def kOr (C : Ec) (n : Nat) (b : Ex) (x : Rv) : Bool → Ac Rv
  | false => ev C n b
  | true => fun s => .ok x s
def kAnd1 (C : Ec) (n : Nat) (b : Ex) (x : Rv) : Ac Rv := fun s => (truA x s).bind (kAnd C n b x)
def kOr1 (C : Ec) (n : Nat) (b : Ex) (x : Rv) : Ac Rv := fun s => (truA x s).bind (kOr C n b x)
theorem kAnd1_e {b : Ex} {x : Rv} : kAnd1 C n b x s = (truA x s).bind (kAnd C n b x) := rfl
theorem kOr1_e {b : Ex} {x : Rv} : kOr1 C n b x s = (truA x s).bind (kOr C n b x) := rfl
theorem kAnd_t {b : Ex} {x : Rv} : kAnd C n b x true s = ev C n b s := rfl
theorem kAnd_f {b : Ex} {x : Rv} : kAnd C n b x false s = .ok x s := rfl
theorem kOr_t {b : Ex} {x : Rv} : kOr C n b x true s = .ok x s := rfl
theorem kOr_f {b : Ex} {x : Rv} : kOr C n b x false s = ev C n b s := rfl
theorem e_and {a b : Ex} : ev C (n + 1) (.and a b) s = (ev C n a s).bind (kAnd1 C n b) := by
  show (ev C n a s).bind _ = _
  congr 1
  funext x s1
  show Out.bind (lookA x s1) _ = Out.bind (truA x s1) _
  unfold truA Ac.bind lookA
  cases look s1 x with
  | none => rfl
  | some w => cases h : w.truth with
    | none => (unfold Out.bind; simp only [h]; rfl)
    | some k => cases k <;> (unfold Out.bind; simp only [h]; rfl)
theorem e_or {a b : Ex} : ev C (n + 1) (.or a b) s = (ev C n a s).bind (kOr1 C n b) := by
  show (ev C n a s).bind _ = _
  congr 1
  funext x s1
  show Out.bind (lookA x s1) _ = Out.bind (truA x s1) _
  unfold truA Ac.bind lookA
  cases look s1 x with
  | none => rfl
  | some w => cases h : w.truth with
    | none => (unfold Out.bind; simp only [h]; rfl)
    | some k => cases k <;> (unfold Out.bind; simp only [h]; rfl)
def kIte (C : Ec) (n : Nat) (a b : Ex) : Bool → Ac Rv
  | true => ev C n a
  | false => ev C n b
theorem kIte_t {a b : Ex} : kIte C n a b true s = ev C n a s := rfl
theorem kIte_f {a b : Ex} : kIte C n a b false s = ev C n b s := rfl
theorem e_ite {c a b : Ex} : ev C (n + 1) (.ite c a b) s = (evT C n c s).bind (kIte C n a b) := by
  show (evT C n c s).bind _ = _
  congr 1
  funext k s1
  cases k <;> rfl
def kTAnd (C : Ec) (n : Nat) (b : Ex) : Bool → Ac Bool
  | true => evT C n b
  | false => fun s => .ok false s
def kTOr (C : Ec) (n : Nat) (b : Ex) : Bool → Ac Bool
  | true => fun s => .ok true s
  | false => evT C n b
def kTIte (C : Ec) (n : Nat) (a b : Ex) : Bool → Ac Bool
  | true => evT C n a
  | false => evT C n b
theorem kTAnd_t {b : Ex} : kTAnd C n b true s = evT C n b s := rfl
theorem kTAnd_f {b : Ex} : kTAnd C n b false s = .ok false s := rfl
theorem kTOr_t {b : Ex} : kTOr C n b true s = .ok true s := rfl
theorem kTOr_f {b : Ex} : kTOr C n b false s = evT C n b s := rfl
theorem kTIte_t {a b : Ex} : kTIte C n a b true s = evT C n a s := rfl
theorem kTIte_f {a b : Ex} : kTIte C n a b false s = evT C n b s := rfl
theorem t_nt {a : Ex} : evT C (n + 1) (.nt a) s = (evT C n a s).bind kNot := rfl
theorem t_and {a b : Ex} : evT C (n + 1) (.and a b) s = (evT C n a s).bind (kTAnd C n b) := by
  show (evT C n a s).bind _ = _
  congr 1
  funext k s1
  cases k <;> rfl
theorem t_or {a b : Ex} : evT C (n + 1) (.or a b) s = (evT C n a s).bind (kTOr C n b) := by
  show (evT C n a s).bind _ = _
  congr 1
  funext k s1
  cases k <;> rfl
theorem t_ite {c a b : Ex} : evT C (n + 1) (.ite c a b) s = (evT C n c s).bind (kTIte C n a b) := by
  show (evT C n c s).bind _ = _
  congr 1
  funext k s1
  cases k <;> rfl
theorem t_con {d : Dat} : evT C (n + 1) (.con d) s = (ev C n (.con d) s).bind truA := rfl
theorem t_slot {i : Nat} : evT C (n + 1) (.slot i) s = (ev C n (.slot i) s).bind truA := rfl
theorem t_cmp {op : COp} {a b : Ex} : evT C (n + 1) (.cmp op a b) s = (ev C n (.cmp op a b) s).bind truA := rfl
theorem t_chn {op op' : COp} {a b c : Ex} : evT C (n + 1) (.chn op op' a b c) s = (ev C n (.chn op op' a b c) s).bind truA := rfl
theorem t_bin {op : BOp} {a b : Ex} : evT C (n + 1) (.bin op a b) s = (ev C n (.bin op a b) s).bind truA := rfl
theorem t_bi {b : Bi} {a : Ex} {es : List Ex} : evT C (n + 1) (.bi b a es) s = (ev C n (.bi b a es) s).bind truA := rfl
theorem t_call {f : Nat} {es zs : List Ex} {sl : List Sl} : evT C (n + 1) (.call f es zs sl) s = (ev C n (.call f es zs sl) s).bind truA := rfl
theorem t_att {e : Ex} {f : Str} : evT C (n + 1) (.att e f) s = (ev C n (.att e f) s).bind truA := rfl
theorem t_prp {e : Ex} {f : Str} : evT C (n + 1) (.prp e f) s = (ev C n (.prp e f) s).bind truA := rfl
theorem t_sub {e i : Ex} : evT C (n + 1) (.sub e i) s = (ev C n (.sub e i) s).bind truA := rfl
theorem t_mth {e : Ex} {m : Mt} {es : List Ex} : evT C (n + 1) (.mth e m es) s = (ev C n (.mth e m es) s).bind truA := rfl
theorem t_mtd {e : Ex} {m : Str} {es zs : List Ex} {ks : List Str} : evT C (n + 1) (.mtd e m es zs ks) s = (ev C n (.mtd e m es zs ks) s).bind truA := rfl
theorem t_lc {e : Ex} {t : Tg} {src : Src} {cond : Option Ex} {own : List Nat} : evT C (n + 1) (.lc e t src cond own) s = (ev C n (.lc e t src cond own) s).bind truA := rfl
/-! reading -/
def atO (fl : Nat → Str → Bool) (f : Str) (s : Stt) : Option Vw → Out Rv
  | some w => Ac.opt (fldK fl w f) s
  | none => .stuck
def kAtt (fl : Nat → Str → Bool) (f : Str) (x : Rv) : Ac Rv := fun s => atO fl f s (look s x)
theorem kAtt_e {fl : Nat → Str → Bool} {f : Str} {x : Rv} : kAtt fl f x s = atO fl f s (look s x) := rfl
theorem atO_e {fl : Nat → Str → Bool} {f : Str} {w : Vw} : atO fl f s (some w) = Ac.opt (fldK fl w f) s := rfl
theorem e_att {e : Ex} {f : Str} : ev C (n + 1) (.att e f) s = (ev C n e s).bind (kAtt C.t.flds f) := by
  show Ac.bind _ _ s = _
  unfold Ac.bind
  congr 1
  funext x s
  unfold kAtt lookA atO
  cases look s x <;> rfl
def sbO (s : Stt) : Option Vw → Option Vw → Out Rv
  | some w, some w' => (match w.sub w' with
    | some d => .ok (.val d) s
    | none => .stuck)
  | _, _ => .stuck
def sbR (s : Stt) : Option Dat → Out Rv
  | some d => .ok (.val d) s
  | none => .stuck
def kSub1 (C : Ec) (n : Nat) (i : Ex) (x : Rv) : Ac Rv := fun s => (ev C n i s).bind (subK x)
theorem e_sub {e i : Ex} : ev C (n + 1) (.sub e i) s = (ev C n e s).bind (kSub1 C n i) := rfl
theorem kSub1_e {i : Ex} {x : Rv} : kSub1 C n i x s = (ev C n i s).bind (subK x) := rfl
theorem subK_e {x y : Rv} : subK x y s = sbO s (look s x) (look s y) := by
  unfold subK sbO
  rw [look_bind]
  cases look s x with
  | none => rfl
  | some w =>
    show Ac.bind (lookA y) _ s = _
    rw [look_bind]
    cases look s y with
    | none => rfl
    | some w' =>
      show Ac.opt ((w.sub w').map _) s = _
      cases h : w.sub w' <;> simp only [h] <;> rfl
theorem sbO_e {w w' : Vw} : sbO s (some w) (some w') = sbR s (w.sub w') := rfl
theorem sbR_e {d : Dat} : sbR s (some d) = .ok (.val d) s := rfl
def inO (s : Stt) : Option Vw → Out Int
  | some (.dt (.int i)) => .ok i s
  | _ => .stuck
theorem intA_e {x : Rv} : intA x s = inO s (look s x) := by
  unfold intA Ac.bind lookA inO
  cases look s x with
  | none => rfl
  | some w => cases w with
    | dt d => cases d <;> rfl
    | mb o => rfl
theorem inO_e {i : Int} : inO s (some (.dt (.int i))) = .ok i s := rfl
def kSome : Int → Ac (Option Int) := fun i s => .ok (some i) s
theorem kSome_e {i : Int} : kSome i s = .ok (some i) s := rfl
def opI (C : Ec) (n : Nat) : Option Ex → Ac (Option Int)
  | none => fun s => .ok none s
  | some e => fun s => ((ev C n e s).bind intA).bind kSome
theorem opI_n : opI C n none s = .ok none s := rfl
theorem opI_s {e : Ex} : opI C n (some e) s = ((ev C n e s).bind intA).bind kSome := rfl
def kSlc1 (C : Ec) (n : Nat) (lo hi : Option Ex) (x : Rv) : Ac Rv := fun s => (opI C n lo s).bind fun l => fun s => (opI C n hi s).bind fun h => slcK x l h
def kSlc2 (C : Ec) (n : Nat) (hi : Option Ex) (x : Rv) (l : Option Int) : Ac Rv := fun s => (opI C n hi s).bind (slcK x l)
theorem e_slc {e : Ex} {lo hi : Option Ex} : ev C (n + 1) (.slc e lo hi) s = (ev C n e s).bind (kSlc1 C n lo hi) := by
  show Ac.bind _ _ s = _
  unfold Ac.bind
  congr 1
  funext x s
  cases lo <;> cases hi <;> rfl
theorem kSlc1_e {lo hi : Option Ex} {x : Rv} : kSlc1 C n lo hi x s = (opI C n lo s).bind (kSlc2 C n hi x) := rfl
theorem kSlc2_e {hi : Option Ex} {x : Rv} {l : Option Int} : kSlc2 C n hi x l s = (opI C n hi s).bind (slcK x l) := rfl
def scO (s : Stt) (l h : Option Int) : Option Vw → Out Rv
  | some w => Ac.opt (w.slc l h) s
  | none => .stuck
theorem slcK_e {x : Rv} {l h : Option Int} : slcK x l h s = scO s l h (look s x) := by
  unfold slcK Ac.bind lookA scO
  cases look s x <;> rfl
theorem scO_e {l h : Option Int} {w : Vw} : scO s l h (some w) = Ac.opt (w.slc l h) s := rfl
def rvO (s : Stt) : Option (List Dat) → Out Rv
  | some xs => .ok (.own (.lst xs.reverse)) s
  | none => .stuck
def kRev (x : Rv) : Ac Rv := fun s => match look s x with
  | some w => rvO s w.lst
  | none => .stuck
theorem e_rev {e : Ex} : ev C (n + 1) (.rev e) s = (ev C n e s).bind kRev := by
  show Ac.bind _ _ s = _
  unfold Ac.bind
  congr 1
  funext x s
  unfold kRev lookA rvO
  cases look s x with
  | none => rfl
  | some w => cases h : w.lst <;> (unfold Out.bind; simp only [h]; rfl)
def rvP (s : Stt) : Option Vw → Out Rv
  | some w => rvO s w.lst
  | none => .stuck
theorem kRev_e {x : Rv} : kRev x s = rvP s (look s x) := rfl
theorem rvP_e {w : Vw} : rvP s (some w) = rvO s w.lst := rfl
theorem rvO_e {xs : List Dat} : rvO s (some xs) = .ok (.own (.lst xs.reverse)) s := rfl
/-! calls -/
def couO (env : List Slt) : Cou → Out Rv
  | .ok r sto => .ok r ⟨env, sto⟩
  | .exc x sto => .exc x ⟨env, sto⟩
  | .stuck => .stuck
theorem couO_ok {env : List Slt} {r : Rv} {sto : List Mob} : couO env (.ok r sto) = .ok r ⟨env, sto⟩ := rfl
theorem couO_exc {env : List Slt} {r : Dat} {sto : List Mob} : couO env (.exc r sto) = .exc r ⟨env, sto⟩ := rfl
theorem couA_e {c : List Dat → List Mob → Cou} {ds : List Dat} {env : List Slt} {sto : List Mob} : couA c ds ⟨env, sto⟩ = couO env (c ds sto) := by
  unfold couA couO
  cases c ds sto <;> rfl
def caO (call : List Dat → List Mob → Cou) (s : Stt) : Option (List Dat) → Out Rv
  | some xs => couA call xs s
  | none => .stuck
theorem caO_e {call : List Dat → List Mob → Cou} {xs : List Dat} : caO call s (some xs) = couA call xs s := rfl
def kCal2 (call : List Dat → List Mob → Cou) (l j : Nat) (sl : List Sl) (ds : List Dat) (zs : List Dat) : Ac Rv := fun s => if ds.length = l ∧ zs.length = j then caO call s (permD ds zs sl) else .stuck
def kCal1 (C : Ec) (n : Nat) (call : List Dat → List Mob → Cou) (l : Nat) (zs : List Ex) (sl : List Sl) (ds : List Dat) : Ac Rv := fun s => (sqD C n zs s).bind (kCal2 call l zs.length sl ds)
theorem e_call {f : Nat} {es zs : List Ex} {sl : List Sl} : ev C (n + 1) (.call f es zs sl) s = (sqD C n es s).bind (kCal1 C n (C.call f) es.length zs sl) := by
  rfl
theorem kCal1_e {call : List Dat → List Mob → Cou} {l : Nat} {zs : List Ex} {sl : List Sl} {ds : List Dat} : kCal1 C n call l zs sl ds s = (sqD C n zs s).bind (kCal2 call l zs.length sl ds) := rfl
theorem kCal2_e {call : List Dat → List Mob → Cou} {l j : Nat} {sl : List Sl} {ds zs : List Dat} : kCal2 call l j sl ds zs s = if ds.length = l ∧ zs.length = j then caO call s (permD ds zs sl) else .stuck := rfl
theorem pm_nil {ds zs : List Dat} : permD ds zs [] = some [] := rfl
def pmC : Option Dat → Option (List Dat) → Option (List Dat)
  | some d, some ds => some (d :: ds)
  | _, _ => none
theorem pm_pos {ds zs : List Dat} {i : Nat} {r : List Sl} : permD ds zs (.pos i :: r) = pmC ds[i]? (permD ds zs r) := by
  show (match ds[i]?, permD ds zs r with
    | some d, some ds' => some (d :: ds')
    | _, _ => none) = _
  unfold pmC
  cases ds[i]? <;> cases permD ds zs r <;> rfl
theorem pm_kw {ds zs : List Dat} {i : Nat} {r : List Sl} : permD ds zs (.kw i :: r) = pmC zs[i]? (permD ds zs r) := by
  show (match zs[i]?, permD ds zs r with
    | some d, some ds' => some (d :: ds')
    | _, _ => none) = _
  unfold pmC
  cases zs[i]? <;> cases permD ds zs r <;> rfl
theorem pm_dft {ds zs : List Dat} {d : Dat} {r : List Sl} : permD ds zs (.dft d :: r) = pmC (some d) (permD ds zs r) := by
  show (match some d, permD ds zs r with
    | some d, some ds' => some (d :: ds')
    | _, _ => none) = _
  unfold pmC
  cases permD ds zs r <;> rfl
theorem pmC_e {d : Dat} {ds : List Dat} : pmC (some d) (some ds) = some (d :: ds) := rfl
def bcO (s : Stt) (T : Tab) (b : Bi) (ds : List Dat) : Option Vw → Out Rv
  | some w => Ac.opt (Vw.bi T b w ds) s
  | none => .stuck
def kBi1 (C : Ec) (n : Nat) (b : Bi) (es : List Ex) (x : Rv) : Ac Rv := fun s => (sqD C n es s).bind (biK C.t.T b x)
theorem e_bi {b : Bi} {a : Ex} {es : List Ex} : ev C (n + 1) (.bi b a es) s = (ev C n a s).bind (kBi1 C n b es) := rfl
theorem kBi1_e {b : Bi} {es : List Ex} {x : Rv} : kBi1 C n b es x s = (sqD C n es s).bind (biK C.t.T b x) := rfl
theorem biK_e {T : Tab} {b : Bi} {x : Rv} {ds : List Dat} : biK T b x ds s = bcO s T b ds (look s x) := by
  unfold biK Ac.bind lookA bcO
  cases look s x <;> rfl
theorem bcO_e {T : Tab} {b : Bi} {ds : List Dat} {w : Vw} : bcO s T b ds (some w) = Ac.opt (Vw.bi T b w ds) s := rfl
/-! methods of built-in kinds -/
def smV (x : Rv) (o : Mob) (i : Nat) (s : Stt) : Option Slt → Out Unit
  | some (.own _) => .ok () { s with env := s.env.set i (.own o) }
  | some (.val (.ref n)) => if n < s.sto.length then .ok () { s with sto := s.sto.set n o } else .stuck
  | _ => .stuck
theorem sm_bor {i : Nat} {o : Mob} : setMob (.bor i) o s = smV (.bor i) o i s s.env[i]? := by
  unfold setMob smV
  rfl
theorem smV_own {x : Rv} {o o' : Mob} {i : Nat} {env : List Slt} {sto : List Mob} : smV x o i ⟨env, sto⟩ (some (.own o')) = .ok () ⟨env.set i (.own o), sto⟩ := rfl
theorem sm_ref {k : Nat} {o : Mob} {env : List Slt} {sto : List Mob} : setMob (.val (.ref k)) o ⟨env, sto⟩ = if k < sto.length then .ok () ⟨env, sto.set k o⟩ else .stuck := rfl
def mtR (x : Rv) (s : Stt) : Option (Option Mob × Rv) → Out Rv
  | some (some o, r) => (setMob x o s).bind fun _ => fun s => .ok r s
  | some (none, r) => .ok r s
  | none => .stuck
def kUnit (r : Rv) : Unit → Ac Rv := fun _ s => .ok r s
theorem kUnit_e {r : Rv} {u : Unit} : kUnit r u s = .ok r s := rfl
theorem mtR_n {x r : Rv} : mtR x s (some (none, r)) = .ok r s := rfl
theorem mtR_s {x r : Rv} {o : Mob} : mtR x s (some (some o, r)) = (setMob x o s).bind (kUnit r) := rfl
def mtO (m : Mt) (x : Rv) (ds : List Dat) (s : Stt) : Option Vw → Out Rv
  | some w => mtR x s (mthV m w ds)
  | none => .stuck
theorem mtO_e {m : Mt} {x : Rv} {ds : List Dat} {w : Vw} : mtO m x ds s (some w) = mtR x s (mthV m w ds) := rfl
theorem mthK_e {m : Mt} {x : Rv} {ds : List Dat} : mthK m x ds s = mtO m x ds s (look s x) := by
  unfold mthK mtO
  rw [look_bind]
  cases look s x with
  | none => rfl
  | some w =>
    show Ac.bind (Ac.opt (mthV m w ds)) _ s = mtR x s (mthV m w ds)
    rw [opt_bind]
    cases mthV m w ds with
    | none => rfl
    | some p =>
      obtain ⟨a, b⟩ := p
      cases a <;> rfl
def kMth1 (C : Ec) (n : Nat) (m : Mt) (es : List Ex) (x : Rv) : Ac Rv := fun s => if (look s x).bind Vw.kind = some (mtTy m) then (sqD C n es s).bind (mthK m x) else .stuck
theorem e_mth {e : Ex} {m : Mt} {es : List Ex} : ev C (n + 1) (.mth e m es) s = (ev C n e s).bind (kMth1 C n m es) := by
  show Ac.bind _ _ s = _
  unfold Ac.bind
  congr 1
  funext x s
  unfold kMth1 lookA
  cases look s x with
  | none => rfl
  | some w =>
    show (if w.kind = some (mtTy m) then _ else Ac.stk) s = if (some w).bind Vw.kind = some (mtTy m) then _ else _
    rw [ite_ap]
    rfl
theorem kMth1_e {m : Mt} {es : List Ex} {x : Rv} : kMth1 C n m es x s = if (look s x).bind Vw.kind = some (mtTy m) then (sqD C n es s).bind (mthK m x) else .stuck := rfl
theorem kd_l {xs : List Dat} : (some (Vw.mb (.lst xs))).bind Vw.kind = some "list" := rfl
theorem kd_d {xs : List (Key × Dat)} : (some (Vw.mb (.dct xs))).bind Vw.kind = some "dict" := rfl
theorem kd_dd {xs : List (Key × Dat)} : (some (Vw.dt (.dct xs))).bind Vw.kind = some "dict" := rfl
theorem kd_s {x : Str} : (some (Vw.dt (.str x))).bind Vw.kind = some "str" := rfl
theorem kn_l {xs : List Dat} : Vw.kind (.mb (.lst xs)) = some "list" := rfl
theorem kn_d {xs : List (Key × Dat)} : Vw.kind (.mb (.dct xs)) = some "dict" := rfl
theorem kn_dd {xs : List (Key × Dat)} : Vw.kind (.dt (.dct xs)) = some "dict" := rfl
theorem kn_s {x : Str} : Vw.kind (.dt (.str x)) = some "str" := rfl
theorem ty_app : mtTy .append = "list" := rfl
theorem ty_pop : mtTy .pop = "list" := rfl
theorem ty_ext : mtTy .extend = "list" := rfl
theorem ty_upp : mtTy .upper = "str" := rfl
theorem ty_spl : mtTy .split = "str" := rfl
theorem ty_joi : mtTy .join = "str" := rfl
theorem ty_rpl : mtTy .replace = "str" := rfl
theorem ty_get : mtTy .get = "dict" := rfl
/-! displays into the store -/
theorem e_sto {e : Ex} : ev C (n + 1) (.sto e) s = (ev C n e s).bind stoA := rfl
theorem stoA_e {o : Mob} {env : List Slt} {sto : List Mob} : stoA (.own o) ⟨env, sto⟩ = .ok (.val (.ref sto.length)) ⟨env, sto ++ [o]⟩ := rfl
/-! dict displays -/
def dcD (C : Ec) (n : Nat) (kvs : List (Ex × Ex)) : Ac (List (Dat × Dat)) := prsA (kvs.map fun p => ((ev C n p.1).bind toVal, (ev C n p.2).bind toVal))
def kDc1 (C : Ec) (n : Nat) (e : Ex) (r : List (Ex × Ex)) (k : Dat) : Ac (List (Dat × Dat)) := fun s => ((ev C n e s).bind toVal).bind fun v => fun s => (dcD C n r s).bind fun ps => fun s => .ok ((k, v) :: ps) s
def kDc2 (C : Ec) (n : Nat) (r : List (Ex × Ex)) (k v : Dat) : Ac (List (Dat × Dat)) := fun s => (dcD C n r s).bind fun ps => fun s => .ok ((k, v) :: ps) s
def kDc3 (k v : Dat) (ps : List (Dat × Dat)) : Ac (List (Dat × Dat)) := fun s => .ok ((k, v) :: ps) s
theorem dc_nil : dcD C n [] s = .ok [] s := rfl
theorem dc_cons {a b : Ex} {r : List (Ex × Ex)} : dcD C n ((a, b) :: r) s = ((ev C n a s).bind toVal).bind (kDc1 C n b r) := rfl
theorem kDc1_e {e : Ex} {r : List (Ex × Ex)} {k : Dat} : kDc1 C n e r k s = ((ev C n e s).bind toVal).bind (kDc2 C n r k) := rfl
theorem kDc2_e {r : List (Ex × Ex)} {k v : Dat} : kDc2 C n r k v s = (dcD C n r s).bind (kDc3 k v) := rfl
theorem kDc3_e {ps : List (Dat × Dat)} {k v : Dat} : kDc3 k v ps s = .ok ((k, v) :: ps) s := rfl
def dcR (s : Stt) : Option (List (Key × Dat)) → Out Rv
  | some kvs => if kvs.length ≤ 15 then .ok (.own (.dct (mergeD [] kvs))) s else .stuck
  | none => .stuck
def kDic (ps : List (Dat × Dat)) : Ac Rv := fun s => dcR s (keysOf ps)
theorem kDic_e {ps : List (Dat × Dat)} : kDic ps s = dcR s (keysOf ps) := rfl
theorem dcR_e {kvs : List (Key × Dat)} : dcR s (some kvs) = if kvs.length ≤ 15 then .ok (.own (.dct (mergeD [] kvs))) s else .stuck := rfl
theorem e_dic0 : ev C (n + 1) (.dic []) s = .ok (.own (.dct [])) s := rfl
theorem e_dic {p : Ex × Ex} {r : List (Ex × Ex)} : ev C (n + 1) (.dic (p :: r)) s = (dcD C n (p :: r) s).bind kDic := by
  show Ac.bind _ _ s = _
  unfold Ac.bind
  congr 1
  funext ps s
  unfold kDic dcR
  cases keysOf ps with
  | none => rfl
  | some kvs =>
    show (if _ then Ac.ret _ else Ac.stk) s = _
    rw [ite_ap]
    rfl
def kyC : Option Key → Dat → Option (List (Key × Dat)) → Option (List (Key × Dat))
  | some k, d, some kvs => some ((k, d) :: kvs)
  | _, _, _ => none
theorem ky_nil : keysOf [] = some [] := rfl
theorem ky_cons {k v : Dat} {r : List (Dat × Dat)} : keysOf ((k, v) :: r) = kyC (kyD k) v (keysOf r) := by
  show (match kyD k, keysOf r with
    | some k, some kvs => some ((k, v) :: kvs)
    | _, _ => none) = _
  unfold kyC
  cases kyD k <;> cases keysOf r <;> rfl
theorem kyC_e {k : Key} {v : Dat} {r : List (Key × Dat)} : kyC (some k) v (some r) = some ((k, v) :: r) := rfl
theorem ky_int {i : Int} : kyD (.int i) = some (.inl i) := rfl
theorem ky_str {x : Str} : kyD (.str x) = some (.inr x) := rfl
/-! comprehensions -/
def kLc (a : Rv → Ac Unit) (mt : Ac Bool) (me : Ac Dat) (own : List Nat) (ds : List Dat) : Ac Rv := fun s => (trnA (stpA a mt me own) [] ds ⟨wipS s.env own, s.sto⟩).bind fun ys => fun s1 => .ok (.own (.lst ys)) { s1 with env := bakS s.env s1.env own }
def kLc2 (env : List Slt) (own : List Nat) (ys : List Dat) : Ac Rv := fun s1 => .ok (.own (.lst ys)) { s1 with env := bakS env s1.env own }
theorem e_lc {e : Ex} {t : Tg} {src : Src} {cond : Option Ex} {own : List Nat} : ev C (n + 1) (.lc e t src cond own) s = (srcA C n src s).bind (kLc (tgA C n t) (condA (evT C n) cond) ((ev C n e).bind toVal) own) := rfl
theorem kLc_e {a : Rv → Ac Unit} {mt : Ac Bool} {me : Ac Dat} {own : List Nat} {ds : List Dat} {env : List Slt} {sto : List Mob} : kLc a mt me own ds ⟨env, sto⟩ = (trnA (stpA a mt me own) [] ds ⟨wipS env own, sto⟩).bind (kLc2 env own) := rfl
theorem kLc2_e {env env1 : List Slt} {sto1 : List Mob} {own : List Nat} {ys : List Dat} : kLc2 env own ys ⟨env1, sto1⟩ = .ok (.own (.lst ys)) ⟨bakS env env1 own, sto1⟩ := rfl
/-! sources -/
theorem s_ex {e : Ex} : srcA C (n + 1) (.ex e) s = walkA (ev C n e) s := rfl
def kWlk (x : Rv) : Ac (List Dat) := fun s => (toVal x s).bind fun d => Ac.opt (walkD d)
def kWlk2 (d : Dat) : Ac (List Dat) := Ac.opt (walkD d)
theorem walkA_e {m : Ac Rv} : walkA m s = (m s).bind kWlk := rfl
theorem kWlk_e {x : Rv} : kWlk x s = (toVal x s).bind kWlk2 := rfl
theorem kWlk2_e {d : Dat} : kWlk2 d s = Ac.opt (walkD d) s := rfl
theorem wd_lst {xs : List Dat} : walkD (.lst xs) = some xs := rfl
theorem wd_tup {xs : List Dat} : walkD (.tup xs) = some xs := rfl
theorem wd_str {x : Str} : walkD (.str x) = some (signs x) := rfl
def kRg1 (d : Dat) : Ac (List Dat) := Ac.opt (rngD [d])
theorem s_rng1 {a : Ex} : srcA C (n + 1) (.rng1 a) s = ((ev C n a s).bind toVal).bind kRg1 := rfl
theorem kRg1_e {j : Int} : kRg1 (.int j) s = if rngOk j then .ok (intsD 0 j.toNat) s else .stuck := by
  show Ac.opt (if rngOk j then some (intsD 0 j.toNat) else none) s = _
  split <;> rfl
def kRg2 (C : Ec) (n : Nat) (b : Ex) (d : Dat) : Ac (List Dat) := fun s => ((ev C n b s).bind toVal).bind fun d' => Ac.opt (rngD [d, d'])
def kRg3 (d d' : Dat) : Ac (List Dat) := Ac.opt (rngD [d, d'])
theorem s_rng2 {a b : Ex} : srcA C (n + 1) (.rng2 a b) s = ((ev C n a s).bind toVal).bind (kRg2 C n b) := rfl
theorem kRg2_e {b : Ex} {d : Dat} : kRg2 C n b d s = ((ev C n b s).bind toVal).bind (kRg3 d) := rfl
theorem kRg3_e {i j : Int} : kRg3 (.int i) (.int j) s = if (rngOk i && rngOk j) = true then .ok (intsD i (j - i).toNat) s else .stuck := by
  show Ac.opt (if _ then some _ else none) s = _
  split <;> rfl
def kEnm (d : Dat) : Ac (List Dat) := Ac.opt (enmK d)
theorem s_enm {a : Ex} : srcA C (n + 1) (.enm a) s = ((ev C n a s).bind toVal).bind kEnm := rfl
theorem kEnm_e {xs : List Dat} : kEnm (.lst xs) s = .ok (enumD 0 xs) s := rfl
def kZip (C : Ec) (n : Nat) (b : Ex) (d : Dat) : Ac (List Dat) := fun s => ((ev C n b s).bind toVal).bind fun d' => Ac.opt (zipK d d')
def kZip2 (d d' : Dat) : Ac (List Dat) := Ac.opt (zipK d d')
theorem s_zip {a b : Ex} : srcA C (n + 1) (.zip a b) s = ((ev C n a s).bind toVal).bind (kZip C n b) := rfl
theorem kZip_e {b : Ex} {d : Dat} : kZip C n b d s = ((ev C n b s).bind toVal).bind (kZip2 d) := rfl
theorem kZip2_e {xs ys : List Dat} : kZip2 (.lst xs) (.lst ys) s = .ok ((xs.zip ys).map fun p => .tpl [p.1, p.2]) s := rfl
/-! targets -/
theorem g_slot {i : Nat} {x : Rv} : tgA C (n + 1) (.slot i) x s = setA i x s := rfl
def kSet (i : Nat) (d : Dat) : Ac Unit := setSlot i (.val d)
theorem setA_val {i : Nat} {d : Dat} {env : List Slt} {sto : List Mob} : setA i (.val d) ⟨env, sto⟩ = .ok () ⟨env.set i (.val d), sto⟩ := rfl
theorem setA_own {i : Nat} {o : Mob} {env : List Slt} {sto : List Mob} : setA i (.own o) ⟨env, sto⟩ = .ok () ⟨env.set i (.own o), sto⟩ := rfl
theorem setA_bor {i j : Nat} : setA i (.bor j) s = (toVal (.bor j) s).bind (kSet i) := rfl
theorem kSet_e {i : Nat} {d : Dat} {env : List Slt} {sto : List Mob} : kSet i d ⟨env, sto⟩ = .ok () ⟨env.set i (.val d), sto⟩ := rfl
def tgsD (C : Ec) (n : Nat) (ts : List Tg) (ds : List Dat) : Ac Unit := tgsA (fun t => tgA C n t) ts ds
def kTgs (C : Ec) (n : Nat) (ts : List Tg) (ds : List Dat) : Unit → Ac Unit := fun _ => tgsD C n ts ds
theorem tgs_nil : tgsD C n [] [] s = .ok () s := rfl
theorem tgs_cons {t : Tg} {ts : List Tg} {d : Dat} {ds : List Dat} : tgsD C n (t :: ts) (d :: ds) s = (tgA C n t (.val d) s).bind (kTgs C n ts ds) := rfl
theorem kTgs_e {ts : List Tg} {ds : List Dat} {u : Unit} : kTgs C n ts ds u s = tgsD C n ts ds s := rfl
def upR (C : Ec) (n : Nat) (ts : List Tg) (s : Stt) : Option (List Dat) → Out Unit
  | some ds => if ds.length = ts.length then tgsD C n ts ds s else .stuck
  | none => .stuck
def upO (C : Ec) (n : Nat) (ts : List Tg) (s : Stt) : Option Vw → Out Unit
  | some w => upR C n ts s w.unp
  | none => .stuck
theorem g_tup {ts : List Tg} {x : Rv} : tgA C (n + 1) (.tup ts) x s = upO C n ts s (look s x) := by
  show unpA ts.length (tgsA (fun t => tgA C n t) ts) x s = _
  unfold unpA upO
  rw [look_bind]
  cases look s x with
  | none => rfl
  | some w =>
    show (match w.unp with
      | some ds => if ds.length = ts.length then tgsA (fun t => tgA C n t) ts ds else Ac.stk
      | none => Ac.stk) s = upR C n ts s w.unp
    cases w.unp with
    | none => rfl
    | some ds =>
      show (if ds.length = ts.length then tgsA (fun t => tgA C n t) ts ds else Ac.stk : Ac Unit) s = _
      rw [ite_ap]
      rfl
theorem upO_e {ts : List Tg} {w : Vw} : upO C n ts s (some w) = upR C n ts s w.unp := rfl
theorem upR_e {ts : List Tg} {ds : List Dat} : upR C n ts s (some ds) = if ds.length = ts.length then tgsD C n ts ds s else .stuck := rfl
def kStp2 (d : Dat) (o : Rv) (k : Rv) : Ac Unit := stpK d o k
def kStp1 (C : Ec) (n : Nat) (i : Ex) (d : Dat) (o : Rv) : Ac Unit := fun s => (ev C n i s).bind (stpK d o)
def kStp0 (C : Ec) (n : Nat) (o i : Ex) (d : Dat) : Ac Unit := fun s => (ev C n o s).bind (kStp1 C n i d)
theorem g_sub {o i : Ex} {x : Rv} : tgA C (n + 1) (.sub o i) x s = (toVal x s).bind (kStp0 C n o i) := rfl
theorem kStp0_e {o i : Ex} {d : Dat} : kStp0 C n o i d s = (ev C n o s).bind (kStp1 C n i d) := rfl
theorem kStp1_e {i : Ex} {d : Dat} {o : Rv} : kStp1 C n i d o s = (ev C n i s).bind (stpK d o) := rfl
def spR (o : Rv) (s : Stt) : Option Mob → Out Unit
  | some o' => setMob o o' s
  | none => .stuck
def spO (d : Dat) (o : Rv) (s : Stt) : Option Vw → Option Vw → Out Unit
  | some kw, some w => spR o s (subO d w kw)
  | _, _ => .stuck
theorem stpK_e {d : Dat} {o k : Rv} : stpK d o k s = spO d o s (look s k) (look s o) := by
  unfold stpK spO
  rw [look_bind]
  cases look s k with
  | none => rfl
  | some kw =>
    show Ac.bind (lookA o) _ s = _
    rw [look_bind]
    cases look s o with
    | none => rfl
    | some w =>
      show Ac.bind (Ac.opt (subO d w kw)) _ s = spR o s (subO d w kw)
      rw [opt_bind]
      cases subO d w kw <;> rfl
theorem spO_e {d : Dat} {o : Rv} {kw w : Vw} : spO d o s (some kw) (some w) = spR o s (subO d w kw) := rfl
theorem spR_e {o : Rv} {o' : Mob} : spR o s (some o') = setMob o o' s := rfl
/-! statements -/
def sqS (C : Ec) (n : Nat) (r : List Sm) : Ac Flw := seqsA (ex C n) r
def kSts (C : Ec) (n : Nat) (r : List Sm) : Flw → Ac Flw
  | .nx => sqS C n r
  | f => fun s => .ok f s
theorem q_nil : sqS C n [] s = .ok .nx s := rfl
theorem q_cons {st : Sm} {r : List Sm} : sqS C n (st :: r) s = (ex C n st s).bind (kSts C n r) := by
  rfl
theorem kSts_nx {r : List Sm} : kSts C n r .nx s = sqS C n r s := rfl
theorem kSts_rt {r : List Sm} {x : Rv} : kSts C n r (.rt x) s = .ok (.rt x) s := rfl
theorem kSts_bk {r : List Sm} : kSts C n r .bk s = .ok .bk s := rfl
theorem kSts_ct {r : List Sm} : kSts C n r .ct s = .ok .ct s := rfl
def kNx : Unit → Ac Flw := fun _ s => .ok .nx s
theorem kNx_e {u : Unit} : kNx u s = .ok .nx s := rfl
def kAsg (C : Ec) (n : Nat) (t : Tg) (x : Rv) : Ac Flw := fun s => (tgA C n t x s).bind kNx
theorem x_asg {t : Tg} {e : Ex} : ex C (n + 1) (.asg t e) s = (ev C n e s).bind (kAsg C n t) := rfl
theorem kAsg_e {t : Tg} {x : Rv} : kAsg C n t x s = (tgA C n t x s).bind kNx := rfl
def kExp (x : Rv) : Ac Flw := fun s => .ok .nx s
theorem kExp_e {x : Rv} : kExp x s = .ok .nx s := rfl
theorem x_exp {e : Ex} : ex C (n + 1) (.exp e) s = (ev C n e s).bind kExp := rfl
theorem x_ret0 : ex C (n + 1) (.ret none) s = .ok (.rt (.val .non)) s := rfl
theorem x_ret {e : Ex} : ex C (n + 1) (.ret (some e)) s = (ev C n e s).bind retA := rfl
theorem retA_val {d : Dat} : retA (.val d) s = .ok (.rt (.val d)) s := rfl
theorem retA_own {o : Mob} : retA (.own o) s = .ok (.rt (.own o)) s := rfl
def rtB (i : Nat) (s : Stt) : Option Slt → Out Flw
  | some (.own o) => .ok (.rt (.own o)) { s with env := s.env.set i .no }
  | some (.val d) => .ok (.rt (.val d)) s
  | _ => .stuck
theorem retA_bor {i : Nat} : retA (.bor i) s = rtB i s s.env[i]? := by
  unfold retA rtB
  rfl
theorem rtB_own {i : Nat} {o : Mob} {env : List Slt} {sto : List Mob} : rtB i ⟨env, sto⟩ (some (.own o)) = .ok (.rt (.own o)) ⟨env.set i .no, sto⟩ := rfl
def kIf (C : Ec) (n : Nat) (a b : List Sm) : Bool → Ac Flw
  | true => sqS C n a
  | false => sqS C n b
theorem kIf_t {a b : List Sm} : kIf C n a b true s = sqS C n a s := rfl
theorem kIf_f {a b : List Sm} : kIf C n a b false s = sqS C n b s := rfl
theorem x_ife {c : Ex} {a b : List Sm} : ex C (n + 1) (.ife c a b) s = (evT C n c s).bind (kIf C n a b) := by
  show (evT C n c s).bind _ = _
  congr 1
  funext k s
  cases k <;> rfl
theorem x_pas : ex C (n + 1) .pas s = .ok .nx s := rfl
theorem x_brk : ex C (n + 1) .brk s = .ok .bk s := rfl
theorem x_cnt : ex C (n + 1) .cnt s = .ok .ct s := rfl
theorem x_whl {c : Ex} {b : List Sm} : ex C (n + 1) (.whl c b) s = whlA (evT C n c) (sqS C n b) C.wf s := rfl
def kFor (C : Ec) (n : Nat) (t : Tg) (b els : List Sm) : List Dat → Ac Flw := forA (tgA C n t) (sqS C n b) (sqS C n els)
theorem kFor_e {t : Tg} {b els : List Sm} {ds : List Dat} : kFor C n t b els ds s = forA (tgA C n t) (sqS C n b) (sqS C n els) ds s := rfl
theorem x_for {t : Tg} {src : Src} {b els : List Sm} : ex C (n + 1) (.for t src b els) s = (srcA C n src s).bind (kFor C n t b els) := rfl
def kPar2 (i j : Nat) (ds : List Dat) : Ac Flw := fun s => match ds with
  | [a, b] => .ok .nx { s with env := (s.env.set i (.val a)).set j (.val b) }
  | _ => .stuck
theorem x_par2 {i j : Nat} {es : List Ex} : ex C (n + 1) (.par2 i j es) s = (sqD C n es s).bind (kPar2 i j) := by
  show Ac.bind _ _ s = _
  unfold Ac.bind
  congr 1
  funext ds s
  unfold kPar2
  match ds with
  | [] => rfl
  | [_] => rfl
  | [_, _] => rfl
  | _ :: _ :: _ :: _ => rfl
theorem kPar2_e {i j : Nat} {a b : Dat} {env : List Slt} {sto : List Mob} : kPar2 i j [a, b] ⟨env, sto⟩ = .ok .nx ⟨(env.set i (.val a)).set j (.val b), sto⟩ := rfl
def kPar3 (i j l : Nat) (ds : List Dat) : Ac Flw := fun s => match ds with
  | [a, b, c] => .ok .nx { s with env := ((s.env.set i (.val a)).set j (.val b)).set l (.val c) }
  | _ => .stuck
theorem x_par3 {i j l : Nat} {es : List Ex} : ex C (n + 1) (.par3 i j l es) s = (sqD C n es s).bind (kPar3 i j l) := by
  show Ac.bind _ _ s = _
  unfold Ac.bind
  congr 1
  funext ds s
  unfold kPar3
  match ds with
  | [] => rfl
  | [_] => rfl
  | [_, _] => rfl
  | [_, _, _] => rfl
  | _ :: _ :: _ :: _ :: _ => rfl
theorem kPar3_e {i j l : Nat} {a b c : Dat} {env : List Slt} {sto : List Mob} : kPar3 i j l [a, b, c] ⟨env, sto⟩ = .ok .nx ⟨((env.set i (.val a)).set j (.val b)).set l (.val c), sto⟩ := rfl
end
/-! loops -/
section
variable {a : Rv → Ac Unit} {mb me : Ac Flw} {s : Stt}
def kFor1 (mb : Ac Flw) (k : Ac Flw) : Unit → Ac Flw := fun _ s => (mb s).bind fun f => match f with
  | .nx => k
  | .ct => k
  | .bk => nxA
  | .rt x => Ac.ret (.rt x)
def kFor2 (k : Ac Flw) : Flw → Ac Flw
  | .nx => k
  | .ct => k
  | .bk => nxA
  | .rt x => Ac.ret (.rt x)
theorem f_nil : forA a mb me [] s = me s := rfl
theorem f_cons {d : Dat} {r : List Dat} : forA a mb me (d :: r) s = (a (.val d) s).bind (kFor1 mb (forA a mb me r)) := by
  show Ac.bind _ _ s = _
  unfold Ac.bind
  congr 1
theorem kFor1_e {k : Ac Flw} {u : Unit} : kFor1 mb k u s = (mb s).bind (kFor2 k) := by
  rfl
theorem kFor2_nx {k : Ac Flw} : kFor2 k .nx s = k s := rfl
theorem kFor2_ct {k : Ac Flw} : kFor2 k .ct s = k s := rfl
theorem kFor2_bk {k : Ac Flw} : kFor2 k .bk s = .ok .nx s := rfl
theorem kFor2_rt {k : Ac Flw} {x : Rv} : kFor2 k (.rt x) s = .ok (.rt x) s := rfl
end
end En
set_option maxHeartbeats 4000000
/-! En27: the operations on written shapes, for simp. -/
namespace En
open PySem PySem.Spec PyProof.Rows L2
theorem szl : sizeLine = 16777216 := rfl
/-! texts -/
theorem map_toNat_inj : ∀ {a b : List Char}, a.map Char.toNat = b.map Char.toNat → a = b
  | [], [], _ => rfl
  | [], _ :: _, h => by cases h
  | _ :: _, [], h => by cases h
  | x :: xs, y :: ys, h => by
    rw [List.map_cons, List.map_cons] at h
    obtain ⟨h1, h2⟩ := List.cons.inj h
    rw [map_toNat_inj h2, Char.toNat_inj.mp h1]
theorem str_inj (a b : String) : (Str.ofString a = Str.ofString b) = (a = b) := by
  refine propext ⟨fun h => ?_, fun h => h ▸ rfl⟩
  rw [Str.ofString_eq_toList, Str.ofString_eq_toList] at h
  have h1 : (a.toList.map Char.toNat).toArray = (b.toList.map Char.toNat).toArray := congrArg Str.cps h
  have h2 := map_toNat_inj (by simpa using congrArg Array.toList h1)
  exact String.toList_inj.mp h2
theorem str_beq (a b : String) : (Str.ofString a == Str.ofString b) = (a == b) := by
  by_cases h : a = b
  · subst h
    rw [beq_self_eq_true, beq_self_eq_true]
  · have : Str.ofString a ≠ Str.ofString b := fun e => h ((str_inj a b).mp e)
    rw [beq_eq_false_iff_ne.mpr this, beq_eq_false_iff_ne.mpr h]
/-! truth -/
theorem tr_non : Vw.truth (.dt .non) = some false := rfl
theorem tr_bl {b : Bool} : Vw.truth (.dt (.bl b)) = some b := rfl
theorem tr_int {i : Int} : Vw.truth (.dt (.int i)) = some (i != 0) := rfl
theorem tr_tup {xs : List Dat} : Vw.truth (.dt (.tup xs)) = some (!xs.isEmpty) := rfl
theorem tr_lst {xs : List Dat} : Vw.truth (.dt (.lst xs)) = some (!xs.isEmpty) := rfl
theorem tr_mls {xs : List Dat} : Vw.truth (.mb (.lst xs)) = some (!xs.isEmpty) := rfl
/-! comparisons -/
theorem cm_eq {w w' : Vw} : Vw.cmp .eq w w' = w.eq w' := rfl
theorem cm_ne {w w' : Vw} : Vw.cmp .ne w w' = (w.eq w').map not := rfl
theorem cm_lt {i j : Int} : Vw.cmp .lt (.dt (.int i)) (.dt (.int j)) = some (decide (i < j)) := rfl
theorem cm_le {i j : Int} : Vw.cmp .le (.dt (.int i)) (.dt (.int j)) = some (decide (i ≤ j)) := rfl
theorem cm_gt {i j : Int} : Vw.cmp .gt (.dt (.int i)) (.dt (.int j)) = some (decide (j < i)) := rfl
theorem cm_ge {i j : Int} : Vw.cmp .ge (.dt (.int i)) (.dt (.int j)) = some (decide (j ≤ i)) := rfl
theorem cm_ltS {i j : Str} : Vw.cmp .lt (.dt (.str i)) (.dt (.str j)) = some (decide (i.cps.toList < j.cps.toList)) := rfl
theorem cm_leS {i j : Str} : Vw.cmp .le (.dt (.str i)) (.dt (.str j)) = some (!decide (j.cps.toList < i.cps.toList)) := rfl
theorem cm_in {w w' : Vw} : Vw.cmp .isin w w' = w'.isin w := rfl
theorem cm_nin {w w' : Vw} : Vw.cmp .notin w w' = (w'.isin w).map not := rfl
theorem cm_isb {a b : Bool} : Vw.cmp .is (.dt (.bl a)) (.dt (.bl b)) = some (decide (a = b)) := rfl
theorem cm_isn {w : Vw} : Vw.cmp .is w (.dt .non) = some w.isNon := by
  unfold Vw.cmp
  cases w with
  | dt d => cases d <;> rfl
  | mb o => rfl
theorem cm_isnn {w : Vw} : Vw.cmp .isnot w (.dt .non) = some (!w.isNon) := by
  unfold Vw.cmp
  cases w with
  | dt d => cases d <;> rfl
  | mb o => rfl
theorem nn_non : Vw.isNon (.dt .non) = true := rfl
theorem nn_bl {b : Bool} : Vw.isNon (.dt (.bl b)) = false := rfl
theorem nn_int {b : Int} : Vw.isNon (.dt (.int b)) = false := rfl
theorem nn_str {b : Str} : Vw.isNon (.dt (.str b)) = false := rfl
theorem nn_tup {b : List Dat} : Vw.isNon (.dt (.tup b)) = false := rfl
theorem nn_lst {b : List Dat} : Vw.isNon (.dt (.lst b)) = false := rfl
theorem nn_obj {c : Nat} {b : List (Str × Dat)} : Vw.isNon (.dt (.obj c b)) = false := rfl
theorem nn_err {c : Nat} {b : List (Str × Dat)} : Vw.isNon (.dt (.err c b)) = false := rfl
theorem nn_mb {o : Mob} : Vw.isNon (.mb o) = false := rfl
theorem eq_dd {d e : Dat} : Vw.eq (.dt d) (.dt e) = if depD d ≤ 60 then eqD d e else none := rfl
theorem eq_ml {xs : List Dat} {e : Dat} : Vw.eq (.mb (.lst xs)) (.dt e) = if depD (.lst xs) ≤ 60 then eqD (.lst xs) e else none := rfl
theorem eq_lm {xs : List Dat} {d : Dat} : Vw.eq (.dt d) (.mb (.lst xs)) = if depD d ≤ 60 then eqD d (.lst xs) else none := rfl
theorem eq_mm {xs ys : List Dat} : Vw.eq (.mb (.lst xs)) (.mb (.lst ys)) = if depD (.lst xs) ≤ 60 then eqD (.lst xs) (.lst ys) else none := rfl
theorem dp_non : depD .non = 0 := rfl
theorem dp_bl {b : Bool} : depD (.bl b) = 0 := rfl
theorem dp_int {b : Int} : depD (.int b) = 0 := rfl
theorem dp_str {b : Str} : depD (.str b) = 0 := rfl
theorem dp_tup {b : List Dat} : depD (.tup b) = depL b + 1 := rfl
theorem dp_lst {b : List Dat} : depD (.lst b) = depL b + 1 := rfl
theorem dl_nil : depL [] = 0 := rfl
theorem dl_cons {d : Dat} {b : List Dat} : depL (d :: b) = max (depD d) (depL b) := rfl
theorem q_nn : eqD .non .non = some true := rfl
theorem q_bb {a b : Bool} : eqD (.bl a) (.bl b) = some (a == b) := rfl
theorem q_ii {a b : Int} : eqD (.int a) (.int b) = some (a == b) := rfl
theorem q_ss {a b : Str} : eqD (.str a) (.str b) = some (a == b) := rfl
theorem q_tt {a b : List Dat} : eqD (.tup a) (.tup b) = eqL a b := rfl
theorem q_ll {a b : List Dat} : eqD (.lst a) (.lst b) = if a.length = b.length then eqL a b else some false := rfl
theorem q_sn {a : Str} : eqD (.str a) .non = some false := rfl
theorem q_ns {a : Str} : eqD .non (.str a) = some false := rfl
theorem q_is {a : Int} {b : Str} : eqD (.int a) (.str b) = some false := rfl
theorem q_si {a : Int} {b : Str} : eqD (.str b) (.int a) = some false := rfl
theorem q_st {a : Str} {b : List Dat} : eqD (.str a) (.tup b) = some false := rfl
theorem q_ts {a : Str} {b : List Dat} : eqD (.tup b) (.str a) = some false := rfl
theorem q_nt {b : List Dat} : eqD .non (.tup b) = some false := rfl
theorem q_tn {b : List Dat} : eqD (.tup b) .non = some false := rfl
theorem q_in {i : Int} : eqD (.int i) .non = some false := rfl
theorem q_ni {i : Int} : eqD .non (.int i) = some false := rfl
def andO : Option Bool → Option Bool → Option Bool
  | some a, some b => some (a && b)
  | _, _ => none
def orO : Option Bool → Option Bool → Option Bool
  | some a, some b => some (a || b)
  | _, _ => none
theorem andO_e {a b : Bool} : andO (some a) (some b) = some (a && b) := rfl
theorem orO_e {a b : Bool} : orO (some a) (some b) = some (a || b) := rfl
theorem ql_nil : eqL [] [] = some true := rfl
theorem ql_nc {y : Dat} {ys : List Dat} : eqL [] (y :: ys) = some false := rfl
theorem ql_cn {y : Dat} {ys : List Dat} : eqL (y :: ys) [] = some false := rfl
theorem ql_cc {x y : Dat} {xs ys : List Dat} : eqL (x :: xs) (y :: ys) = andO (eqD x y) (eqL xs ys) := by
  show (match eqD x y, eqL xs ys with
    | some a, some b => some (a && b)
    | _, _ => none) = _
  unfold andO
  rfl
theorem in_nil {x : Dat} : inL x [] = some false := rfl
theorem in_cons {x y : Dat} {r : List Dat} : inL x (y :: r) = orO (eqD y x) (inL x r) := by
  show (match eqD y x, inL x r with
    | some a, some b => some (a || b)
    | _, _ => none) = _
  unfold orO
  rfl
theorem in_tup {xs : List Dat} {d : Dat} : Vw.isin (.dt (.tup xs)) (.dt d) = if depL xs ≤ 60 then inL d xs else none := rfl
theorem in_lst {xs : List Dat} {d : Dat} : Vw.isin (.dt (.lst xs)) (.dt d) = if depL xs ≤ 60 then inL d xs else none := rfl
theorem in_mls {xs : List Dat} {d : Dat} : Vw.isin (.mb (.lst xs)) (.dt d) = if depL xs ≤ 60 then inL d xs else none := rfl
theorem in_sgn {z : Str} {k : Nat} : Vw.isin (.dt (.str z)) (.dt (.str ⟨#[k]⟩)) = some (decide (k ∈ z.cps.toList)) := rfl
theorem in_mdS {kvs : List (Key × Dat)} {c : Str} : Vw.isin (.mb (.dct kvs)) (.dt (.str c)) = some (getK kvs (.inr c)).isSome := rfl
theorem in_dS {kvs : List (Key × Dat)} {c : Str} : Vw.isin (.dt (.dct kvs)) (.dt (.str c)) = some (getK kvs (.inr c)).isSome := rfl
/-! numbers, sums -/
theorem bi_ii {op : BOp} {i j : Int} : Vw.bin op (.dt (.int i)) (.dt (.int j)) = (binI op i j).map fun k => .val (.int k) := by
  cases op <;> rfl
def mpI : Option Int → Option Rv := Option.map fun k => .val (.int k)
theorem bn_ii {op : BOp} {i j : Int} : Vw.bin op (.dt (.int i)) (.dt (.int j)) = mpI (binI op i j) := bi_ii
theorem mpI_e {k : Int} : mpI (some k) = some (.val (.int k)) := rfl
theorem ib_add {i j : Int} : binI .add i j = some (i + j) := rfl
theorem ib_sub {i j : Int} : binI .sub i j = some (i - j) := rfl
theorem ib_mul {i j : Int} : binI .mul i j = if mulOk i j then some (i * j) else none := rfl
theorem ib_fdiv {i j : Int} : binI .fdiv i j = if 0 < j ∧ j < 1073741824 then some (i / j) else none := rfl
theorem ib_mod {i j : Int} : binI .mod i j = if 0 < j then some (i % j) else none := rfl
theorem ib_pow {i j : Int} : binI .pow i j = if 0 ≤ j ∧ j ≤ 1000000 ∧ i.natAbs < 2 ^ 64 then some (i ^ j.toNat) else none := rfl
theorem pw18 : binI .pow 10 18 = some 1000000000000000000 := by rfl
theorem pw30 : binI .pow 10 30 = some 1000000000000000000000000000000 := by rfl
theorem pw40 : binI .pow 10 40 = some 10000000000000000000000000000000000000000 := by rfl
theorem bn_ss {a b : Str} : Vw.bin .add (.dt (.str a)) (.dt (.str b)) = if a.length + b.length ≤ sizeLine then some (.val (.str (a ++ b))) else none := rfl
theorem bn_tt {a b : List Dat} : Vw.bin .add (.dt (.tup a)) (.dt (.tup b)) = if a.length + b.length ≤ sizeLine then some (.val (.tup (a ++ b))) else none := rfl
theorem bn_sm {a b : List Dat} : Vw.bin .add (.dt (.scr a)) (.mb (.lst b)) = if a.length + b.length ≤ sizeLine then some (.own (.lst (a ++ b))) else none := rfl
theorem bn_ll {a b : List Dat} : Vw.bin .add (.dt (.lst a)) (.dt (.lst b)) = if a.length + b.length ≤ sizeLine then some (.own (.lst (a ++ b))) else none := rfl
theorem bn_lm {a b : List Dat} : Vw.bin .add (.dt (.lst a)) (.mb (.lst b)) = if a.length + b.length ≤ sizeLine then some (.own (.lst (a ++ b))) else none := rfl
theorem bn_ml {a b : List Dat} : Vw.bin .add (.mb (.lst a)) (.dt (.lst b)) = if a.length + b.length ≤ sizeLine then some (.own (.lst (a ++ b))) else none := rfl
theorem bn_mm {a b : List Dat} : Vw.bin .add (.mb (.lst a)) (.mb (.lst b)) = if a.length + b.length ≤ sizeLine then some (.own (.lst (a ++ b))) else none := rfl
theorem bn_xl {a : List Dat} {k : Int} : Vw.bin .mul (.dt (.lst a)) (.dt (.int k)) = if repOk a.length k then some (.own (.lst (List.replicate k.toNat a).flatten)) else none := rfl
theorem bn_xm {a : List Dat} {k : Int} : Vw.bin .mul (.mb (.lst a)) (.dt (.int k)) = if repOk a.length k then some (.own (.lst (List.replicate k.toNat a).flatten)) else none := rfl
/-! lengths, items, slices -/
theorem ln_str {x : Str} : Vw.len (.dt (.str x)) = if x.length ≤ sizeLine then some x.length else none := rfl
theorem ln_tup {x : List Dat} : Vw.len (.dt (.tup x)) = some x.length := rfl
theorem ln_lst {x : List Dat} : Vw.len (.dt (.lst x)) = some x.length := rfl
theorem ln_mls {x : List Dat} : Vw.len (.mb (.lst x)) = some x.length := rfl
theorem ln_mdc {x : List (Key × Dat)} : Vw.len (.mb (.dct x)) = some x.length := rfl
theorem sb_str {x : Str} {k : Int} : Vw.sub (.dt (.str x)) (.dt (.int k)) = if x.length ≤ sizeLine then (atI x.cps.toList k).map fun c => .str ⟨#[c]⟩ else none := rfl
theorem sb_tup {xs : List Dat} {k : Int} : Vw.sub (.dt (.tup xs)) (.dt (.int k)) = atI xs k := rfl
theorem sb_lst {xs : List Dat} {k : Int} : Vw.sub (.dt (.lst xs)) (.dt (.int k)) = atI xs k := rfl
theorem sb_mls {xs : List Dat} {k : Int} : Vw.sub (.mb (.lst xs)) (.dt (.int k)) = atI xs k := rfl
theorem sb_dcS {xs : List (Key × Dat)} {k : Str} : Vw.sub (.dt (.dct xs)) (.dt (.str k)) = getK xs (.inr k) := rfl
theorem sb_mdS {xs : List (Key × Dat)} {k : Str} : Vw.sub (.mb (.dct xs)) (.dt (.str k)) = getK xs (.inr k) := rfl
theorem sc_str {x : Str} {lo hi : Option Int} : Vw.slc (.dt (.str x)) lo hi = if x.length ≤ sizeLine then some (.val (.str (cutS x lo hi))) else none := rfl
theorem sc_tup {x : List Dat} {lo hi : Option Int} : Vw.slc (.dt (.tup x)) lo hi = some (.val (.tup (cutD x lo hi))) := rfl
theorem sc_lst {x : List Dat} {lo hi : Option Int} : Vw.slc (.dt (.lst x)) lo hi = some (.own (.lst (cutD x lo hi))) := rfl
theorem sc_mls {x : List Dat} {lo hi : Option Int} : Vw.slc (.mb (.lst x)) lo hi = some (.own (.lst (cutD x lo hi))) := rfl
theorem at_0 {α : Type} {x : α} {r : List α} : atI (x :: r) 0 = some x := by
  unfold atI ixN
  simp
theorem at_s {α : Type} {x : α} {r : List α} {i : Int} (h : 0 < i) : atI (x :: r) i = atI r (i - 1) := by
  unfold atI ixN
  simp only [List.length_cons, Int.natCast_add, Int.natCast_one]
  by_cases hi : i < r.length + 1
  · rw [if_pos (by omega : 0 ≤ i), if_pos hi, if_pos (by omega : 0 ≤ i - 1), if_pos (by omega : i - 1 < r.length)]
    have e : i.toNat = (i - 1).toNat + 1 := by omega
    show (x :: r)[i.toNat]? = r[(i - 1).toNat]?
    rw [e, List.getElem?_cons_succ]
  · rw [if_pos (by omega : 0 ≤ i), if_neg hi, if_pos (by omega : 0 ≤ i - 1), if_neg (by omega : ¬ i - 1 < r.length)]
    rfl
theorem at_1 {α : Type} {x y : α} {r : List α} : atI (x :: y :: r) 1 = some y := by
  rw [at_s (by decide)]
  exact at_0
theorem at_2 {α : Type} {x y z : α} {r : List α} : atI (x :: y :: z :: r) 2 = some z := by
  rw [at_s (by decide)]
  exact at_1
theorem at_3 {α : Type} {x y z u : α} {r : List α} : atI (x :: y :: z :: u :: r) 3 = some u := by
  rw [at_s (by decide)]
  exact at_2
theorem at_4 {α : Type} {x y z u v : α} {r : List α} : atI (x :: y :: z :: u :: v :: r) 4 = some v := by
  rw [at_s (by decide)]
  exact at_3
theorem at_5 {α : Type} {x y z u v t : α} {r : List α} : atI (x :: y :: z :: u :: v :: t :: r) 5 = some t := by
  rw [at_s (by decide)]
  exact at_4
/-! dicts -/
theorem gk_nil {k : Key} : getK [] k = none := rfl
theorem gk_cons {k k' : Key} {v : Dat} {r : List (Key × Dat)} : getK ((k', v) :: r) k = if k' = k then some v else getK r k := by
  unfold getK
  rw [List.find?_cons]
  by_cases h : k' = k
  · simp [h]
  · simp [h]
theorem pd_nil {k : Key} {v : Dat} : putD [] k v = [(k, v)] := rfl
theorem pd_cons {k k' : Key} {v v' : Dat} {r : List (Key × Dat)} : putD ((k', v') :: r) k v = if k' = k then (k', v) :: r.map (fun kv => if kv.1 = k then (kv.1, v) else kv) else (k', v') :: putD r k v := by
  unfold putD
  by_cases h : k' = k
  · simp [h]
  · by_cases hr : (r.any fun kv => decide (kv.1 = k)) = true
    · simp [h, hr]
    · simp [h, hr]
theorem so_lst {d : Dat} {xs : List Dat} {j : Int} : subO d (.mb (.lst xs)) (.dt (.int j)) = (ixN xs.length j).map fun m => .lst (xs.set m d) := rfl
theorem so_dcS {d : Dat} {kvs : List (Key × Dat)} {k : Str} : subO d (.mb (.dct kvs)) (.dt (.str k)) = if kvs.length < sizeLine then some (.dct (putD kvs (.inr k) d)) else none := rfl
theorem mg_nil {kvs : List (Key × Dat)} : mergeD kvs [] = kvs := rfl
theorem mg_cons {kvs r : List (Key × Dat)} {k : Key} {v : Dat} : mergeD kvs ((k, v) :: r) = mergeD (putD kvs k v) r := rfl
theorem ix_in {n : Nat} {i : Int} (h0 : 0 ≤ i) (h1 : i < n) : ixN n i = some i.toNat := by
  unfold ixN
  rw [if_pos h0, if_pos h1]
/-! built-ins -/
section
variable {T : Tab}
def lnR : Option Nat → Option Rv
  | some n => some (.val (.int (n : Int)))
  | none => none
theorem lnR_e {n : Nat} : lnR (some n) = some (.val (.int (n : Int))) := rfl
theorem f_len {w : Vw} : Vw.bi T .len w [] = lnR w.len := by
  have e : Vw.bi T .len w [] = (w.len.bind fun a => some (a : Int)).map fun n => Rv.val (.int n) := by
    cases w with
    | dt d => cases d <;> rfl
    | mb o => rfl
  rw [e]
  cases w.len <;> rfl
theorem f_tupM {xs : List Dat} : Vw.bi T .tuple (.mb (.lst xs)) [] = some (.val (.tup xs)) := rfl
theorem f_tupL {xs : List Dat} : Vw.bi T .tuple (.dt (.lst xs)) [] = some (.val (.tup xs)) := rfl
theorem f_tupT {xs : List Dat} : Vw.bi T .tuple (.dt (.tup xs)) [] = some (.val (.tup xs)) := rfl
theorem f_lsM {xs : List Dat} : Vw.bi T .list (.mb (.lst xs)) [] = some (.own (.lst xs)) := rfl
theorem f_lsL {xs : List Dat} : Vw.bi T .list (.dt (.lst xs)) [] = some (.own (.lst xs)) := rfl
theorem f_lsT {xs : List Dat} : Vw.bi T .list (.dt (.tup xs)) [] = some (.own (.lst xs)) := rfl
theorem f_strS {x : Str} : Vw.bi T .str (.dt (.str x)) [] = some (.val (.str x)) := rfl
theorem f_allM {xs : List Dat} : Vw.bi T .all (.mb (.lst xs)) [] = (blsOf xs).map fun bs => .val (.bl (bs.all id)) := rfl
theorem f_anyM {xs : List Dat} : Vw.bi T .any (.mb (.lst xs)) [] = (blsOf xs).map fun bs => .val (.bl (bs.any id)) := rfl
/-- what isinstance answers -/
def isaW (T : Tab) (w : Vw) (d : Dat) : Option Bool := match w with
  | .dt (.err c _) => isaXD T c d
  | w => isaV T w d
theorem f_isi {w : Vw} {c : Dat} : Vw.bi T .isi w [c] = (isaW T w c).map fun b => .val (.bl b) := by
  cases w with
  | mb o => rfl
  | dt d => cases d <;> rfl
theorem iw_mb {o : Mob} {c : Dat} : isaW T (.mb o) c = isaV T (.mb o) c := rfl
theorem iw_non {c : Dat} : isaW T (.dt .non) c = isaV T (.dt .non) c := rfl
theorem iw_bl {b : Bool} {c : Dat} : isaW T (.dt (.bl b)) c = isaV T (.dt (.bl b)) c := rfl
theorem iw_int {i : Int} {c : Dat} : isaW T (.dt (.int i)) c = isaV T (.dt (.int i)) c := rfl
theorem iw_str {x : Str} {c : Dat} : isaW T (.dt (.str x)) c = isaV T (.dt (.str x)) c := rfl
theorem iw_tup {xs : List Dat} {c : Dat} : isaW T (.dt (.tup xs)) c = isaV T (.dt (.tup xs)) c := rfl
theorem iw_lst {xs : List Dat} {c : Dat} : isaW T (.dt (.lst xs)) c = isaV T (.dt (.lst xs)) c := rfl
theorem iw_dct {xs : List (Key × Dat)} {c : Dat} : isaW T (.dt (.dct xs)) c = isaV T (.dt (.dct xs)) c := rfl
theorem iw_obj {cc : Nat} {fs : List (Str × Dat)} {c : Dat} : isaW T (.dt (.obj cc fs)) c = isaV T (.dt (.obj cc fs)) c := rfl
theorem iw_errC {cc c' : Nat} {fs : List (Str × Dat)} : isaW T (.dt (.err cc fs)) (.cls c') = T.isaX cc c' := rfl
theorem iw_errT {cc : Nat} {n : String} {fs : List (Str × Dat)} : isaW T (.dt (.err cc fs)) (.ty n) = T.isaXT cc n := rfl
theorem f_repr {w : Vw} : Vw.bi T .repr w [] = (w.pd.bind reprOf).map fun x => .val (.str x) := rfl
theorem bls_map {α : Type} {f : α → Bool} : ∀ {xs : List α}, blsOf (xs.map fun x => .bl (f x)) = some (xs.map f)
  | [] => rfl
  | x :: xs => by
    show (blsOf (xs.map fun x => .bl (f x))).map (f x :: ·) = _
    rw [bls_map]
    rfl
theorem strs_map {α : Type} {f : α → Str} : ∀ {xs : List α}, strsOf (xs.map fun x => .str (f x)) = some (xs.map f)
  | [] => rfl
  | x :: xs => by
    show (strsOf (xs.map fun x => .str (f x))).map (f x :: ·) = _
    rw [strs_map]
    rfl
end
/-! methods -/
theorem m_app {xs : List Dat} {d : Dat} : mthV .append (.mb (.lst xs)) [d] = if xs.length < sizeLine then some (some (.lst (xs ++ [d])), .val .non) else none := rfl
theorem m_pop {xs : List Dat} : mthV .pop (.mb (.lst xs)) [] = (xs[xs.length - 1]?).map fun y => (some (Mob.lst xs.dropLast), Rv.val y) := rfl
theorem m_ext {xs ys : List Dat} : mthV .extend (.mb (.lst xs)) [.lst ys] = if xs.length + ys.length ≤ sizeLine then some (some (.lst (xs ++ ys)), .val .non) else none := rfl
theorem m_upp {x : Str} : mthV .upper (.dt (.str x)) [] = if x.length ≤ 5592405 then some (none, .val (.str (Txt.upper x))) else none := rfl
theorem m_spl {x y : Str} : mthV .split (.dt (.str x)) [.str y] = if (y.length == 0) = false ∧ x.length + 2 ≤ sizeLine then some (none, .own (.lst ((Txt.split x y).map .str))) else none := rfl
def mjO (x : Str) : Option (List Str) → Option (Option Mob × Rv)
  | some ys => if joinLen x ys ≤ 16777216 then some (none, .val (.str (Txt.join x ys))) else none
  | none => none
theorem m_joi {x : Str} {d : Dat} : mthV .join (.dt (.str x)) [d] = mjO x (d.seq.bind strsOf) := by
  unfold mjO
  rfl
theorem mjO_e {x : Str} {ys : List Str} : mjO x (some ys) = if joinLen x ys ≤ 16777216 then some (none, .val (.str (Txt.join x ys))) else none := rfl
theorem sq_lst {xs : List Dat} : (Dat.lst xs).seq = some xs := rfl
theorem sq_tup {xs : List Dat} : (Dat.tup xs).seq = some xs := rfl
/-! looks at kinds -/
theorem vt_tup {xs : List Dat} : Vw.tup (.dt (.tup xs)) = some xs := rfl
theorem vu_tup {xs : List Dat} : Vw.unp (.dt (.tup xs)) = some xs := rfl
theorem vu_tpl {xs : List Dat} : Vw.unp (.dt (.tpl xs)) = some xs := rfl
theorem vl_lst {xs : List Dat} : Vw.lst (.dt (.lst xs)) = some xs := rfl
theorem vl_mls {xs : List Dat} : Vw.lst (.mb (.lst xs)) = some xs := rfl
theorem mul_l {i j : Int} (h : -18446744073709551616 < i) (h' : i < 18446744073709551616) : mulOk i j = true := by
  unfold mulOk
  simp [h, h']
theorem mul_r {i j : Int} (h : -18446744073709551616 < j) (h' : j < 18446744073709551616) : mulOk i j = true := by
  unfold mulOk
  simp [h, h']
/-! comprehensions, by turns -/
def kStB (me : Ac Dat) (own : List Nat) : Bool → Ac (Option Dat)
  | true => fun s => (me s).bind fun y => fun s1 => .ok (some y) ⟨wipS s1.env own, s1.sto⟩
  | false => fun s => .ok none ⟨wipS s.env own, s.sto⟩
def kStC (own : List Nat) (y : Dat) : Ac (Option Dat) := fun s1 => .ok (some y) ⟨wipS s1.env own, s1.sto⟩
def kStA (mt : Ac Bool) (me : Ac Dat) (own : List Nat) (u : Unit) : Ac (Option Dat) := fun s => (mt s).bind (kStB me own)
def noO {α : Type} : Out α → Out α
  | .ok a s => .ok a s
  | _ => .stuck
theorem noO_e {α : Type} {a : α} {s : Stt} : noO (.ok a s) = .ok a s := rfl
theorem stpA_e {a : Rv → Ac Unit} {mt : Ac Bool} {me : Ac Dat} {own : List Nat} {d : Dat} {s : Stt} : stpA a mt me own d s = noO ((a (.val d) s).bind (kStA mt me own)) := by
  unfold stpA noX
  have e : ((a (.val d)).bind fun _ => mt.bind fun k => if k then me.bind fun y => (wipA own).bind fun _ => Ac.ret (some y) else (wipA own).bind fun _ => Ac.ret none) s = (a (.val d) s).bind (kStA mt me own) := by
    show Out.bind _ _ = _
    congr 1
    funext u s1
    show Out.bind _ _ = Out.bind _ _
    congr 1
    funext k s2
    cases k <;> rfl
  rw [e]
  cases (a (.val d) s).bind (kStA mt me own) <;> rfl
theorem kStA_e {mt : Ac Bool} {me : Ac Dat} {own : List Nat} {u : Unit} {s : Stt} : kStA mt me own u s = (mt s).bind (kStB me own) := rfl
theorem kStB_t {me : Ac Dat} {own : List Nat} {s : Stt} : kStB me own true s = (me s).bind (kStC own) := rfl
theorem kStB_f {me : Ac Dat} {own : List Nat} {env : List Slt} {sto : List Mob} : kStB me own false ⟨env, sto⟩ = .ok none ⟨wipS env own, sto⟩ := rfl
theorem kStC_e {own : List Nat} {y : Dat} {env : List Slt} {sto : List Mob} : kStC own y ⟨env, sto⟩ = .ok (some y) ⟨wipS env own, sto⟩ := rfl
theorem cnd_n {f : Ex → Ac Bool} {s : Stt} : condA f none s = .ok true s := rfl
theorem cnd_s {f : Ex → Ac Bool} {c : Ex} {s : Stt} : condA f (some c) s = f c s := rfl
def wipR (own : List Nat) : Nat → List Slt → List Slt
  | _, [] => []
  | i, x :: r => (if i ∈ own then .no else x) :: wipR own (i + 1) r
theorem wipR_ok {own : List Nat} : ∀ {env : List Slt} {i : Nat}, env.mapIdx (fun j x => if j + i ∈ own then Slt.no else x) = wipR own i env
  | [], _ => rfl
  | x :: r, i => by
    rw [List.mapIdx_cons]
    show _ :: _ = _ :: _
    rw [Nat.zero_add]
    congr 1
    rw [← wipR_ok]
    congr 1
    funext j y
    rw [Nat.add_assoc, Nat.add_comm 1 i]
theorem wip_e {env : List Slt} {own : List Nat} : wipS env own = wipR own 0 env := by
  rw [← wipR_ok]
  rfl
theorem wp_nil {own : List Nat} {i : Nat} : wipR own i [] = [] := rfl
theorem wp_cons {own : List Nat} {i : Nat} {x : Slt} {r : List Slt} : wipR own i (x :: r) = (if i ∈ own then .no else x) :: wipR own (i + 1) r := rfl
def bkO : Option Slt → Slt
  | some (.val d) => .val d
  | _ => .no
theorem bkO_v {d : Dat} : bkO (some (.val d)) = .val d := rfl
theorem bkO_n : bkO (some .no) = .no := rfl
def bakR (own : List Nat) (env0 : List Slt) : Nat → List Slt → List Slt
  | _, [] => []
  | i, x :: r => (if i ∈ own then bkO env0[i]? else x) :: bakR own env0 (i + 1) r
theorem bakR_ok {own : List Nat} {env0 : List Slt} : ∀ {env : List Slt} {i : Nat}, env.mapIdx (fun j x => if j + i ∈ own then bkO env0[j + i]? else x) = bakR own env0 i env
  | [], _ => rfl
  | x :: r, i => by
    rw [List.mapIdx_cons]
    show _ :: _ = _ :: _
    rw [Nat.zero_add]
    congr 1
    rw [← bakR_ok]
    congr 1
    funext j y
    rw [Nat.add_assoc, Nat.add_comm 1 i]
theorem bak_e {env0 env : List Slt} {own : List Nat} : bakS env0 env own = bakR own env0 0 env := by
  rw [← bakR_ok]
  rfl
theorem bk_nil {own : List Nat} {env0 : List Slt} {i : Nat} : bakR own env0 i [] = [] := rfl
theorem bk_cons {own : List Nat} {env0 : List Slt} {i : Nat} {x : Slt} {r : List Slt} : bakR own env0 i (x :: r) = (if i ∈ own then bkO env0[i]? else x) :: bakR own env0 (i + 1) r := rfl
/-- a comprehension whose turns change nothing -/
theorem trn_pure {α : Type} {step : Dat → Ac (Option Dat)} {s : Stt} {dat : α → Dat} {f : α → Option Dat} : ∀ {xs : List α} {acc : List Dat}, (∀ x, x ∈ xs → step (dat x) s = .ok (f x) s) → acc.length + xs.length ≤ 16777216 → trnA step acc (xs.map dat) s = .ok (acc ++ xs.filterMap f) s
  | [], acc, _, _ => by
    rw [List.map_nil, List.filterMap_nil, List.append_nil]
    rfl
  | x :: xs, acc, h, hl => by
    rw [List.length_cons] at hl
    show Out.bind (step (dat x) s) _ = _
    rw [h x List.mem_cons_self]
    cases e : f x with
    | none =>
      show trnA step acc (xs.map dat) s = _
      rw [trn_pure (fun y hy => h y (List.mem_cons_of_mem _ hy)) (by omega), List.filterMap_cons, e]
    | some y =>
      show (if acc.length < sizeLine then trnA step (acc ++ [y]) (xs.map dat) else Ac.stk) s = _
      rw [if_pos (by rw [szl]; omega), trn_pure (fun z hz => h z (List.mem_cons_of_mem _ hz)) (by rw [List.length_append]; show acc.length + 1 + _ ≤ _; omega), List.filterMap_cons, e, List.append_assoc]
      rfl
theorem trn_nil {step : Dat → Ac (Option Dat)} {acc : List Dat} {s : Stt} : trnA step acc [] s = .ok acc s := rfl
def kTr (step : Dat → Ac (Option Dat)) (acc r : List Dat) : Option Dat → Ac (List Dat)
  | some y => fun s => if acc.length < 16777216 then trnA step (acc ++ [y]) r s else .stuck
  | none => trnA step acc r
theorem trn_cons {step : Dat → Ac (Option Dat)} {acc r : List Dat} {d : Dat} {s : Stt} : trnA step acc (d :: r) s = (step d s).bind (kTr step acc r) := by
  show Out.bind _ _ = _
  congr 1
  funext o s1
  cases o with
  | none => rfl
  | some y =>
    show (if acc.length < sizeLine then trnA step (acc ++ [y]) r else Ac.stk) s1 = _
    rw [ite_ap]
    rfl
theorem kTr_n {step : Dat → Ac (Option Dat)} {acc r : List Dat} {s : Stt} : kTr step acc r none s = trnA step acc r s := rfl
theorem kTr_s {step : Dat → Ac (Option Dat)} {acc r : List Dat} {y : Dat} {s : Stt} : kTr step acc r (some y) s = if acc.length < 16777216 then trnA step (acc ++ [y]) r s else .stuck := rfl
theorem oc_rv {d : Dat} {env : List Slt} {sto : List Mob} : outC (.ok (.rt (.val d)) ⟨env, sto⟩) = .ok (.val d) sto := rfl
theorem oc_ro {o : Mob} {env : List Slt} {sto : List Mob} : outC (.ok (.rt (.own o)) ⟨env, sto⟩) = .ok (.own o) sto := rfl
theorem oc_nx {env : List Slt} {sto : List Mob} : outC (.ok .nx ⟨env, sto⟩) = .ok (.val .non) sto := rfl
theorem oc_x {x : Dat} {env : List Slt} {sto : List Mob} : outC (.exc x ⟨env, sto⟩) = .exc x sto := rfl
end En
set_option maxHeartbeats 4000000
/-! En28: loops by an invariant. -/
namespace En
open PySem PySem.Spec PyProof.Rows L2
/-- a for that goes through -/
theorem for_inv {a : Rv → Ac Unit} {mb me : Ac Flw} (I : Nat → Stt → Prop) : ∀ (ds : List Dat) (n : Nat) (s : Stt), I n s →
    (∀ (i : Nat) (d : Dat) (s : Stt), ds[i]? = some d → I (n + i) s → ∃ s1 s2, a (.val d) s = .ok () s1 ∧ (mb s1 = .ok .nx s2 ∨ mb s1 = .ok .ct s2) ∧ I (n + i + 1) s2) →
    ∃ s', I (n + ds.length) s' ∧ forA a mb me ds s = me s'
  | [], n, s, h0, _ => ⟨s, h0, rfl⟩
  | d :: r, n, s, h0, h => by
    obtain ⟨s1, s2, e1, e2, h1⟩ := h 0 d s rfl h0
    obtain ⟨s', h2, e3⟩ := for_inv I r (n + 1) s2 (by simpa using h1) (fun i d s hd hi => by
      have := h (i + 1) d s (by rw [List.getElem?_cons_succ]; exact hd) (by rw [show n + (i + 1) = n + 1 + i by omega]; exact hi)
      rw [show n + (i + 1) + 1 = n + 1 + i + 1 by omega] at this
      exact this)
    refine ⟨s', ?_, ?_⟩
    · rw [List.length_cons, show n + (r.length + 1) = n + 1 + r.length by omega]
      exact h2
    · rw [f_cons, e1, b_ok, kFor1_e]
      rcases e2 with e2 | e2
      · rw [e2, b_ok, kFor2_nx, e3]
      · rw [e2, b_ok, kFor2_ct, e3]
def kRun (mb : Ac Flw) : Unit → Ac Flw := fun _ => mb
theorem kRun_e {mb : Ac Flw} {u : Unit} {s : Stt} : kRun mb u s = mb s := rfl
theorem for_inv_of {a : Rv → Ac Unit} {mb me : Ac Flw} {ds : List Dat} {s : Stt} {o : Out Flw} (ht : forA a mb me ds s = o) (I : Nat → Stt → Prop) (h0 : I 0 s)
    (h : ∀ (i : Nat) (d : Dat) (s : Stt), ds[i]? = some d → I i s → ∃ f s2, (a (.val d) s).bind (kRun mb) = .ok f s2 ∧ (f = .nx ∨ f = .ct) ∧ I (i + 1) s2) : ∃ s', I ds.length s' ∧ o = me s' := by
  obtain ⟨s', h1, h2⟩ := for_inv I ds 0 s h0 (fun i d s hd hi => by
    rw [Nat.zero_add] at hi ⊢
    obtain ⟨f, s2, e, hf, h2⟩ := h i d s hd hi
    cases q : a (.val d) s with
    | ok u s1 =>
      rw [q] at e
      refine ⟨s1, s2, q, ?_, h2⟩
      rcases hf with rfl | rfl
      · exact .inl e
      · exact .inr e
    | exc x s1 =>
      rw [q] at e
      cases e
    | stuck =>
      rw [q] at e
      cases e)
  rw [Nat.zero_add] at h1
  exact ⟨s', h1, ht.symm.trans h2⟩
/-- a comprehension that keeps every item, its state going on -/
theorem trn_inv {step : Dat → Ac (Option Dat)} (I : Nat → Stt → Prop) (Pd : Nat → Dat → Prop) : ∀ (ds : List Dat) (n : Nat) (s : Stt) (acc : List Dat), I n s →
    (∀ (i : Nat) (d : Dat) (s : Stt), ds[i]? = some d → I (n + i) s → ∃ y s2, step d s = .ok (some y) s2 ∧ Pd (n + i) y ∧ I (n + i + 1) s2) → acc.length + ds.length ≤ 16777216 →
    ∃ s' ys, I (n + ds.length) s' ∧ ys.length = ds.length ∧ (∀ (i : Nat) (y : Dat), ys[i]? = some y → Pd (n + i) y) ∧ trnA step acc ds s = .ok (acc ++ ys) s'
  | [], n, s, acc, h0, _, _ => ⟨s, [], h0, rfl, fun i y e => by simp at e, by rw [List.append_nil]; rfl⟩
  | d :: r, n, s, acc, h0, h, hl => by
    obtain ⟨y, s2, e1, hy, h1⟩ := h 0 d s rfl h0
    rw [List.length_cons] at hl
    obtain ⟨s', ys, h2, hl2, hp, e3⟩ := trn_inv I Pd r (n + 1) s2 (acc ++ [y]) (by simpa using h1) (fun i d s hd hi => by
      have := h (i + 1) d s (by rw [List.getElem?_cons_succ]; exact hd) (by rw [show n + (i + 1) = n + 1 + i by omega]; exact hi)
      rw [show n + (i + 1) + 1 = n + 1 + i + 1 by omega, show n + (i + 1) = n + 1 + i by omega] at this
      exact this) (by rw [List.length_append]; show acc.length + 1 + _ ≤ _; omega)
    refine ⟨s', y :: ys, ?_, by rw [List.length_cons, List.length_cons, hl2], fun i z e => ?_, ?_⟩
    · rw [List.length_cons, show n + (r.length + 1) = n + 1 + r.length by omega]
      exact h2
    · cases i with
      | zero =>
        simp at e
        subst e
        exact hy
      | succ i =>
        rw [show n + (i + 1) = n + 1 + i by omega]
        exact hp i z (by simpa using e)
    · rw [trn_cons, e1, b_ok, kTr_s, if_pos (by omega), e3, List.append_assoc]
      rfl
/-- a comprehension over a text -/
theorem trn_signs {step : Dat → Ac (Option Dat)} {s : Stt} {f : Nat → Option Dat} {x : Str} (h : ∀ c, c ∈ x.cps.toList → step (.str ⟨#[c]⟩) s = .ok (f c) s) (hx : x.length ≤ 16777216) : trnA step [] (signs x) s = .ok (x.cps.toList.filterMap f) s := by
  unfold signs
  rw [trn_pure (f := f) h (by rw [Array.length_toList]; simpa [Str.length] using hx)]
  rfl
theorem fm_some {α β : Type} {f : α → β} {xs : List α} : xs.filterMap (fun x => some (f x)) = xs.map f := by
  induction xs with
  | nil => rfl
  | cons x xs ih => rw [List.filterMap_cons, ih]; rfl
theorem ints_at {lo : Int} {n i : Nat} {d : Dat} (h : (intsD lo n)[i]? = some d) : d = .int (lo + i) ∧ i < n := by
  unfold intsD at h
  rw [List.getElem?_map] at h
  obtain ⟨j, h1, h2⟩ := Option.map_eq_some_iff.mp h
  obtain ⟨h3, h4⟩ := List.getElem?_eq_some_iff.mp h1
  rw [List.getElem_range] at h4
  rw [List.length_range] at h3
  subst h4
  exact ⟨h2.symm, h3⟩
theorem ints_len {lo : Int} {n : Nat} : (intsD lo n).length = n := by
  unfold intsD
  rw [List.length_map, List.length_range]
theorem len_app (a b : Str) : (a ++ b).length = a.length + b.length := PySem.Str.length_append a b
theorem len_cut (z : Str) (lo hi : Option Int) : (cutS z lo hi).length ≤ z.length := by
  unfold cutS Str.length
  rw [List.size_toArray, List.length_take, List.length_drop, Array.length_toList]
  omega
theorem getD_mem {α : Type} {xs : List α} {i : Int} (h0 : 0 ≤ i) (h1 : i < xs.length) : ∃ x, atI xs i = some x ∧ x ∈ xs := by
  have hi : i.toNat < xs.length := by omega
  refine ⟨xs[i.toNat], ?_, List.getElem_mem hi⟩
  unfold atI
  rw [ix_in h0 h1]
  exact List.getElem?_eq_getElem hi
theorem inL_strs {x : Str} : ∀ {ys : List Str}, inL (.str x) (ys.map .str) = some (ys.any (· == x))
  | [] => rfl
  | y :: ys => by
    rw [List.map_cons, in_cons, inL_strs, q_ss]
    rfl
theorem depL_strs : ∀ {ys : List Str}, depL (ys.map .str) = 0
  | [] => rfl
  | y :: ys => by
    rw [List.map_cons, dl_cons, depL_strs]
    rfl
end En
set_option maxHeartbeats 4000000
/-! Ep1: the evaluator stepped by simp: instances, their methods, module dicts, match. -/
namespace En
open PySem PySem.Spec PyProof.Rows L2
def nxO {α : Type} : Out α → Out α
  | .ok a s => .ok a s
  | _ => .stuck
theorem nxO_ok {α : Type} {a : α} {s : Stt} : nxO (.ok a s) = .ok a s := rfl
theorem noX_e {α : Type} {m : Ac α} {s : Stt} : noX m s = nxO (m s) := by
  unfold noX nxO
  cases m s <;> rfl
theorem vi_mb {c : Nat} {fs : List (Str × Dat)} : Vw.inst (.mb (.ins c fs)) = some (c, fs) := rfl
theorem vi_dt {c : Nat} {fs : List (Str × Dat)} : Vw.inst (.dt (.obj c fs)) = some (c, fs) := rfl
section
variable {C : Ec} {n : Nat} {s : Stt}
/-! instances made -/
def mkR (l : Nat) (env : List Slt) : Cou → Out Rv
  | .ok (.val .non) sto => .ok (.val (.ref l)) ⟨env, sto⟩
  | .exc x sto => .exc x ⟨env, sto⟩
  | _ => .stuck
theorem mkR_ok {l : Nat} {env : List Slt} {sto : List Mob} : mkR l env (.ok (.val .non) sto) = .ok (.val (.ref l)) ⟨env, sto⟩ := rfl
theorem mkK_e {c : Nat} {call : List Dat → List Mob → Cou} {ds : List Dat} {env : List Slt} {sto : List Mob} : mkK c call ds ⟨env, sto⟩ = mkR sto.length env (call ds (sto ++ [.ins c []])) := by
  unfold mkK mkR
  rfl
def mkO (c : Nat) (call : List Dat → List Mob → Cou) (s : Stt) : Option (List Dat) → Out Rv
  | some xs => mkK c call xs s
  | none => .stuck
theorem mkO_e {c : Nat} {call : List Dat → List Mob → Cou} {xs : List Dat} : mkO c call s (some xs) = mkK c call xs s := rfl
def kMk2 (c : Nat) (call : List Dat → List Mob → Cou) (l j : Nat) (sl : List Sl) (ds : List Dat) (zs : List Dat) : Ac Rv := fun s => if ds.length = l ∧ zs.length = j then mkO c call s (permD (.ref s.sto.length :: ds) zs sl) else .stuck
def kMk1 (C : Ec) (n c : Nat) (call : List Dat → List Mob → Cou) (l : Nat) (zs : List Ex) (sl : List Sl) (ds : List Dat) : Ac Rv := fun s => (sqD C n zs s).bind (kMk2 c call l zs.length sl ds)
theorem e_mk {c f : Nat} {es zs : List Ex} {sl : List Sl} : ev C (n + 1) (.mk c f es zs sl) s = (sqD C n es s).bind (kMk1 C n c (C.low f) es.length zs sl) := rfl
theorem kMk1_e {c : Nat} {call : List Dat → List Mob → Cou} {l : Nat} {zs : List Ex} {sl : List Sl} {ds : List Dat} : kMk1 C n c call l zs sl ds s = (sqD C n zs s).bind (kMk2 c call l zs.length sl ds) := rfl
theorem kMk2_e {c l j : Nat} {call : List Dat → List Mob → Cou} {sl : List Sl} {ds zs : List Dat} {env : List Slt} {sto : List Mob} : kMk2 c call l j sl ds zs ⟨env, sto⟩ = if ds.length = l ∧ zs.length = j then mkO c call ⟨env, sto⟩ (permD (.ref sto.length :: ds) zs sl) else .stuck := rfl
def kCm2 (c : Nat) (call : List Dat → List Mob → Cou) (l : Nat) (sl : List Sl) (ds : List Dat) : Ac Rv := fun s => if ds.length = l then caO call s (permD (.cls c :: ds) [] sl) else .stuck
theorem e_cmt {c f : Nat} {e : Ex} {es : List Ex} {sl : List Sl} : ev C (n + 1) (.cmt c f e es sl) s = (sqD C n (e :: es) s).bind (kCm2 c (C.call f) (es.length + 1) sl) := by
  show Out.bind _ _ = Out.bind _ _
  congr 1
  funext ds s
  show (if ds.length = es.length + 1 ∧ ([] : List Dat).length = 0 then _ else _) = if ds.length = es.length + 1 then _ else _
  by_cases h : ds.length = es.length + 1
  · rw [if_pos ⟨h, rfl⟩, if_pos h]
    rfl
  · rw [if_neg (fun z => h z.1), if_neg h]
theorem kCm2_e {c l : Nat} {call : List Dat → List Mob → Cou} {sl : List Sl} {ds : List Dat} : kCm2 c call l sl ds s = if ds.length = l then caO call s (permD (.cls c :: ds) [] sl) else .stuck := rfl
/-! dicts of the module -/
def kgO (s : Stt) (kvs : List (Str × Dat)) : Option Vw → Out Rv
  | some (.dt (.str z)) => sbR s (kvs.lookup z)
  | _ => .stuck
def kKg (kvs : List (Str × Dat)) (x : Rv) : Ac Rv := fun s => kgO s kvs (look s x)
theorem e_kget {kvs : List (Str × Dat)} {i : Ex} : ev C (n + 1) (.kget kvs i) s = (ev C n i s).bind (kKg kvs) := by
  show Out.bind _ _ = Out.bind _ _
  congr 1
  funext x s
  unfold kKg
  show Ac.bind (lookA x) _ s = _
  rw [look_bind]
  cases look s x with
  | none => rfl
  | some w => cases w with
    | mb o => rfl
    | dt d =>
      cases d <;> try rfl
      rename_i z
      show Ac.opt ((kvs.lookup z).map Rv.val) s = sbR s (kvs.lookup z)
      cases kvs.lookup z <;> rfl
theorem kKg_e {kvs : List (Str × Dat)} {x : Rv} : kKg kvs x s = kgO s kvs (look s x) := rfl
theorem kgO_e {kvs : List (Str × Dat)} {z : Str} : kgO s kvs (some (.dt (.str z))) = sbR s (kvs.lookup z) := rfl
def kiO (s : Stt) (neg : Bool) (kvs : List (Str × Dat)) : Option Vw → Out Rv
  | some (.dt (.str z)) => .ok (.val (.bl ((kvs.lookup z).isSome != neg))) s
  | _ => .stuck
def kKi (neg : Bool) (kvs : List (Str × Dat)) (x : Rv) : Ac Rv := fun s => kiO s neg kvs (look s x)
theorem e_kin {neg : Bool} {kvs : List (Str × Dat)} {i : Ex} : ev C (n + 1) (.kin neg kvs i) s = (ev C n i s).bind (kKi neg kvs) := by
  show Out.bind _ _ = Out.bind _ _
  congr 1
  funext x s
  unfold kKi
  show Ac.bind (lookA x) _ s = _
  rw [look_bind]
  cases look s x with
  | none => rfl
  | some w => cases w with
    | mb o => rfl
    | dt d => cases d <;> rfl
theorem t_kin {neg : Bool} {kvs : List (Str × Dat)} {i : Ex} : evT C (n + 1) (.kin neg kvs i) s = (ev C n (.kin neg kvs i) s).bind truA := rfl
theorem t_oeq {neg : Bool} {a b : Ex} : evT C (n + 1) (.oeq neg a b) s = (ev C n (.oeq neg a b) s).bind truA := rfl
theorem kKi_e {neg : Bool} {kvs : List (Str × Dat)} {x : Rv} : kKi neg kvs x s = kiO s neg kvs (look s x) := rfl
theorem kiO_e {neg : Bool} {kvs : List (Str × Dat)} {z : Str} : kiO s neg kvs (some (.dt (.str z))) = .ok (.val (.bl ((kvs.lookup z).isSome != neg))) s := rfl
/-! == of instances -/
theorem bne_e {neg b : Bool} : bneA neg (.val (.bl b)) s = .ok (.val (.bl (b != neg))) s := rfl
def oeQ (neg : Bool) (d e : Dat) (s : Stt) : Option (List Dat → List Mob → Cou) → Out Rv
  | some call => (nxO (couA call [d, e] s)).bind (bneA neg)
  | none => .stuck
def oeP (disp : Nat → Option (List Dat → List Mob → Cou)) (neg : Bool) (d e : Dat) (s : Stt) : Option (Nat × List (Str × Dat)) → Option (Nat × List (Str × Dat)) → Out Rv
  | some (c, _), some (c', _) => if c = c' then oeQ neg d e s (disp c) else .stuck
  | _, _ => .stuck
def oeO (disp : Nat → Option (List Dat → List Mob → Cou)) (neg : Bool) (d e : Dat) (s : Stt) : Option Vw → Option Vw → Out Rv
  | some w, some w' => oeP disp neg d e s w.inst w'.inst
  | _, _ => .stuck
def kOe2 (disp : Nat → Option (List Dat → List Mob → Cou)) (neg : Bool) : Rv → Rv → Ac Rv
  | .val d, .val e => fun s => oeO disp neg d e s (look s (.val d)) (look s (.val e))
  | _, _ => fun _ => .stuck
def kOe1 (C : Ec) (n : Nat) (neg : Bool) (b : Ex) (x : Rv) : Ac Rv := fun s => (ev C n b s).bind (kOe2 C.dispE neg x)
theorem e_oeq {neg : Bool} {a b : Ex} : ev C (n + 1) (.oeq neg a b) s = (ev C n a s).bind (kOe1 C n neg b) := by
  show Out.bind _ _ = Out.bind _ _
  congr 1
  funext x s
  show Out.bind _ _ = Out.bind _ _
  congr 1
  funext y s
  cases x <;> cases y <;> try rfl
  rename_i d e
  show Ac.bind (lookA (.val d)) _ s = oeO C.dispE neg d e s (look s (.val d)) (look s (.val e))
  rw [look_bind]
  cases look s (.val d) with
  | none => rfl
  | some w =>
    show Ac.bind (lookA (.val e)) _ s = _
    rw [look_bind]
    cases look s (.val e) with
    | none => rfl
    | some w' =>
      show _ = oeP C.dispE neg d e s w.inst w'.inst
      cases h1 : w.inst with
      | none =>
        simp only [h1]
        rfl
      | some p =>
        cases h2 : w'.inst with
        | none =>
          simp only [h1, h2]
          rfl
        | some p' =>
          obtain ⟨c, fs⟩ := p
          obtain ⟨c', gs⟩ := p'
          simp only [h1, h2]
          show (if c = c' then _ else Ac.stk) s = if c = c' then oeQ neg d e s (C.dispE c) else .stuck
          rw [ite_ap]
          by_cases hc : c = c'
          · rw [if_pos hc, if_pos hc]
            cases h3 : C.dispE c with
            | none =>
              simp only [h3]
              rfl
            | some call =>
              simp only [h3]
              show Out.bind (noX _ s) _ = _
              rw [noX_e]
              rfl
          · rw [if_neg hc, if_neg hc]
            rfl
theorem kOe1_e {neg : Bool} {b : Ex} {x : Rv} : kOe1 C n neg b x s = (ev C n b s).bind (kOe2 C.dispE neg x) := rfl
theorem kOe2_e {disp : Nat → Option (List Dat → List Mob → Cou)} {neg : Bool} {d e : Dat} : kOe2 disp neg (.val d) (.val e) s = oeO disp neg d e s (look s (.val d)) (look s (.val e)) := rfl
theorem oeO_e {disp : Nat → Option (List Dat → List Mob → Cou)} {neg : Bool} {d e : Dat} {w w' : Vw} : oeO disp neg d e s (some w) (some w') = oeP disp neg d e s w.inst w'.inst := rfl
theorem oeP_e {disp : Nat → Option (List Dat → List Mob → Cou)} {neg : Bool} {d e : Dat} {c : Nat} {fs gs : List (Str × Dat)} : oeP disp neg d e s (some (c, fs)) (some (c, gs)) = oeQ neg d e s (disp c) := if_pos rfl
theorem oeQ_e {call : List Dat → List Mob → Cou} {neg : Bool} {d e : Dat} : oeQ neg d e s (some call) = (nxO (couA call [d, e] s)).bind (bneA neg) := rfl
theorem dE_e {c : Nat} : C.dispE c = (C.t.eqm c).map C.low := rfl
theorem dP_e {c : Nat} {f : Str} : C.dispP f c = (C.t.prop c f).map C.low := rfl
/-! properties -/
def prQ (d : Dat) (s : Stt) : Option (List Dat → List Mob → Cou) → Out Rv
  | some call => nxO (couA call [d] s)
  | none => .stuck
def prP (disp : Nat → Option (List Dat → List Mob → Cou)) (d : Dat) (s : Stt) : Option (Nat × List (Str × Dat)) → Out Rv
  | some (c, _) => prQ d s (disp c)
  | none => .stuck
def prO (disp : Nat → Option (List Dat → List Mob → Cou)) (d : Dat) (s : Stt) : Option Vw → Out Rv
  | some w => prP disp d s w.inst
  | none => .stuck
def kPr (disp : Nat → Option (List Dat → List Mob → Cou)) : Rv → Ac Rv
  | .val d => fun s => prO disp d s (look s (.val d))
  | _ => fun _ => .stuck
theorem e_prp {e : Ex} {f : Str} : ev C (n + 1) (.prp e f) s = (ev C n e s).bind (kPr (C.dispP f)) := by
  show Out.bind _ _ = Out.bind _ _
  congr 1
  funext x s
  cases x <;> try rfl
  rename_i d
  show Ac.bind (lookA (.val d)) _ s = prO (C.dispP f) d s (look s (.val d))
  rw [look_bind]
  cases look s (.val d) with
  | none => rfl
  | some w =>
    show _ = prP (C.dispP f) d s w.inst
    cases h1 : w.inst with
    | none =>
      simp only [h1]
      rfl
    | some p =>
      obtain ⟨c, fs⟩ := p
      simp only [h1]
      show _ = prQ d s (C.dispP f c)
      cases h3 : C.dispP f c with
      | none =>
        simp only [h3]
        rfl
      | some call =>
        simp only [h3]
        exact noX_e
theorem kPr_e {disp : Nat → Option (List Dat → List Mob → Cou)} {d : Dat} : kPr disp (.val d) s = prO disp d s (look s (.val d)) := rfl
theorem prO_e {disp : Nat → Option (List Dat → List Mob → Cou)} {d : Dat} {w : Vw} : prO disp d s (some w) = prP disp d s w.inst := rfl
theorem prP_e {disp : Nat → Option (List Dat → List Mob → Cou)} {d : Dat} {c : Nat} {fs : List (Str × Dat)} : prP disp d s (some (c, fs)) = prQ d s (disp c) := rfl
theorem prQ_e {call : List Dat → List Mob → Cou} {d : Dat} : prQ d s (some call) = nxO (couA call [d] s) := rfl
/-! methods of instances -/
def kMd2 (call : List Dat → List Mob → Cou) (d : Dat) (l j : Nat) (sl : List Sl) (ds : List Dat) (zs : List Dat) : Ac Rv := fun s => if ds.length = l ∧ zs.length = j then caO call s (permD (d :: ds) zs sl) else .stuck
def kMd1 (C : Ec) (n : Nat) (call : List Dat → List Mob → Cou) (d : Dat) (l : Nat) (zs : List Ex) (j : Nat) (sl : List Sl) (ds : List Dat) : Ac Rv := fun s => (sqD C n zs s).bind (kMd2 call d l j sl ds)
def mdR (C : Ec) (n : Nat) (es zs : List Ex) (ks : List Str) (d : Dat) (k : Bool) (s : Stt) : Option (List Sl × (List Dat → List Mob → Cou)) → Out Rv
  | some (sl, call) => if k = true then (sqD C n es s).bind (kMd1 C n call d es.length zs ks.length sl) else .stuck
  | none => .stuck
def mdQ (C : Ec) (n : Nat) (m : Str) (es zs : List Ex) (ks : List Str) (d : Dat) (s : Stt) : Option (Nat × List (Str × Dat)) → Out Rv
  | some (c, fs) => mdR C n es zs ks d (fs.lookup m).isNone s (C.disp m es.length ks c)
  | none => .stuck
def mdO (C : Ec) (n : Nat) (m : Str) (es zs : List Ex) (ks : List Str) (d : Dat) (s : Stt) : Option Vw → Out Rv
  | some w => mdQ C n m es zs ks d s w.inst
  | none => .stuck
def kMd (C : Ec) (n : Nat) (m : Str) (es zs : List Ex) (ks : List Str) : Rv → Ac Rv
  | .val d => fun s => mdO C n m es zs ks d s (look s (.val d))
  | _ => fun _ => .stuck
theorem e_mtd {e : Ex} {m : Str} {es zs : List Ex} {ks : List Str} : ev C (n + 1) (.mtd e m es zs ks) s = (ev C n e s).bind (kMd C n m es zs ks) := by
  show Out.bind _ _ = Out.bind _ _
  congr 1
  funext x s
  cases x <;> try rfl
  rename_i d
  show Ac.bind (lookA (.val d)) _ s = mdO C n m es zs ks d s (look s (.val d))
  rw [look_bind]
  cases look s (.val d) with
  | none => rfl
  | some w =>
    show _ = mdQ C n m es zs ks d s w.inst
    cases h1 : w.inst with
    | none =>
      simp only [h1]
      rfl
    | some p =>
      obtain ⟨c, fs⟩ := p
      simp only [h1]
      show _ = mdR C n es zs ks d (fs.lookup m).isNone s (C.disp m es.length ks c)
      cases h3 : C.disp m es.length ks c with
      | none =>
        simp only [h3]
        rfl
      | some q =>
        obtain ⟨sl, call⟩ := q
        simp only [h3]
        rw [ite_ap]
        rfl
theorem kMd_e {m : Str} {es zs : List Ex} {ks : List Str} {d : Dat} : kMd C n m es zs ks (.val d) s = mdO C n m es zs ks d s (look s (.val d)) := rfl
theorem mdO_e {m : Str} {es zs : List Ex} {ks : List Str} {d : Dat} {w : Vw} : mdO C n m es zs ks d s (some w) = mdQ C n m es zs ks d s w.inst := rfl
theorem mdQ_e {m : Str} {es zs : List Ex} {ks : List Str} {d : Dat} {c : Nat} {fs : List (Str × Dat)} : mdQ C n m es zs ks d s (some (c, fs)) = mdR C n es zs ks d (fs.lookup m).isNone s (C.disp m es.length ks c) := rfl
theorem mdR_e {es zs : List Ex} {ks : List Str} {d : Dat} {k : Bool} {sl : List Sl} {call : List Dat → List Mob → Cou} : mdR C n es zs ks d k s (some (sl, call)) = if k = true then (sqD C n es s).bind (kMd1 C n call d es.length zs ks.length sl) else .stuck := rfl
theorem kMd1_e {call : List Dat → List Mob → Cou} {d : Dat} {l j : Nat} {zs : List Ex} {sl : List Sl} {ds : List Dat} : kMd1 C n call d l zs j sl ds s = (sqD C n zs s).bind (kMd2 call d l j sl ds) := rfl
theorem kMd2_e {call : List Dat → List Mob → Cou} {d : Dat} {l j : Nat} {sl : List Sl} {ds zs : List Dat} : kMd2 call d l j sl ds zs s = if ds.length = l ∧ zs.length = j then caO call s (permD (d :: ds) zs sl) else .stuck := rfl
def dspR (call : Nat → List Dat → List Mob → Cou) (f : Nat) : Option (List Sl) → Option (List Sl × (List Dat → List Mob → Cou))
  | some sl => some (sl, call f)
  | none => none
def dspO (C : Ec) (n : Nat) (ks : List Str) : Option Nat → Option (List Sl × (List Dat → List Mob → Cou))
  | some f => dspR C.call f (C.t.bnd f (n + 1) ks)
  | none => none
theorem dM_e {m : Str} {l c : Nat} {ks : List Str} : C.disp m l ks c = dspO C l ks (C.t.meth c m) := by
  unfold Ec.disp
  cases C.t.meth c m with
  | none => rfl
  | some f =>
    show Option.map _ (C.t.bnd f (l + 1) ks) = dspR C.call f (C.t.bnd f (l + 1) ks)
    cases C.t.bnd f (l + 1) ks <;> rfl
theorem dspO_e {l f : Nat} {ks : List Str} : dspO C l ks (some f) = dspR C.call f (C.t.bnd f (l + 1) ks) := rfl
theorem dspR_e {call : Nat → List Dat → List Mob → Cou} {f : Nat} {sl : List Sl} : dspR call f (some sl) = some (sl, call f) := rfl
/-! o.f = e -/
def asR (f : Str) (d : Dat) (o : Rv) (fl : Nat → Str → Bool) (s : Stt) : Option Vw → Out Flw
  | some (.mb (.ins c fs)) => if (fl c f && decide (fs.length < 1000)) = true then (setMob o (.ins c (putFd f d fs)) s).bind kNx else .stuck
  | _ => .stuck
def kAs2 (C : Ec) (f : Str) (d : Dat) (o : Rv) : Ac Flw := fun s => asR f d o C.t.flds s (look s o)
def kAs1 (C : Ec) (n : Nat) (o : Ex) (f : Str) (d : Dat) : Ac Flw := fun s => (ev C n o s).bind (kAs2 C f d)
theorem x_att {o e : Ex} {f : Str} : ex C (n + 1) (.att o f e) s = ((ev C n e s).bind toVal).bind (kAs1 C n o f) := by
  have h1 : ex C (n + 1) (.att o f e) s = (ev C n e s).bind fun x => fun s => (toVal x s).bind (kAs1 C n o f) := by
    show Out.bind _ _ = Out.bind _ _
    congr 1
    funext x s
    show Out.bind _ _ = Out.bind _ _
    congr 1
    funext d s
    show Out.bind _ _ = Out.bind _ _
    congr 1
    funext y s
    show Ac.bind (lookA y) _ s = asR f d y C.t.flds s (look s y)
    rw [look_bind]
    cases look s y with
    | none => rfl
    | some w => cases w with
      | dt _ => rfl
      | mb m =>
        cases m <;> try rfl
        rename_i c fs
        show (if _ then _ else Ac.stk) s = if _ then _ else _
        rw [ite_ap]
        rfl
  rw [h1]
  cases ev C n e s <;> rfl
theorem kAs1_e {o : Ex} {f : Str} {d : Dat} : kAs1 C n o f d s = (ev C n o s).bind (kAs2 C f d) := rfl
theorem kAs2_e {f : Str} {d : Dat} {o : Rv} : kAs2 C f d o s = asR f d o C.t.flds s (look s o) := rfl
theorem asR_e {f : Str} {d : Dat} {o : Rv} {fl : Nat → Str → Bool} {c : Nat} {fs : List (Str × Dat)} : asR f d o fl s (some (.mb (.ins c fs))) = if (fl c f && decide (fs.length < 1000)) = true then (setMob o (.ins c (putFd f d fs)) s).bind kNx else .stuck := rfl
theorem pf_nil {f : Str} {v : Dat} : putFd f v [] = [(f, v)] := rfl
theorem pf_cons {f g : Str} {v w : Dat} {r : List (Str × Dat)} : putFd f v ((g, w) :: r) = if g = f then (f, v) :: r else (g, w) :: putFd f v r := rfl
/-! x += i -/
def agR (s : Stt) (i : Nat) : Option Int → Out Flw
  | some k => .ok .nx { s with env := s.env.set i (.val (.int k)) }
  | none => .stuck
def agO (s : Stt) (i : Nat) (op : BOp) (a : Int) : Option Vw → Out Flw
  | some w => agR s i (augK op a w)
  | none => .stuck
def kAg (i : Nat) (op : BOp) (a : Int) (y : Rv) : Ac Flw := fun s => agO s i op a (look s y)
def agS (C : Ec) (n : Nat) (i : Nat) (op : BOp) (e : Ex) (s : Stt) : Option Slt → Out Flw
  | some (.val (.int a)) => (ev C n e s).bind (kAg i op a)
  | _ => .stuck
theorem x_aug {i : Nat} {op : BOp} {e : Ex} : ex C (n + 1) (.aug i op e) s = agS C n i op e s s.env[i]? := by
  show augN i op (ev C n e) s = _
  unfold augN
  generalize s.env[i]? = z
  cases z with
  | none => rfl
  | some z =>
    cases z with
    | no => rfl
    | own o => rfl
    | val d =>
      cases d <;> first | rfl | skip
      show Out.bind _ _ = Out.bind _ _
      congr 1
      funext y s
      show Ac.bind (lookA y) _ s = agO s i op _ (look s y)
      rw [look_bind]
      cases look s y with
      | none => rfl
      | some w =>
        show Ac.bind (Ac.opt (augK op _ w)) _ s = agR s i (augK op _ w)
        rw [opt_bind]
        cases augK op _ w <;> rfl
theorem agS_e {i : Nat} {op : BOp} {e : Ex} {a : Int} : agS C n i op e s (some (.val (.int a))) = (ev C n e s).bind (kAg i op a) := rfl
theorem kAg_e {i : Nat} {op : BOp} {a : Int} {y : Rv} : kAg i op a y s = agO s i op a (look s y) := rfl
theorem agO_e {i : Nat} {op : BOp} {a : Int} {w : Vw} : agO s i op a (some w) = agR s i (augK op a w) := rfl
theorem agR_e {i : Nat} {k : Int} {env : List Slt} {sto : List Mob} : agR ⟨env, sto⟩ i (some k) = .ok .nx ⟨env.set i (.val (.int k)), sto⟩ := rfl
theorem agK_a {a b : Int} : augK .add a (.dt (.int b)) = some (a + b) := rfl
theorem agK_s {a b : Int} : augK .sub a (.dt (.int b)) = some (a - b) := rfl
/-! match -/
def pkS (C : Ec) (n : Nat) (z : Str) (d : List Sm) : List (List Str × List Sm) → Ac Flw
  | [] => sqS C n d
  | p :: r => if p.1.contains z then sqS C n p.2 else pkS C n z d r
def mtP (C : Ec) (n : Nat) (cs : List (List Str × List Sm)) (d : List Sm) (s : Stt) : Option Vw → Out Flw
  | some (.dt (.str z)) => pkS C n z d cs s
  | _ => .stuck
def kMat (C : Ec) (n : Nat) (cs : List (List Str × List Sm)) (d : List Sm) (x : Rv) : Ac Flw := fun s => mtP C n cs d s (look s x)
theorem pick_e {z : Str} {d : List Sm} : ∀ {cs : List (List Str × List Sm)}, pickA z (seqsA (ex C n) d) (cs.map fun p => (p.1, seqsA (ex C n) p.2)) = pkS C n z d cs
  | [] => rfl
  | p :: r => by
    show (if p.1.contains z then _ else _) = if p.1.contains z then _ else _
    rw [pick_e (cs := r)]
    rfl
theorem x_mat {e : Ex} {cs : List (List Str × List Sm)} {d : List Sm} : ex C (n + 1) (.mat e cs d) s = (ev C n e s).bind (kMat C n cs d) := by
  show Out.bind _ _ = Out.bind _ _
  congr 1
  funext x s
  show Ac.bind (lookA x) _ s = mtP C n cs d s (look s x)
  rw [look_bind]
  cases look s x with
  | none => rfl
  | some w => cases w with
    | mb o => rfl
    | dt dd =>
      cases dd <;> try rfl
      rename_i z
      show pickA z _ _ s = pkS C n z d cs s
      rw [pick_e]
theorem kMat_e {cs : List (List Str × List Sm)} {d : List Sm} {x : Rv} : kMat C n cs d x s = mtP C n cs d s (look s x) := rfl
theorem mtP_e {cs : List (List Str × List Sm)} {d : List Sm} {z : Str} : mtP C n cs d s (some (.dt (.str z))) = pkS C n z d cs s := rfl
theorem pkm_nil {z : Str} {d : List Sm} : pkS C n z d [] s = sqS C n d s := rfl
theorem pkm_cons {z : Str} {d : List Sm} {xs : List Str} {b : List Sm} {r : List (List Str × List Sm)} : pkS C n z d ((xs, b) :: r) s = if xs.contains z = true then sqS C n b s else pkS C n z d r s := by
  show (if xs.contains z = true then sqS C n b else pkS C n z d r : Ac Flw) s = _
  rw [ite_ap]
theorem x_stk : ex C (n + 1) .stk s = .stuck := rfl
/-! comprehensions of two clauses -/
def kL2 (a : Rv → Ac Unit) (mt : Ac Bool) (m1 : Ac (List Dat)) (a1 : Rv → Ac Unit) (mt1 : Ac Bool) (me : Ac Dat) (own vs1 : List Nat) (ds : List Dat) : Ac Rv := fun s => (tr2A (st2A a mt m1 (stpA a1 mt1 me vs1) own vs1) [] ds ⟨wipS s.env own, s.sto⟩).bind (kLc2 s.env own)
theorem e_lc2 {e : Ex} {t t1 : Tg} {src src1 : Src} {cond cond1 : Option Ex} {own vs1 : List Nat} : ev C (n + 1) (.lc2 e t src cond t1 src1 cond1 own vs1) s = (srcA C n src s).bind (kL2 (tgA C n t) (condA (evT C n) cond) (srcA C n src1) (tgA C n t1) (condA (evT C n) cond1) ((ev C n e).bind toVal) own vs1) := rfl
theorem kL2_e {a a1 : Rv → Ac Unit} {mt mt1 : Ac Bool} {m1 : Ac (List Dat)} {me : Ac Dat} {own vs1 : List Nat} {ds : List Dat} {env : List Slt} {sto : List Mob} : kL2 a mt m1 a1 mt1 me own vs1 ds ⟨env, sto⟩ = (tr2A (st2A a mt m1 (stpA a1 mt1 me vs1) own vs1) [] ds ⟨wipS env own, sto⟩).bind (kLc2 env own) := rfl
theorem ty_upd : mtTy .update = "dict" := rfl
theorem m_upd {xs ys : List (Key × Dat)} : mthV .update (.mb (.dct xs)) [.dct ys] = if xs.length + ys.length ≤ sizeLine then some (some (.dct (mergeD xs ys)), .val .non) else none := rfl
end
end En
set_option maxHeartbeats 4000000
/-! Ep2: a program's facts as data: the hook, the tables, the world. -/
namespace En
open PySem PySem.Spec PyProof.Rows L2
/-- where a def lies: a name of the module; a class's; behind a record of a class (property, classmethod, staticmethod) -/
inductive Pth where
  | g (x : Str) | m (c x : Str) | d (c x : Str)
def recG (K : PySem.W.Frag) (p : Addr) : Addr := match K.lookup p with
  | some ⟨_, _, .fields vs, _⟩ => (match vs.toList with
    | .ref g :: _ => g
    | _ => 0)
  | _ => 0
def Pth.ad (K : PySem.W.Frag) : Pth → Addr
  | .g x => He.ga K x
  | .m c x => He.ma K (He.ga K c) x
  | .d c x => recG K (He.ma K (He.ga K c) x)
structure FD where
  at_ : Pth
  name : Str
  qual : Str
  params : Arguments
  body : List Stmt
  scope : Scope
  N : List Str
  ps : List Str
  st : List (Nat × Nat)
  ir : List Sm
  kd : List (Str × Dat) := []
def FD.want (d : FD) : He.FnW := some (d.name, d.qual, d.params, .stmts d.body, d.scope, mainGlobals, [], builtinsNs)
def seenF (K : PySem.W.Frag) (a : Addr) : He.FnW := match K.lookup a with
  | some ⟨_, _, .func q, _⟩ => some (q.name, q.qualname, q.params, q.body, q.scope, q.globals, q.closure, q.builtins)
  | _ => none
def FD.good (K : PySem.W.Frag) (d : FD) : Bool := match K.lookup (d.at_.ad K) with
  | some ⟨_, _, .func q, _⟩ => PySem.W.keepIn K (.ref (d.at_.ad K)) && (PySem.W.codeIn K q.code d.qual && (He.dflB K q.defaults [] && KdE K q.kwdefaults d.kd))
  | _ => false
theorem FD.fun_of {K : PySem.W.Frag} {d : FD} (h1 : seenF K (d.at_.ad K) = d.want) (h2 : d.good K = true) : ∃ fd, FunD K d.name d.qual d.params d.body d.scope [] [] (d.at_.ad K) fd ∧ KdE K fd.kwdefaults d.kd = true := by
  unfold seenF at h1
  unfold FD.good at h2
  split at h2
  · rename_i oc od q osl lk
    simp only [lk] at h1
    simp only [Bool.and_eq_true] at h2
    obtain ⟨k1, k2, k3, k4⟩ := h2
    obtain ⟨m1, m2, m3, m4, m5, m6, m7, m8, m9, m10, m11, m12, m13, m14, m15⟩ := q
    have e : (some (m1, m2, m3, m4, m5, m6, m7, m15) : He.FnW) = some (d.name, d.qual, d.params, .stmts d.body, d.scope, mainGlobals, [], builtinsNs) := h1
    simp only [Option.some.injEq, Prod.mk.injEq] at e
    obtain ⟨rfl, rfl, rfl, rfl, rfl, rfl, rfl, rfl⟩ := e
    exact ⟨_, ⟨⟨oc, od, m8, m9, m10, m11, m12, m13, m14, osl, rfl, lk, k2, He.dflB_ok k3, .inl rfl⟩, k1⟩, k4⟩
  · cases h2
/-! ### the hook -/
abbrev AlP : Type := Bool × List He.FnW × List (Option (List (Option (Str × Int))))
abbrev TabP : Type := (PySem.W.Frag → Addr) × List Str
def lookP (ck : PySem.W.Frag → Bool) (fs : List FD) (ts : List TabP) (K : PySem.W.Frag) : AlP := (ck K && fs.all fun d => d.good K, fs.map fun d => seenF K (d.at_.ad K), ts.map fun t => He.dicW K (t.1 K))
def wantP (fs : List FD) (ts : List TabP) (w : World) : AlP := (true, fs.map FD.want, ts.map fun t => some (He.keysIn w.params t.2))
def SaysP (ck : PySem.W.Frag → Bool) (fs : List FD) (ts : List TabP) (w : World) (K : PySem.W.Frag) : Prop := lookP ck fs ts K = wantP fs ts w
/-- what an object leads to, as far as the facts ask -/
def refS (o : Obj) : List Addr := match o.data with
  | .seq its _ => its.toList.flatMap He.refV
  | .dict es _ => es.toList.flatMap fun e => He.refV e.val
  | .func q => He.refV q.code ++ (He.refV q.defaults ++ He.refV q.kwdefaults)
  | .cls cd => cd.ns :: cd.mro.flatMap He.refV
  | .fields vs => (match vs.toList with
    | v :: _ => He.refV v
    | [] => [])
  | _ => []
def goP (g : Addr → Option Obj) : Nat → List Addr → List Addr
  | 0, as => as
  | n + 1, as => as ++ goP g n (as.flatMap fun a => match g a with
    | some o => refS o
    | none => [])
/-- the list first, then what is asked of it -/
def fcL {β : Type} : List (Addr × Obj) → (List (Addr × Obj) → β) → β
  | [], k => k []
  | x :: r, k => fcL r fun ys => k (x :: ys)
theorem fcL_eq {β : Type} : ∀ (l : List (Addr × Obj)) (k : List (Addr × Obj) → β), fcL l k = k l
  | [], _ => rfl
  | x :: r, k => fcL_eq r fun ys => k (x :: ys)
def obsP (n : Nat) (ck : PySem.W.Frag → Bool) (fs : List FD) (ts : List TabP) (g : Addr → Option Obj) : AlP := fcL (He.frG g (cStatics :: sysModules :: goP g n [mainGlobals])) fun K => lookP ck fs ts K
def hookP (n : Nat) (ck : PySem.W.Frag → Bool) (fs : List FD) (ts : List TabP) : PySem.W.Hook where
  α := AlP
  obs := fun s => obsP n ck fs ts s.heap.get?
  val := fun w => wantP fs ts w
  says := fun w h => ∃ K : PySem.W.Frag, K.In h ∧ SaysP ck fs ts w K
  of := fun _ _ e => ⟨_, He.frG_in, (fcL_eq _ _).symm.trans e⟩
  keeps := fun _ _ _ ⟨K, hK, c⟩ k => ⟨K, PySem.W.Frag.In.keeps hK k, c⟩
theorem obsP_eq {n : Nat} {ck : PySem.W.Frag → Bool} {fs : List FD} {ts : List TabP} {g : Addr → Option Obj} {s : Shared} (h : ∀ a, g a = s.heap.get? a) : obsP n ck fs ts g = (hookP n ck fs ts).obs s := by
  obtain rfl : g = s.heap.get? := funext h
  rfl
section
variable {ck : PySem.W.Frag → Bool} {fs : List FD} {ts : List TabP} {w : World} {K : PySem.W.Frag}
theorem SaysP.ok1 (c : SaysP ck fs ts w K) : ck K = true := by
  have h := congrArg (fun z : AlP => z.1) c
  simp only [lookP, wantP, Bool.and_eq_true] at h
  exact h.1
theorem SaysP.fn (c : SaysP ck fs ts w K) {i : Nat} {d : FD} (h : fs[i]? = some d) : ∃ fd, FunD K d.name d.qual d.params d.body d.scope [] [] (d.at_.ad K) fd ∧ KdE K fd.kwdefaults d.kd = true := by
  have h1 := congrArg (fun z : AlP => z.1) c
  simp only [lookP, wantP, Bool.and_eq_true] at h1
  have h2 : fs.map (fun d => seenF K (d.at_.ad K)) = fs.map FD.want := congrArg (fun z : AlP => z.2.1) c
  have h3 := congrArg (fun l => l[i]?) h2
  simp only [List.getElem?_map, h, Option.map_some, Option.some.injEq] at h3
  exact FD.fun_of h3 (List.all_eq_true.mp h1.2 d (List.mem_of_getElem? h))
theorem SaysP.tab (c : SaysP ck fs ts w K) {i : Nat} {t : TabP} (h : ts[i]? = some t) : ∃ es n, KDict K w (t.1 K) es n := by
  have h2 : ts.map (fun t => He.dicW K (t.1 K)) = ts.map (fun t => some (He.keysIn w.params t.2)) := congrArg (fun z : AlP => z.2.2) c
  have h3 := congrArg (fun l => l[i]?) h2
  simp only [List.getElem?_map, h, Option.map_some, Option.some.injEq] at h3
  exact He.dicW_ok h3
end
/-! ### facts of classes as Bools -/
def smB (K : PySem.W.Frag) : Bool := match K.lookup sysModules with
  | some o => decide (o.cls = .type "dict")
  | none => false
theorem smB_ok {K : PySem.W.Frag} (h : smB K = true) : ∃ o, K.lookup sysModules = some o ∧ o.cls = .type "dict" := by
  unfold smB at h
  split at h
  · rename_i o e
    exact ⟨o, e, of_decide_eq_true h⟩
  · cases h
section
variable {K : PySem.W.Frag} {C C' f p : Addr} {m : Str}
def clsB (K : PySem.W.Frag) (C : Addr) : Bool := PySem.W.plainGet K C Str.empty && (PySem.W.hasDictIn K C && (PySem.W.plainOver K C && He.eqO (PySem.W.findIn K (.ref C) "__setattr__") (some (some (.builtin "object.__setattr__")))))
theorem clsB_ok (h : clsB K C = true) : Cls K C := by
  simp only [clsB, Bool.and_eq_true] at h
  exact ⟨h.1, h.2.1, h.2.2.1, He.eqO_ok h.2.2.2⟩
def methB (K : PySem.W.Frag) (C : Addr) (m : Str) (f : Addr) : Bool := He.eqO (PySem.W.findIn K (.ref C) m) (some (some (.ref f))) && (PySem.W.isFn K (.ref f) && PySem.W.keepIn K (.ref f))
theorem methB_ok (h : methB K C m f = true) : Meth K C m f := by
  simp only [methB, Bool.and_eq_true] at h
  exact ⟨He.eqO_ok h.1, h.2.1, h.2.2⟩
def mkB (K : PySem.W.Frag) (C f : Addr) : Bool := PySem.W.makesIn K C && (He.eqO (PySem.W.findIn K (.ref C) "__init__") (some (some (.ref f))) && (PySem.W.isFn K (.ref f) && PySem.W.keepIn K (.ref C)))
theorem mkB_ok (h : mkB K C f = true) : Mk K C f := by
  simp only [mkB, Bool.and_eq_true] at h
  exact ⟨h.1, He.eqO_ok h.2.1, h.2.2.1, h.2.2.2⟩
def recB (K : PySem.W.Frag) (p : Addr) (T : String) (g : Addr) : Bool := match PySem.W.recIn K p T with
  | some (.ref a :: _) => decide (a = g)
  | _ => false
theorem recB_ok {T : String} (h : recB K p T f = true) : ∃ rest, PySem.W.recIn K p T = some (.ref f :: rest) := by
  unfold recB at h
  split at h
  · rename_i a rest e
    obtain rfl : a = f := of_decide_eq_true h
    exact ⟨rest, e⟩
  · cases h
def propB (K : PySem.W.Frag) (C : Addr) (m : Str) (p g : Addr) : Bool := He.eqO (PySem.W.findIn K (.ref C) m) (some (some (.ref p))) && (He.eqO (PySem.W.specialIn K (.ref p) "__get__") (some (some (.builtin "property.__get__"))) && (decide (PySem.W.takesIn K (.ref p) = some true) && recB K p "property" g))
theorem propB_ok (h : propB K C m p f = true) : PropOf K C m p f := by
  simp only [propB, Bool.and_eq_true, decide_eq_true_eq] at h
  exact ⟨He.eqO_ok h.1, He.eqO_ok h.2.1, h.2.2.1, recB_ok h.2.2.2⟩
def metaOf (K : PySem.W.Frag) (C : Addr) : Value := (PySem.W.typeIn K (.ref C)).getD .none
def creadB (K : PySem.W.Frag) (C : Addr) : Bool := PySem.W.readsIn K C (metaOf K C) && He.eqO (PySem.W.specialIn K (.ref C) "__getattribute__") (some (some (.builtin "type.__getattribute__")))
theorem creadB_ok (h : creadB K C = true) : ClX.CRead K C (metaOf K C) := by
  simp only [creadB, Bool.and_eq_true] at h
  exact ⟨h.1, He.eqO_ok h.2⟩
/-- what is found through the class: a record that is asked by g -/
def getB (K : PySem.W.Frag) (C : Addr) (mc : Value) (m : Str) (g : String) (p : Addr) : Bool := match PySem.W.findCls K (.ref C) mc m with
  | some (.get (.builtin g') (.ref p') .none (.ref C')) => decide (g' = g) && (decide (p' = p) && decide (C' = C))
  | _ => false
theorem getB_ok {mc : Value} {g : String} (h : getB K C mc m g p = true) : PySem.W.findCls K (.ref C) mc m = some (.get (.builtin g) (.ref p) .none (.ref C)) := by
  unfold getB at h
  split at h
  · rename_i g' p' C' e
    simp only [Bool.and_eq_true, decide_eq_true_eq] at h
    obtain ⟨rfl, rfl, rfl⟩ := h
    exact e
  · cases h
def cmetB (K : PySem.W.Frag) (C : Addr) (m : Str) (p f : Addr) : Bool := creadB K C && (getB K C (metaOf K C) m "classmethod.__get__" p && (recB K p "classmethod" f && PySem.W.fnIn K f))
theorem cmetB_ok (h : cmetB K C m p f = true) : ∃ mc pa, ClX.CRead K C mc ∧ ClX.CMet K C mc m pa f := by
  simp only [cmetB, Bool.and_eq_true] at h
  exact ⟨_, p, creadB_ok h.1, getB_ok h.2.1, recB_ok h.2.2.1, h.2.2.2⟩
def smetB (K : PySem.W.Frag) (C : Addr) (m : Str) (p f : Addr) : Bool := creadB K C && (getB K C (metaOf K C) m "staticmethod.__get__" p && (recB K p "staticmethod" f && (PySem.W.handedIn (.ref f) && PySem.W.keepIn K (.ref f))))
theorem smetB_ok (h : smetB K C m p f = true) : ∃ mc, ClX.CRead K C mc ∧ SMet K C mc m f := by
  simp only [smetB, Bool.and_eq_true] at h
  obtain ⟨rest, e⟩ := recB_ok h.2.2.1
  exact ⟨_, creadB_ok h.1, ⟨p, rest, getB_ok h.2.1, e⟩, h.2.2.2.1, h.2.2.2.2⟩
def oeqB (K : PySem.W.Frag) (C f : Addr) : Bool := He.eqO (PySem.W.findIn K (.ref C) "__eq__") (some (some (.ref f))) && (PySem.W.isFn K (.ref f) && (He.eqO (PySem.W.findIn K (.ref C) "__ne__") (some (some (.builtin "object.__ne__"))) && decide (PySem.W.mroIn K C (.type "object") = some true)))
theorem oeqB_ok (h : oeqB K C f = true) : OEqC K C f := by
  simp only [oeqB, Bool.and_eq_true, decide_eq_true_eq] at h
  exact ⟨He.eqO_ok h.1, h.2.1, He.eqO_ok h.2.2.1, h.2.2.2⟩
def insB (K : PySem.W.Frag) (C : Addr) : Bool := clsB K C && (He.eqO (PySem.W.findIn K (.ref C) "__class__") (some (some (.builtin "object.__class__"))) && (He.eqO (PySem.W.specialIn K (.builtin "object.__class__") "__get__") (some (some (.builtin "getset_descriptor.__get__"))) &&
  (decide (PySem.W.takesIn K (.builtin "object.__class__") = some true) && decide (PySem.W.mroIn K C (.type "object") = some true))))
theorem insB_ok (h : insB K C = true) : InsF K C := by
  simp only [insB, Bool.and_eq_true, decide_eq_true_eq] at h
  exact ⟨clsB_ok h.1, He.eqO_ok h.2.1, He.eqO_ok h.2.2.1, h.2.2.2.1, h.2.2.2.2⟩
end
section
variable {K : PySem.W.Frag} {C C' f p : Addr} {m : Str}
/-! errors, calls of instances, own in-place operators -/
def xcfB (K : PySem.W.Frag) (C : Addr) : Bool := PySem.W.hasDictIn K C && (He.eqO (PySem.W.findIn K (.ref C) "__getattribute__") (some (some (.builtin "BaseException.__getattribute__"))) && (He.eqO (PySem.W.findIn K (.ref C) "__getattr__") (some none) && (decide (PySem.W.subIn K (.ref C) (.type "BaseException") = some true) &&
  (He.eqO (PySem.W.findIn K (.ref C) "__class__") (some (some (.builtin "object.__class__"))) && (He.eqO (PySem.W.specialIn K (.builtin "object.__class__") "__get__") (some (some (.builtin "getset_descriptor.__get__"))) && (decide (PySem.W.takesIn K (.builtin "object.__class__") = some true) && decide (PySem.W.mroIn K C (.type "object") = some true)))))))
theorem xcfB_ok (h : xcfB K C = true) : XcF K C := by
  simp only [xcfB, Bool.and_eq_true, decide_eq_true_eq] at h
  exact ⟨h.1, He.eqO_ok h.2.1, He.eqO_ok h.2.2.1, h.2.2.2.1, He.eqO_ok h.2.2.2.2.1, He.eqO_ok h.2.2.2.2.2.1, h.2.2.2.2.2.2.1, h.2.2.2.2.2.2.2⟩
def famB (K : PySem.W.Frag) (C : Addr) (B : String) : Bool := PySem.W.excInitIn K C [.type B, .type "Exception", .type "BaseException", .type "object"] (B ++ ".__new__") && PySem.W.excOver K C [.type B, .type "Exception", .type "BaseException", .type "object"]
def exB (K : PySem.W.Frag) (C f : Addr) : Bool := (famB K C "ValueError" || (famB K C "RuntimeError" || famB K C "LookupError")) && (PySem.W.hasDictIn K C && (He.eqO (PySem.W.findIn K (.ref C) "__setattr__") (some (some (.builtin "object.__setattr__"))) && (decide (PySem.W.subIn K (.ref C) (.type "BaseException") = some true) &&
  (decide (PySem.W.typeIn K (.ref C) = some (.type "type")) && (PySem.W.keepIn K (.ref C) && (He.eqO (PySem.W.findIn K (.ref C) "__init__") (some (some (.ref f))) && decide (PySem.W.typeIn K (.ref f) = some (.type "function"))))))))
theorem exB_ok (h : exB K C f = true) : ExC K C f := by
  simp only [exB, Bool.and_eq_true, Bool.or_eq_true, decide_eq_true_eq] at h
  obtain ⟨h0, h1, h2, h3, h4, h5, h6, h7⟩ := h
  refine ⟨?_, h1, He.eqO_ok h2, h3, h4, h5, He.eqO_ok h6, h7⟩
  rcases h0 with h0 | h0 | h0
  · simp only [famB, Bool.and_eq_true] at h0
    exact ⟨_, _, _, _, PySem.F.excBase_ValueError, PySem.F.store_ValueError, h0.1, h0.2⟩
  · simp only [famB, Bool.and_eq_true] at h0
    exact ⟨_, _, _, _, PySem.F.excBase_RuntimeError, PySem.F.store_RuntimeError, h0.1, h0.2⟩
  · simp only [famB, Bool.and_eq_true] at h0
    exact ⟨_, _, _, _, PySem.F.excBase_LookupError, PySem.F.store_LookupError, h0.1, h0.2⟩
def ccoB (K : PySem.W.Frag) (C f : Addr) : Bool := He.eqO (PySem.W.findIn K (.ref C) "__call__") (some (some (.ref f))) && (PySem.W.isFn K (.ref f) && PySem.W.fnIn K f)
theorem ccoB_ok (h : ccoB K C f = true) : StX.CallO K C f := by
  simp only [ccoB, Bool.and_eq_true] at h
  exact ⟨He.eqO_ok h.1, h.2.1, h.2.2⟩
def iopB (K : PySem.W.Frag) (C : Addr) (b : Bool) (f : Addr) : Bool := He.eqO (PySem.W.findIn K (.ref C) (dunderI (iopO b).info.2)) (some (some (.ref f))) && (PySem.W.isFn K (.ref f) && PySem.W.selfFirst K C)
theorem iopB_ok {b : Bool} (h : iopB K C b f = true) : IopC K C (iopO b) f := by
  simp only [iopB, Bool.and_eq_true] at h
  exact ⟨He.eqO_ok h.1, h.2.1, h.2.2⟩
end
/-! dicts of the module -/
def kdL (K : PySem.W.Frag) : List DictEntry → List (Str × Dat) → Bool
  | [], [] => true
  | e :: r, p :: kvs => (match e.key with
    | .str x _ => decide (x = p.1) && datB K p.2 e.val
    | _ => false) && kdL K r kvs
  | _, _ => false
theorem kdL_ok {W : Wd} {z : Str} : ∀ {es : List DictEntry} {kvs : List (Str × Dat)}, kdL W.K es kvs = true → (∃ dd e v, kvs.lookup z = some dd ∧ es.find? (·.key.isStr z) = some e ∧ L2.RelV v e.val ∧ ∀ g, R W g dd v) ∨ (kvs.lookup z = none ∧ es.find? (·.key.isStr z) = none ∧ es.any (·.refKey) = false)
  | [], [], _ => .inr ⟨rfl, rfl, rfl⟩
  | [], _ :: _, h => by cases h
  | _ :: _, [], h => by cases h
  | e :: r, p :: kvs, h => by
    have h' : ((match e.key with
      | .str x _ => decide (x = p.1) && datB W.K p.2 e.val
      | _ => false) && kdL W.K r kvs) = true := h
    rw [Bool.and_eq_true] at h'
    obtain ⟨h1, h2⟩ := h'
    cases ek : e.key with
    | str x t =>
      simp only [ek, Bool.and_eq_true, decide_eq_true_eq] at h1
      obtain ⟨hx, hd⟩ := h1
      obtain ⟨k, d⟩ := p
      have hx' : x = k := hx
      subst hx'
      by_cases hz : x = z
      · subst hz
        obtain ⟨v, k1, k2⟩ := datB_ok hd
        refine .inl ⟨d, e, v, ?_, ?_, k1, k2⟩
        · rw [List.lookup_cons, beq_self_eq_true]
        · rw [List.find?_cons]
          have : e.key.isStr x = true := by
            rw [ek]
            simp [Value.isStr]
          rw [this]
      · have e1 : ((x, d) :: kvs).lookup z = kvs.lookup z := by
          rw [List.lookup_cons, beq_false_of_ne (fun q => hz q.symm)]
        have e3 : e.key.isStr z = false := by
          rw [ek]
          simp [Value.isStr, hz]
        have e2 : (e :: r).find? (·.key.isStr z) = r.find? (·.key.isStr z) := by
          rw [List.find?_cons, e3]
        have e4 : e.refKey = false := by
          simp [DictEntry.refKey, ek]
        rw [e1, e2]
        rcases kdL_ok (z := z) h2 with h | ⟨a1, a2, a3⟩
        · exact .inl h
        · exact .inr ⟨a1, a2, by rw [List.any_cons, e4, a3]; rfl⟩
    | _ =>
      simp only [ek] at h1
      cases h1
def kdB (K : PySem.W.Frag) (a : Addr) (kvs : List (Str × Dat)) : Bool := match K.lookup a with
  | some ⟨_, _, .dict es _, _⟩ => kdL K es.toList kvs
  | _ => false
theorem kdB_ok {W : Wd} {w : World} {a : Addr} {kvs : List (Str × Dat)} (h : kdB W.K a kvs = true) (hk : ∃ es n, KDict W.K w a es n) : KdOk W w a kvs := by
  refine ⟨hk, fun z => ?_⟩
  unfold kdB at h
  split at h
  · rename_i es n sl lk
    have e : PySem.W.nsIn W.K a z = (match es.toList.find? (·.key.isStr z) with
      | some e => some (some e.val)
      | none => if es.toList.any (·.refKey) then none else some none) := by
      unfold PySem.W.nsIn
      rw [lk]
      rfl
    rcases kdL_ok (z := z) h with ⟨dd, en, v, k1, k2, k3, k4⟩ | ⟨k1, k2, k3⟩
    · refine .inl ⟨dd, en.val, v, k1, ?_, k3, k4⟩
      rw [e, k2]
    · refine .inr ⟨k1, ?_⟩
      rw [e, k2, k3]
      rfl
  · cases h
end En
set_option maxHeartbeats 4000000
/-! Ep3: a program as data, its world. -/
namespace En
open PySem PySem.Spec PyProof.Rows L2
structure Prg where
  cn : List Str
  fs : List (Nat × FD)
  fg : List (Str × Nat)
  dats : List (Str × Dat)
  frees : List Str
  bnds : List ((Nat × Nat × List Str) × List Sl)
  meths : List ((Nat × Str) × Nat)
  props : List ((Nat × Str) × Nat)
  ctors : List (Nat × Nat)
  eqs : List (Nat × Nat)
  cms : List ((Nat × Str) × Nat)
  sms : List ((Nat × Str) × Nat)
  flds : List (Nat × Str)
  kds : List (Str × List (Str × Dat))
  isC : List ((Nat × Nat) × Bool)
  isT : List ((Nat × String) × Bool)
  isN : List ((String × Nat) × Bool)
  /- errors: class, the def of its __init__, the fields, the number of values -/
  errs : List (Nat × (Nat × List (Str × Nat) × Nat))
  xfs : List (Nat × Str)
  xms : List ((Nat × Nat) × Bool)
  isX : List ((Nat × Nat) × Bool)
  isXT : List ((Nat × String) × Bool)
  ccos : List (Nat × Nat)
  iops : List ((Nat × Bool) × Nat)
/-- self by its place, all others by their names -/
def kwJs : List Sl → Option (List Nat)
  | [] => some []
  | .kw j :: r => (kwJs r).map (j :: ·)
  | _ :: _ => none
def kwSl : List Sl → Option (List Nat)
  | .pos 0 :: r => kwJs r
  | _ => none
theorem kwJs_ok : ∀ {sl : List Sl} {js : List Nat}, kwJs sl = some js → sl = js.map Sl.kw
  | [], js, h => by
    cases h
    rfl
  | .kw j :: r, js, h => by
    obtain ⟨q, h1, rfl⟩ := Option.map_eq_some_iff.mp h
    rw [List.map_cons, ← kwJs_ok h1]
  | .pos _ :: _, _, h => by cases h
  | .dft _ :: _, _, h => by cases h
  | .rest _ :: _, _, h => by cases h
theorem kwSl_ok {sl : List Sl} {js : List Nat} (h : kwSl sl = some js) : sl = .pos 0 :: js.map Sl.kw := by
  unfold kwSl at h
  split at h
  · rw [kwJs_ok h]
  · cases h
namespace Prg
variable (S : Prg)
def gl (x : Str) : Option Gv := match S.dats.lookup x with
  | some d => some (.dat d)
  | none => match S.fg.lookup x with
    | some f => some (.fn f)
    | none => (ixOf x S.cn).map .cls
def tb : Tb where
  T := ⟨fun c c' => S.isC.lookup (c, c'), fun c n => S.isT.lookup (c, n), fun n c => S.isN.lookup (n, c), fun c c' => S.isX.lookup (c, c'), fun c n => S.isXT.lookup (c, n)⟩
  flds := fun c f => S.flds.contains (c, f)
  isf := fun f => S.flds.any fun p => p.2 == f
  isp := fun f => S.props.any fun p => p.1.2 == f
  ism := fun f => S.meths.any fun p => p.1.2 == f
  meth := fun c m => S.meths.lookup (c, m)
  prop := fun c m => S.props.lookup (c, m)
  bnd := fun f n ks => S.bnds.lookup (f, n, ks)
  gl := S.gl
  bl := fun x => S.frees.contains x
  ctor := fun c => S.ctors.lookup c
  cmet := fun c m => S.cms.lookup (c, m)
  smet := fun c m => S.sms.lookup (c, m)
  eqm := fun c => S.eqs.lookup c
  kd := fun x => S.kds.lookup x
  exc := fun c => (S.errs.lookup c).map fun q => (q.2.1, q.2.2)
  xf := fun c f => S.xfs.contains (c, f)
  isx := fun f => S.xfs.any fun p => p.2 == f
  xm := fun c c' => S.xms.lookup (c, c')
  cco := fun c => S.ccos.lookup c
  iop := fun c b => S.iops.lookup (c, b)
  xkw := fun c ks => (S.errs.lookup c).bind fun q => if ks = [] then none else (S.bnds.lookup (q.1, 1, ks)).bind kwSl
def tab (f : Nat) : Option Fn := (S.fs.lookup f).map fun d => ⟨d.N, d.ps.length, d.ir⟩
def ca (K : PySem.W.Frag) (c : Nat) : Addr := He.ga K (S.cn.getD c Str.empty)
def fa (K : PySem.W.Frag) (f : Nat) : Addr := match S.fs.lookup f with
  | some d => d.at_.ad K
  | none => 0
def wd (K : PySem.W.Frag) : Wd := ⟨K, S.ca K, S.fa K⟩
/-- the record behind which a class's def lies -/
def rp (K : PySem.W.Frag) (c : Nat) (m : Str) : Addr := He.ma K (S.ca K c) m
def ck (K : PySem.W.Frag) : Bool := smB K && ((S.dats.all fun p => glB K p.1 p.2) && ((S.frees.all fun x => (He.Fa.free x).ok K) && ((S.cn.all fun x => (He.Fa.glo x).ok K) && ((S.fg.all fun p => He.eqO (PySem.W.nsIn K mainGlobals p.1) (some (some (.ref (S.fa K p.2))))) &&
  ((S.meths.all fun p => clsB K (S.ca K p.1.1) && methB K (S.ca K p.1.1) p.1.2 (S.fa K p.2)) && ((S.props.all fun p => clsB K (S.ca K p.1.1) && propB K (S.ca K p.1.1) p.1.2 (S.rp K p.1.1 p.1.2) (S.fa K p.2)) && ((S.ctors.all fun p => mkB K (S.ca K p.1) (S.fa K p.2)) &&
  ((S.eqs.all fun p => oeqB K (S.ca K p.1) (S.fa K p.2)) && ((S.cms.all fun p => cmetB K (S.ca K p.1.1) p.1.2 (S.rp K p.1.1 p.1.2) (S.fa K p.2)) && ((S.sms.all fun p => smetB K (S.ca K p.1.1) p.1.2 (S.rp K p.1.1 p.1.2) (S.fa K p.2)) &&
  ((S.flds.all fun p => clsB K (S.ca K p.1) && He.eqO (PySem.W.findIn K (.ref (S.ca K p.1)) p.2) (some none)) && ((S.kds.all fun p => He.eqO (PySem.W.nsIn K mainGlobals p.1) (some (some (.ref (He.ga K p.1)))) && kdB K (He.ga K p.1) p.2) &&
  ((S.isC.all fun p => insB K (S.ca K p.1.1) && decide (PySem.W.kitOne K (.ref (S.ca K p.1.1)) (.ref (S.ca K p.1.2)) = some p.2)) && ((S.isT.all fun p => insB K (S.ca K p.1.1) && decide (PySem.W.kitOne K (.ref (S.ca K p.1.1)) (.type p.1.2) = some p.2)) &&
  ((S.isN.all fun p => decide (PySem.W.kitOne K (.type p.1.1) (.ref (S.ca K p.1.2)) = some p.2)) && ((S.errs.all fun p => exB K (S.ca K p.1) (S.fa K p.2.1) && p.2.2.1.all fun q => He.eqO (PySem.W.findIn K (.ref (S.ca K p.1)) q.1) (some none)) && ((S.xfs.all fun p => xcfB K (S.ca K p.1) && He.eqO (PySem.W.findIn K (.ref (S.ca K p.1)) p.2) (some none)) &&
  ((S.xms.all fun p => decide (PySem.W.exmOne K (.ref (S.ca K p.1.1)) (.ref (S.ca K p.1.2)) = some p.2)) && ((S.isX.all fun p => xcfB K (S.ca K p.1.1) && decide (PySem.W.kitOne K (.ref (S.ca K p.1.1)) (.ref (S.ca K p.1.2)) = some p.2)) && ((S.isXT.all fun p => xcfB K (S.ca K p.1.1) && decide (PySem.W.kitOne K (.ref (S.ca K p.1.1)) (.type p.1.2) = some p.2)) &&
  ((S.ccos.all fun p => ccoB K (S.ca K p.1) (S.fa K p.2)) && (S.iops.all fun p => iopB K (S.ca K p.1.1) p.1.2 (S.fa K p.2)))))))))))))))))))))))
def ts : List TabP := S.kds.map fun p => (fun K => He.ga K p.1, p.2.map (·.1))
/-- the __init__ of an error, as written -/
def errD (d : FD) (fl : List (Str × Nat)) (n : Nat) : Bool := match d.ps with
  | sf :: r => decide (mapO (inOne sf r) d.body = some fl) && (!fl.isEmpty && (decide (fl.length ≤ 900) && (decide (r.length = n) && ((sf :: r).all fun x => !(x == ("__debug__" : Str)) && !(x == ("__classdict__" : Str))))))
  | [] => false
/-- what is to be shown of each def, each call shape -/
structure Ok : Prop where
  sc : ∀ p ∈ S.fs, FnScope p.2.N p.2.ps p.2.scope ∧ ∃ n, compSs S.tb n ⟨p.2.N, p.2.scope, fun _ => true, p.2.st⟩ p.2.body = some p.2.ir
  bd : ∀ p ∈ S.bnds, ∃ d : FD, S.fs.lookup p.1.1 = some d ∧ ∀ (K : PySem.W.Frag) (fd : FuncData), FunD K d.name d.qual d.params d.body d.scope [] [] (d.at_.ad K) fd → KdE K fd.kwdefaults d.kd = true → CB K fd d.ps p.1.2.1 p.1.2.2 p.2
  pr : ∀ p ∈ S.props, S.tb.bnd p.2 1 [] = some [.pos 0]
  eq : ∀ p ∈ S.eqs, S.tb.bnd p.2 2 [] = some [.pos 0, .pos 1]
  io : ∀ p ∈ S.iops, S.tb.bnd p.2 2 [] = some [.pos 0, .pos 1]
  er : ∀ p ∈ S.errs, S.tb.bnd p.2.1 (p.2.2.2 + 1) [] = some (posSl (p.2.2.2 + 1)) ∧ ∃ d : FD, S.fs.lookup p.2.1 = some d ∧ errD d p.2.2.1 p.2.2.2 = true
end Prg
theorem lk_mem {α β : Type} [BEq α] [LawfulBEq α] {l : List (α × β)} {a : α} {b : β} (h : l.lookup a = some b) : (a, b) ∈ l := by
  induction l with
  | nil => cases h
  | cons p r ih =>
    obtain ⟨x, y⟩ := p
    rw [List.lookup_cons] at h
    split at h
    · rename_i e
      cases h
      rw [beq_iff_eq.mp e]
      exact List.mem_cons_self
    · exact List.mem_cons_of_mem _ (ih h)
theorem lk_ix {α β : Type} [BEq α] [LawfulBEq α] {l : List (α × β)} {a : α} {b : β} (h : l.lookup a = some b) : ∃ i : Nat, l[i]? = some (a, b) := List.getElem?_of_mem (lk_mem h)
theorem fs_ix {fs : List (Nat × FD)} {f : Nat} {d : FD} (h : fs.lookup f = some d) : ∃ i : Nat, (fs.map (·.2))[i]? = some d := by
  obtain ⟨i, e⟩ := lk_ix h
  exact ⟨i, by rw [List.getElem?_map, e]; rfl⟩
theorem fcons {α : Type} {P : α → Prop} {a : α} {l : List α} (h : P a) (t : ∀ p ∈ l, P p) : ∀ p ∈ a :: l, P p := fun p hp => by
  rcases List.mem_cons.mp hp with e | e
  · rw [e]
    exact h
  · exact t p e
theorem fnil {α : Type} {P : α → Prop} : ∀ p ∈ ([] : List α), P p := fun p hp => by cases hp
theorem cb_plain {K : PySem.W.Frag} {fd : FuncData} {ps ks : List Str} {n : Nat} {sl : List Sl} (cb : CB K fd ps n ks sl) {ds : List Dat} (hn : ds.length = n) {xs : List Dat} (e : permD ds [] sl = some xs) (hl : ∀ y, xs.getLast? ≠ some (.tup y)) : CBp K fd ps n ks sl := by
  rcases cb with cb | ⟨_, ⟨ps0, pv, _, _, _, hx⟩⟩
  · exact cb
  · obtain ⟨h1, _⟩ := hx ds xs hn e
    exact absurd (by rw [h1, List.getLast?_append]; rfl) (hl (ds.drop ps0.length))
theorem sl_pos1 {u : Value} {K : PySem.W.Frag} {bs : List Value} (h : SlV K [u] [] [.pos 0] bs) : bs = [u] := by
  cases h with
  | pos e t =>
    cases t
    cases e
    rfl
theorem sl_pos2 {u v : Value} {K : PySem.W.Frag} {bs : List Value} (h : SlV K [u, v] [] [.pos 0, .pos 1] bs) : bs = [u, v] := by
  cases h with
  | pos e t =>
    cases t with
    | pos e2 t2 =>
      cases t2
      cases e
      cases e2
      rfl
theorem sl_at {K : PySem.W.Frag} {us ws : List Value} : ∀ {sl : List Sl} {bs : List Value} {i j : Nat}, SlV K us ws sl bs → sl[i]? = some (.pos j) → bs[i]? = us[j]?
  | _, _, i, j, .nil, h => by simp at h
  | _, _, 0, j, .pos (i := i2) e t, h => by
    have h' : i2 = j := by simpa using h
    subst h'
    simpa using e.symm
  | _, _, 0, j, .kw e t, h => by simp at h
  | _, _, 0, j, .dft e t, h => by simp at h
  | _, _, i + 1, j, .pos e t, h => by simpa using sl_at (i := i) t (by simpa using h)
  | _, _, i + 1, j, .kw e t, h => by simpa using sl_at (i := i) t (by simpa using h)
  | _, _, i + 1, j, .dft e t, h => by simpa using sl_at (i := i) t (by simpa using h)
theorem sl_pos {K : PySem.W.Frag} {us ws bs : List Value} {n : Nat} (h : SlV K us ws (posSl n) bs) (hn : us.length = n) : bs = us := by
  have hl : bs.length = n := by
    rw [h.len]
    simp [posSl]
  refine List.ext_getElem? fun i => ?_
  by_cases hi : i < n
  · exact sl_at h (by simp [posSl, hi])
  · rw [List.getElem?_eq_none (by omega), List.getElem?_eq_none (by omega)]
theorem permD_range {ds zs : List Dat} : ∀ (m a : Nat), a + m ≤ ds.length → permD ds zs ((List.range' a m).map .pos) = some ((ds.drop a).take m)
  | 0, a, _ => by simp [permD]
  | m + 1, a, h => by
    have ha : a < ds.length := by omega
    have ih := permD_range (ds := ds) (zs := zs) m (a + 1) (by omega)
    rw [List.range'_succ, List.map_cons]
    unfold permD
    rw [ih]
    have e : (Sl.pos a).get ds zs = some ds[a] := List.getElem?_eq_getElem ha
    rw [e]
    show some (ds[a] :: (ds.drop (a + 1)).take m) = _
    rw [List.drop_eq_getElem_cons ha, List.take_succ_cons]
theorem bindsN_of {K : PySem.W.Frag} {fd : FuncData} {ps : List Str} {n : Nat} (cb : CB K fd ps n [] (posSl n)) {s : Shared} {us : List Value} (hK : K.In s.heap) (hl : us.length = n) : BindsTo s fd ⟨us, []⟩ (ps.zip us) := by
  have e : permD (List.replicate n .non) [] (posSl n) = some (List.replicate n .non) := by
    have := permD_range (ds := List.replicate n .non) (zs := []) n 0 (by simp)
    unfold posSl
    rw [List.range_eq_range', this]
    simp
  have cp := cb_plain cb (ds := List.replicate n .non) (by simp) e fun y z => by
    have hm : Dat.tup y ∈ List.replicate n Dat.non := List.mem_of_getLast? z
    have := (List.mem_replicate.mp hm).2
    cases this
  obtain ⟨bs, h1, h2⟩ := cp.to s us [] hK hl rfl
  rw [sl_pos h2 hl] at h1
  exact h1
theorem prg_fn {S : Prg} {w : World} {K : PySem.W.Frag} (ok : S.Ok) (c : SaysP S.ck (S.fs.map (·.2)) S.ts w K) {f : Nat} {d : FD} (e1 : S.fs.lookup f = some d) : ∃ fd, FunD K d.name d.qual d.params d.body d.scope [] [] (d.at_.ad K) fd ∧ FnW (S.wd K) S.tb f ⟨d.N, d.ps.length, d.ir⟩ fd d.ps ∧ S.fa K f = d.at_.ad K ∧ KdE K fd.kwdefaults d.kd = true := by
  have fa_of : S.fa K f = d.at_.ad K := by
    unfold Prg.fa
    rw [e1]
  obtain ⟨fd, F, hkd⟩ := c.fn (fs_ix e1).choose_spec
  obtain ⟨sc, n, hc⟩ := ok.sc _ (lk_mem e1)
  have F' : FunD (S.wd K).K d.name d.qual d.params d.body d.scope [] [] ((S.wd K).fa f) fd := by
    show FunD K _ _ _ _ _ _ _ (S.fa K f) fd
    rw [fa_of]
    exact F
  have bd : ∀ n ks sl, S.tb.bnd f n ks = some sl → CB K fd d.ps n ks sl := fun n ks sl e => by
    obtain ⟨d', e1', h⟩ := ok.bd _ (lk_mem e)
    have e2 : S.fs.lookup f = some d' := e1'
    rw [e1] at e2
    cases e2
    exact h K fd F hkd
  refine ⟨fd, F, fnW_of (W := S.wd K) F' sc hc rfl bd (fun cc e => ?_) (fun cc m e => ?_), fa_of, hkd⟩
  · have hb2 : S.tb.bnd f 2 [] = some [.pos 0, .pos 1] := by
      rcases e with e | ⟨b, e⟩
      · exact ok.eq _ (lk_mem e)
      · exact ok.io _ (lk_mem e)
    have cb := cb_plain (bd 2 [] _ hb2) (ds := [.non, .non]) rfl (xs := [.non, .non]) rfl (by intro y z; cases z)
    have hl : d.ps.length = 2 := cb.len.symm
    refine ⟨hl, fun s u v hK => ?_⟩
    obtain ⟨bs, h1, h2⟩ := cb.to s [u, v] [] hK rfl rfl
    rw [sl_pos2 h2] at h1
    exact h1
  · have cb := cb_plain (bd 1 [] _ (ok.pr _ (lk_mem e))) (ds := [.non]) rfl (xs := [.non]) rfl (by intro y z; cases z)
    have hl : d.ps.length = 1 := cb.len.symm
    refine ⟨hl, fun s u hK => ?_⟩
    obtain ⟨bs, h1, h2⟩ := cb.to s [u] [] hK rfl rfl
    rw [sl_pos1 h2] at h1
    exact h1
theorem prg_ws {S : Prg} {w : World} {K : PySem.W.Frag} {h : Heap} {mg : Str → Option Value} (X : K.In h) (G : h.Ns mainGlobals mg) (ok : S.Ok) (c : SaysP S.ck (S.fs.map (·.2)) S.ts w K) : Ws w (S.wd K) S.tb S.tab mg := by
  have c0 := c.ok1
  simp only [Prg.ck, Bool.and_eq_true, List.all_eq_true, decide_eq_true_eq] at c0
  obtain ⟨c0s, c1, c2, c3, c4, c5, c6, c7, c8, c9, c10, c11, c12, c13, c14, c15, c16, c17, c18, c19, c20, c21, c22⟩ := c0
  have fa_of : ∀ {f : Nat} {d : FD}, S.fs.lookup f = some d → S.fa K f = d.at_.ad K := fun {f d} e => by
    unfold Prg.fa
    rw [e]
  have tab_of : ∀ {f : Nat} {fn : Fn}, S.tab f = some fn → ∃ d, S.fs.lookup f = some d ∧ fn = ⟨d.N, d.ps.length, d.ir⟩ := fun {f fn} e => by
    obtain ⟨d, e1, e2⟩ := Option.map_eq_some_iff.mp e
    exact ⟨d, e1, e2.symm⟩
  have has : ∀ {f n : Nat} {ks : List Str} {sl : List Sl}, S.tb.bnd f n ks = some sl → ∃ d, S.fs.lookup f = some d ∧ ∀ fd, FunD K d.name d.qual d.params d.body d.scope [] [] (d.at_.ad K) fd → KdE K fd.kwdefaults d.kd = true → CB K fd d.ps n ks sl := fun {f n ks sl} e => by
    obtain ⟨d, e1, e2⟩ := ok.bd _ (lk_mem e)
    exact ⟨d, e1, e2 K⟩
  have both : ∀ (P : Program) (base : Heap) (k cc i : Nat) (fl : List (Str × Nat)) (n : Nat), S.errs.lookup cc = some (i, fl, n) → ErrC P w K mg base k (S.ca K cc) fl n ∧ ∀ ks js, (if ks = [] then none else (S.bnds.lookup (i, 1, ks)).bind kwSl) = some js → ErrK P w K mg base k (S.ca K cc) fl n ks js := by
    intro P base k cc i fl n e1
    obtain ⟨hx, hfl⟩ := c16 _ (lk_mem e1)
    obtain ⟨hbn, d, e2, hd⟩ := ok.er _ (lk_mem e1)
    obtain ⟨fd, F, hkd⟩ := c.fn (fs_ix e2).choose_spec
    have F0 := F
    obtain ⟨d', e3, hcb⟩ := has hbn
    have e2' : S.fs.lookup i = some d := e2
    rw [e2'] at e3
    cases e3
    have cb := hcb fd F hkd
    obtain ⟨sc, _⟩ := ok.sc _ (lk_mem e2)
    have ha : S.fa K i = d.at_.ad K := fa_of e2
    have T : ExC K (S.ca K cc) (S.fa K i) := exB_ok hx
    unfold Prg.errD at hd
    split at hd
    · rename_i sf r eps
      simp only [Bool.and_eq_true, Bool.not_eq_true', decide_eq_true_eq, List.all_eq_true] at hd
      obtain ⟨d1, d2, d3, d4, d5⟩ := hd
      rw [eps] at sc
      have hne : fl ≠ [] := fun z => by
        rw [z] at d2
        cases d2
      have hbb : ∀ (s : Shared) (us : List Value), K.In s.heap → us.length = n + 1 → BindsTo s fd ⟨us, []⟩ ((sf :: r).zip us) := fun s us hK hl => by
        rw [← eps]
        exact bindsN_of cb hK hl
      obtain ⟨oc, od, dV, kV, doc, pm, an, cdv, ct, osl, rfl, lk, hcd, hD, hK⟩ := F.ex
      have lk' : K.lookup (S.fa K i) = some ⟨oc, od, .func (PySem.W.fnOf d.name d.qual d.params d.body d.scope dV kV doc pm an cdv ct), osl⟩ := by
        rw [ha]
        exact lk
      have FF : FnG P w K mg base k (S.fa K i) (PySem.W.fnOf d.name d.qual d.params d.body d.scope dV kV doc pm an cdv ct) (sf :: r) (spE (S.ca K cc) fl n) := by
        have z := exI_of (W := S.wd K) (P := P) (w := w) (mg := mg) (base := base) (k := k) (f := S.fa K i) (C := S.ca K cc) lk' hcd sc T d1 (fun p hp => He.eqO_ok (hfl p hp)) hne d3 (fun x hx => by
          have := d5 x hx
          exact this)
        rw [d4] at z
        exact z
      have hl : (sf :: r).length = n + 1 := by rw [List.length_cons, d4]
      refine ⟨⟨S.fa K i, _, sf :: r, T, FF, hl, hbb⟩, fun ks js hj => ?_⟩
      split at hj
      · cases hj
      rename_i g0
      obtain ⟨sl, g1, g2⟩ := Option.bind_eq_some_iff.mp hj
      obtain ⟨d'', g3, g4⟩ := has g1
      rw [e2'] at g3
      cases g3
      have g5 := g4 _ F0 hkd
      have g6 := kwSl_ok g2
      rw [eps] at g5
      refine ⟨S.fa K i, _, sf :: r, T, FF, hl, ?_⟩
      rw [← g6]
      rcases g5 with g5 | ⟨rfl, ps0, pv, q1, q2, q3, q4⟩
      · exact g5
      · exact absurd rfl g0
    · cases hd
  refine ⟨?_, ?_, ?_, ?_, ?_, ?_, ?_, ?_, ?_, ?_, ?_, ?_, ?_, ?_, ?_, ?_, ?_, ?_, ?_, ?_, ?_, ?_, ?_, ?_, ?_⟩
  · intro f fn e
    obtain ⟨d, e1, rfl⟩ := tab_of e
    obtain ⟨fd, _, FW, _, _⟩ := prg_fn ok c e1
    exact ⟨fd, d.ps, FW⟩
  · intro f n ks sl e
    obtain ⟨d, e1, _⟩ := has e
    exact ⟨_, by show (S.fs.lookup f).map _ = _; rw [e1]; rfl⟩
  · intro cc m f e
    obtain ⟨d, e1, _⟩ := has (ok.pr _ (lk_mem e))
    exact ⟨_, by show (S.fs.lookup f).map _ = _; rw [e1]; rfl⟩
  · intro f fn e
    obtain ⟨d, e1, rfl⟩ := tab_of e
    obtain ⟨fd, F, _⟩ := c.fn (fs_ix e1).choose_spec
    show PySem.W.keepIn K (.ref (S.fa K f)) = true
    rw [fa_of e1]
    exact F.kp
  · intro cc m f e
    have := c5 _ (lk_mem e)
    exact ⟨clsB_ok this.1, methB_ok this.2⟩
  · intro cc m f e
    have := c6 _ (lk_mem e)
    exact ⟨clsB_ok this.1, _, propB_ok this.2⟩
  · intro x d e
    have e' : S.gl x = some (.dat d) := e
    unfold Prg.gl at e'
    split at e'
    · rename_i d' q
      cases e'
      exact glB_ok (W := S.wd K) X G (c1 _ (lk_mem q))
    · split at e'
      · cases e'
      · obtain ⟨i, _, z⟩ := Option.map_eq_some_iff.mp e'
        cases z
  · intro x cc e
    have e' : S.gl x = some (.cls cc) := e
    unfold Prg.gl at e'
    split at e'
    · cases e'
    · split at e'
      · cases e'
      · obtain ⟨i, q, z⟩ := Option.map_eq_some_iff.mp e'
        cases z
        have hi := ixOf_ok q
        have := He.glo_ok X G (c3 x (List.mem_of_getElem? hi))
        rw [this]
        show _ = some (Value.ref (He.ga K (S.cn.getD cc Str.empty)))
        rw [List.getD_eq_getElem?_getD, hi]
        rfl
  · intro x f e
    have e' : S.gl x = some (.fn f) := e
    unfold Prg.gl at e'
    split at e'
    · cases e'
    · split at e'
      · rename_i f' q
        cases e'
        exact PySem.W.mg_of X G (He.eqO_ok (c4 _ (lk_mem q)))
      · obtain ⟨i, _, z⟩ := Option.map_eq_some_iff.mp e'
        cases z
  · intro x e
    have e' : S.frees.contains x = true := e
    exact He.free_ok X G (c2 x (by simpa using e'))
  · intro cc f e
    have e' : S.flds.contains (cc, f) = true := e
    have := c11 (cc, f) (by simpa using e')
    exact ⟨clsB_ok this.1, He.eqO_ok this.2⟩
  · refine ⟨fun a b k e => ?_, fun a b k e => ?_, fun a b k e => ?_, fun a b k e => ?_, fun a b k e => ?_, smB_ok c0s⟩
    · have := c13 _ (lk_mem e)
      exact ⟨insB_ok this.1, this.2⟩
    · have := c14 _ (lk_mem e)
      exact ⟨insB_ok this.1, this.2⟩
    · exact c15 _ (lk_mem e)
    · have := c19 _ (lk_mem e)
      exact ⟨xcfB_ok this.1, this.2⟩
    · have := c20 _ (lk_mem e)
      exact ⟨xcfB_ok this.1, this.2⟩
  · intro cc f e
    obtain ⟨d, e1, _⟩ := has (ok.eq _ (lk_mem e))
    exact ⟨_, by show (S.fs.lookup f).map _ = _; rw [e1]; rfl⟩
  · intro cc f e
    exact mkB_ok (c7 _ (lk_mem e))
  · intro cc m f e
    have z : cmetB K (S.ca K cc) m (S.rp K cc m) (S.fa K f) = true := c9 ((cc, m), f) (lk_mem e)
    exact cmetB_ok (K := K) (C := S.ca K cc) (m := m) (p := S.rp K cc m) (f := S.fa K f) z
  · intro cc m f e
    have z : smetB K (S.ca K cc) m (S.rp K cc m) (S.fa K f) = true := c10 ((cc, m), f) (lk_mem e)
    exact smetB_ok (K := K) (C := S.ca K cc) (m := m) (p := S.rp K cc m) (f := S.fa K f) z
  · intro cc f e
    exact oeqB_ok (c8 _ (lk_mem e))
  · intro x kvs e
    obtain ⟨i, e1⟩ := lk_ix e
    have hk := c12 _ (lk_mem e)
    refine ⟨He.ga K x, PySem.W.mg_of X G (He.eqO_ok hk.1), kdB_ok (W := S.wd K) hk.2 ?_⟩
    have e2 : S.ts[i]? = some (fun K => He.ga K x, kvs.map (·.1)) := by
      unfold Prg.ts
      rw [List.getElem?_map, e1]
      rfl
    exact c.tab e2
  · intro P base k cc q e
    obtain ⟨⟨i, fl, n⟩, e1, rfl⟩ := Option.map_eq_some_iff.mp e
    exact (both P base k cc i fl n e1).1
  · intro P base k cc ks js q e e0
    obtain ⟨⟨i, fl, n⟩, e1, rfl⟩ := Option.map_eq_some_iff.mp e0
    obtain ⟨⟨i', fl', n'⟩, e2, e3⟩ := Option.bind_eq_some_iff.mp e
    rw [e1] at e2
    cases e2
    exact (both P base k cc i fl n e1).2 ks js e3
  · intro cc f e
    have e' : S.xfs.contains (cc, f) = true := e
    have := c17 (cc, f) (by simpa using e')
    exact ⟨xcfB_ok this.1, He.eqO_ok this.2⟩
  · intro a b k e
    exact c18 _ (lk_mem e)
  · intro cc f e
    exact ccoB_ok (c21 _ (lk_mem e))
  · intro cc b f e
    exact iopB_ok (c22 _ (lk_mem e))
  · intro cc b f e
    obtain ⟨d, e1, _⟩ := has (ok.io _ (lk_mem e))
    exact ⟨_, by show (S.fs.lookup f).map _ = _; rw [e1]; rfl⟩
end En
set_option maxHeartbeats 4000000
/-! En29: the evaluator over any table; what a generated head wants. -/
namespace En
open PySem PySem.Spec PyProof.Rows L2
abbrev calS (tb : Tb) (tab : Nat → Option Fn) : Nat → Nat → List Dat → List Mob → Cou := calT tb 1000000 100 tab
abbrev ccS (tb : Tb) (tab : Nat → Option Fn) (k : Nat) : Ec := ⟨tb, calS tb tab (k + 1), calS tb tab k, 1000000⟩
theorem calS_eq {tb : Tb} {tab : Nat → Option Fn} {k f : Nat} {fn : Fn} (h : tab f = some fn) {ds : List Dat} {sto : List Mob} : calS tb tab (k + 2) f ds sto = bodyC (sqS (ccS tb tab k) 100 fn.ir) fn.N.length ds sto := by
  show (match tab f with
    | some fn => bodyC (seqsA (ex ⟨tb, calT tb 1000000 100 tab (k + 1), calT tb 1000000 100 tab k, 1000000⟩ 100) fn.ir) fn.N.length ds sto
    | none => .stuck) = _
  rw [h]
  rfl
theorem lk_map {α β γ : Type} [BEq α] (g : β → γ) (l : List (α × β)) (a : α) : (l.lookup a).map g = (l.map fun p => (p.1, g p.2)).lookup a := by
  induction l with
  | nil => rfl
  | cons p r ih =>
    obtain ⟨x, y⟩ := p
    rw [List.map_cons, List.lookup_cons, List.lookup_cons]
    cases a == x with
    | true => rfl
    | false => exact ih
theorem dfS {K : PySem.W.Frag} {d : Dat} {u v : Value} (h : ∃ u, some v = some u ∧ datB K d u = true) : datB K d v = true := by
  obtain ⟨u, e, h⟩ := h
  cases e
  exact h
theorem kwc1 {α β γ : Type} {D : Addr} {x : Str} {v : Value} {t : Sem α} {r a : β} {q : α} {k1 : Option Value → Sem β} {k2 : β → Sem γ} {k3 : γ → Sem α} (e : t = ((nsGet D x >>= k1) >>= k2) >>= k3) (e1 : k1 (some v) = pure a) (e2 : k2 a >>= k3 = pure q) : KwChain D [(x, v)] t q := ⟨β, γ, k1, k2, k3, a, e, e1, e2⟩
end En
set_option maxHeartbeats 4000000
/-! Ep4: the evaluator stepped by simp: errors, f-strings, try, sets of texts, instances called. -/
namespace En
open PySem PySem.Spec PyProof.Rows L2
section
variable {C : Ec} {n : Nat} {s : Stt}
/-! errors made -/
def erO (c : Nat) (s : Stt) : Option (List (Str × Dat)) → Out Dat
  | some fs => .ok (.err c fs) s
  | none => .stuck
theorem erO_e {c : Nat} {fs : List (Str × Dat)} : erO c s (some fs) = .ok (.err c fs) s := rfl
def kErr (c : Nat) (fl : List (Str × Nat)) (k : Nat) (ds : List Dat) : Ac Dat := fun s => if ds.length = k ∧ k ≤ 1000 then erO c s (xFs ds fl []) else .stuck
theorem kErr_e {c k : Nat} {fl : List (Str × Nat)} {ds : List Dat} : kErr c fl k ds s = if ds.length = k ∧ k ≤ 1000 then erO c s (xFs ds fl []) else .stuck := rfl
def exO (c : Nat) : Option (List (Str × Nat) × Nat) → Out (List Dat) → Out Dat
  | some p, o => o.bind (kErr c p.1 p.2)
  | none, _ => .stuck
theorem exO_e {c : Nat} {p : List (Str × Nat) × Nat} {o : Out (List Dat)} : exO c (some p) o = o.bind (kErr c p.1 p.2) := rfl
theorem errA_e {c : Nat} {ms : Ac (List Dat)} : C.errA c ms s = exO c (C.t.exc c) (ms s) := by
  unfold Ec.errA exO
  cases C.t.exc c with
  | none => rfl
  | some p =>
    show Out.bind (ms s) _ = Out.bind (ms s) _
    congr 1
    funext ds s
    unfold kErr erO
    by_cases h : ds.length = p.2 ∧ p.2 ≤ 1000
    · rw [if_pos h, if_pos h]
      cases xFs ds p.1 [] <;> rfl
    · rw [if_neg h, if_neg h]
      rfl
def kVal : Dat → Ac Rv := fun d s => .ok (.val d) s
theorem kVal_e {d : Dat} : kVal d s = .ok (.val d) s := rfl
theorem e_xmk {c : Nat} {es : List Ex} : ev C (n + 1) (.xmk c es) s = (exO c (C.t.exc c) (sqD C n es s)).bind kVal := by
  show Out.bind (C.errA c _ s) _ = _
  rw [errA_e]
  rfl
def pcO (s : Stt) : Option (List Dat) → Out (List Dat)
  | some ds => .ok ds s
  | none => .stuck
theorem pcO_e {ds : List Dat} : pcO s (some ds) = .ok ds s := rfl
def kPck (m : Nat) (js : List Nat) (zs : List Dat) : Ac (List Dat) := fun s => if zs.length = m then pcO s (pickK js zs) else .stuck
theorem kPck_e {m : Nat} {js : List Nat} {zs : List Dat} : kPck m js zs s = if zs.length = m then pcO s (pickK js zs) else .stuck := rfl
theorem e_xmq {c : Nat} {zs : List Ex} {js : List Nat} : ev C (n + 1) (.xmq c zs js) s = (exO c (C.t.exc c) ((sqD C n zs s).bind (kPck zs.length js))).bind kVal := by
  show Out.bind (C.errA c _ s) _ = _
  rw [errA_e]
  congr 2
  show Out.bind _ _ = Out.bind _ _
  congr 1
  funext ds s
  unfold kPck pcO
  by_cases h : ds.length = zs.length
  · rw [if_pos h, if_pos h]
    cases pickK js ds <;> rfl
  · rw [if_neg h, if_neg h]
    rfl
theorem pkk_nil {zs : List Dat} : pickK [] zs = some [] := rfl
def pkO : Option Dat → Option (List Dat) → Option (List Dat)
  | some v, some l => some (v :: l)
  | _, _ => none
theorem pkO_e {v : Dat} {l : List Dat} : pkO (some v) (some l) = some (v :: l) := rfl
theorem pkk_cons {j : Nat} {js : List Nat} {zs : List Dat} : pickK (j :: js) zs = pkO zs[j]? (pickK js zs) := by
  show mapO _ (j :: js) = _
  unfold mapO pkO pickK
  cases zs[j]? <;> cases mapO (fun j => zs[j]?) js <;> rfl
theorem xf_nil {vs : List Dat} {l : List (Str × Dat)} : xFs vs [] l = some l := rfl
def xfO (vs : List Dat) (f : Str) (r : List (Str × Nat)) (l : List (Str × Dat)) : Option Dat → Option (List (Str × Dat))
  | some v => xFs vs r ((f, v) :: l)
  | none => none
theorem xfO_e {vs : List Dat} {f : Str} {r : List (Str × Nat)} {l : List (Str × Dat)} {v : Dat} : xfO vs f r l (some v) = xFs vs r ((f, v) :: l) := rfl
theorem xf_cons {vs : List Dat} {f : Str} {i : Nat} {r : List (Str × Nat)} {l : List (Str × Dat)} : xFs vs ((f, i) :: r) l = xfO vs f r l vs[i]? := by
  rw [xFs]
  unfold xfO
  cases vs[i]? <;> rfl
/-! their fields -/
def xaR (s : Stt) : Bool → Option Dat → Out Rv
  | true, some d => .ok (.val d) s
  | _, _ => .stuck
theorem xaR_e {d : Dat} : xaR s true (some d) = .ok (.val d) s := rfl
def xaO (xf : Nat → Str → Bool) (f : Str) (s : Stt) : Option Vw → Out Rv
  | some (.dt (.err c fs)) => xaR s (xf c f) (fs.lookup f)
  | _ => .stuck
theorem xaO_e {xf : Nat → Str → Bool} {f : Str} {c : Nat} {fs : List (Str × Dat)} : xaO xf f s (some (.dt (.err c fs))) = xaR s (xf c f) (fs.lookup f) := rfl
def kXat (xf : Nat → Str → Bool) (f : Str) : Rv → Ac Rv := fun x s => xaO xf f s (look s x)
theorem kXat_e {xf : Nat → Str → Bool} {f : Str} {x : Rv} : kXat xf f x s = xaO xf f s (look s x) := rfl
theorem e_xat {e : Ex} {f : Str} : ev C (n + 1) (.xat e f) s = (ev C n e s).bind (kXat C.t.xf f) := by
  show Out.bind _ _ = Out.bind _ _
  congr 1
  funext x s
  rw [look_bind]
  unfold kXat xaO
  cases look s x with
  | none => rfl
  | some w =>
    cases w with
    | mb o => rfl
    | dt d =>
      cases d <;> first | rfl | skip
      rename_i c fs
      show Ac.opt (if C.t.xf c f = true then (fs.lookup f).map Rv.val else none) s = xaR s (C.t.xf c f) (fs.lookup f)
      cases C.t.xf c f <;> cases fs.lookup f <;> rfl
/-! raise, try -/
def kRse : Dat → Ac Flw := fun d s => .exc d s
theorem kRse_e {d : Dat} : kRse d s = .exc d s := rfl
theorem x_rse {c : Nat} {es : List Ex} : ex C (n + 1) (.rse c es) s = (exO c (C.t.exc c) (sqD C n es s)).bind kRse := by
  show Out.bind (C.errA c _ s) _ = _
  rw [errA_e]
  rfl
abbrev hdX (C : Ec) (n : Nat) (h : List Nat × Option Nat × List Sm) : HdA := ⟨h.1, h.2.1, seqsA (ex C n) h.2.2⟩
def sqX (C : Ec) (n : Nat) (b : List Sm) : Ac Flw := seqsA (ex C n) b
theorem x_try {b : List Sm} {hs : List (List Nat × Option Nat × List Sm)} : ex C (n + 1) (.tryS b hs) s = cauA C.t.xm (hs.map (hdX C n)) (seqsA (ex C n) b s) := rfl
theorem cau_ok {xm : Nat → Nat → Option Bool} {hs : List HdA} {f : Flw} : cauA xm hs (.ok f s) = .ok f s := rfl
theorem cau_exc {xm : Nat → Nat → Option Bool} {hs : List HdA} {c : Nat} {fs : List (Str × Dat)} : cauA xm hs (.exc (.err c fs) s) = hdsA xm c fs hs s := rfl
/-! f-strings -/
def fmO (s : Stt) : Option Vw → Out Rv
  | some (.dt (.str y)) => if y.length ≤ sizeLine then .ok (.val (.str y)) s else .stuck
  | some (.dt (.int i)) => if i.natAbs.log2 < 1920 then .ok (.val (.str (toString i))) s else .stuck
  | _ => .stuck
theorem fmO_s {y : Str} : fmO s (some (.dt (.str y))) = if y.length ≤ sizeLine then .ok (.val (.str y)) s else .stuck := rfl
theorem fmO_i {i : Int} : fmO s (some (.dt (.int i))) = if i.natAbs.log2 < 1920 then .ok (.val (.str (toString i))) s else .stuck := rfl
def kFmt : Rv → Ac Rv := fun x s => fmO s (look s x)
theorem kFmt_e {x : Rv} : kFmt x s = fmO s (look s x) := rfl
theorem e_fmt {e : Ex} : ev C (n + 1) (.fmt e) s = (ev C n e s).bind kFmt := by
  show Out.bind _ _ = Out.bind _ _
  congr 1
  funext x s
  rw [look_bind]
  unfold kFmt fmO
  cases look s x with
  | none => rfl
  | some w =>
    cases w with
    | mb o => rfl
    | dt d =>
      cases d <;> first | rfl | skip
      · rename_i i
        show (if _ then Ac.ret _ else Ac.stk) s = _
        rw [ite_ap]
        rfl
      · rename_i i
        show (if _ then Ac.ret _ else Ac.stk) s = _
        rw [ite_ap]
        rfl
def jnX (C : Ec) (n : Nat) (es : List Ex) (acc : Str) : Ac Rv := jnA (ev C n) es acc
theorem e_jn {es : List Ex} : ev C (n + 1) (.jn es) s = jnX C n es Str.empty s := rfl
def kJn (C : Ec) (n : Nat) (es : List Ex) (acc : Str) : Rv → Ac Rv := fun x s => match x with
  | .val (.str y) => if (acc ++ y).length ≤ sizeLine then jnX C n es (acc ++ y) s else .stuck
  | _ => .stuck
theorem jn_nil {acc : Str} : jnX C n [] acc s = .ok (.val (.str acc)) s := rfl
theorem jn_cons {e : Ex} {es : List Ex} {acc : Str} : jnX C n (e :: es) acc s = (ev C n e s).bind (kJn C n es acc) := by
  show Out.bind _ _ = Out.bind _ _
  congr 1
  funext x s
  unfold kJn
  cases x with
  | own o => rfl
  | bor i => rfl
  | val d =>
    cases d <;> first | rfl | skip
    show (if _ then jnA _ _ _ else Ac.stk) s = _
    rw [ite_ap]
    rfl
theorem kJn_e {es : List Ex} {acc y : Str} : kJn C n es acc (.val (.str y)) s = if (acc ++ y).length ≤ sizeLine then jnX C n es (acc ++ y) s else .stuck := rfl
/-! sets of texts -/
def ssO (s : Stt) : Option (List Str) → Out Rv
  | some xs => if xs.length < 63 then .ok (.own (.lst ((srtS (addsS xs)).map .str))) s else .stuck
  | none => .stuck
theorem ssO_e {xs : List Str} : ssO s (some xs) = if xs.length < 63 then .ok (.own (.lst ((srtS (addsS xs)).map .str))) s else .stuck := rfl
def ssP (s : Stt) : Option Vw → Out Rv
  | some w => ssO s (w.lst.bind strsOf)
  | none => .stuck
theorem ssP_e {w : Vw} : ssP s (some w) = ssO s (w.lst.bind strsOf) := rfl
def kSs : Rv → Ac Rv := fun x s => ssP s (look s x)
theorem kSs_e {x : Rv} : kSs x s = ssP s (look s x) := rfl
theorem e_ss {e : Ex} : ev C (n + 1) (.ss e) s = (ev C n e s).bind kSs := by
  show Out.bind _ _ = Out.bind _ _
  congr 1
  funext x s
  rw [look_bind]
  unfold kSs ssP
  cases look s x with
  | none => rfl
  | some w =>
    show (match w.lst.bind strsOf with
      | some xs => if xs.length < 63 then Ac.ret (Rv.own (.lst ((srtS (addsS xs)).map .str))) else Ac.stk
      | none => Ac.stk) s = ssO s (w.lst.bind strsOf)
    cases w.lst.bind strsOf with
    | none => rfl
    | some xs =>
      show (if _ then Ac.ret _ else Ac.stk) s = _
      rw [ite_ap]
      rfl
end
end En
set_option maxHeartbeats 4000000
/-! ShD: shared defs: law. -/
namespace Sh
open PySem PySem.Spec PyProof.Rows L2 En
/- 125: _law_begin -/
def N125 : List Str := ["_law_script"]
def p125 : List Str := ["_law_script"]
def ir125 : List Sm := [
  (.ret (some (.sto (.dic [((.con (.str "cells")), (.bin .add (.slot 0) (.lst [(.con (.int 0))]))), ((.con (.str "at")), (.con (.int 0))), ((.con (.str "left")), (.con (.int 0))), ((.con (.str "used")), (.con (.int 0)))]))))]
/- 126: _law_next -/
def N126 : List Str := ["_law_draw", "_law_many", "_law_cell", "_law_cells", "_law_number", "_law_k"]
def p126 : List Str := ["_law_draw", "_law_many"]
def ir126 : List Sm := [
  (.ife (.cmp .gt (.sub (.slot 0) (.con (.str "left"))) (.con (.int 0))) [(.asg (.tup [(.slot 2), (.sub (.slot 0) (.con (.str "left")))]) (.tup [(.sub (.slot 0) (.con (.str "left"))), (.bin .fdiv (.sub (.slot 0) (.con (.str "left"))) (.slot 1))])), (.ret (some (.bin .mod (.slot 2) (.slot 1))))] []),
  (.asg (.slot 3) (.sub (.slot 0) (.con (.str "cells")))),
  (.asg (.slot 2) (.sub (.slot 3) (.bin .mod (.sub (.slot 0) (.con (.str "at"))) (.bi .len (.slot 3) [])))),
  (.asg (.sub (.slot 0) (.con (.str "at"))) (.bin .add (.sub (.slot 0) (.con (.str "at"))) (.con (.int 1)))),
  (.ife (.and (.cmp .ge (.slot 2) (.bin .pow (.con (.int 10)) (.con (.int 18)))) (.cmp .le (.sub (.slot 0) (.con (.str "at"))) (.bi .len (.slot 3) []))) [(.asg (.sub (.slot 0) (.con (.str "left"))) (.bin .fdiv (.slot 2) (.slot 1))), (.ret (some (.bin .mod (.slot 2) (.slot 1))))] []),
  (.asg (.sub (.slot 0) (.con (.str "used"))) (.bin .add (.sub (.slot 0) (.con (.str "used"))) (.con (.int 1)))),
  (.asg (.slot 4) (.bin .add (.bin .mod (.slot 2) (.con (.int 1000000007))) (.bin .mul (.bin .mul (.con (.int 7919)) (.sub (.slot 0) (.con (.str "used")))) (.sub (.slot 0) (.con (.str "used")))))),
  (.for (.slot 5) (.ex (.tup [(.sub (.slot 0) (.con (.str "at"))), (.sub (.slot 0) (.con (.str "used")))])) [(.asg (.slot 4) (.bin .mod (.bin .mul (.bin .add (.bin .add (.slot 4) (.bin .mul (.con (.int 31)) (.slot 5))) (.con (.int 7))) (.con (.int 48271))) (.con (.int 2147483647)))), (.asg (.slot 4) (.bin .mod (.bin .mul (.slot 4) (.bin .add (.con (.int 69621)) (.bin .mul (.con (.int 2)) (.bin .mod (.slot 5) (.con (.int 1000)))))) (.con (.int 2147483629))))] []),
  (.ret (some (.bin .mod (.bin .fdiv (.slot 4) (.con (.int 7))) (.slot 1))))]
/- 127: _law_pick -/
def N127 : List Str := ["_law_draw", "_law_some"]
def p127 : List Str := ["_law_draw", "_law_some"]
def ir127 : List Sm := [
  (.ret (some (.sub (.slot 1) (.call 126 [(.slot 0), (.bi .len (.slot 1) [])] [] [.pos 0, .pos 1]))))]
/- 128: _law_reserved -/
def N128 : List Str := ["_law_some"]
def p128 : List Str := []
def ir128 : List Sm := [
  (.asg (.slot 0) (.con (.str "act and anyone breach day does done else for forever hands may"))),
  (.asg (.slot 0) (.bin .add (.slot 0) (.con (.str " must not or parties repeat role so term then to until wait")))),
  (.ret (some (.mth (.bin .add (.slot 0) (.con (.str " when within"))) .split [(.con (.str " "))])))]
/- 129: _law_words -/
def N129 : List Str := ["_law_draw", "_law_many", "_law_letters", "_law_found", "_law_size", "_law_signs", "_law_k", "_law_word", "_law_free", "_law_sign"]
def p129 : List Str := ["_law_draw", "_law_many"]
def ir129 : List Sm := [
  (.asg (.tup [(.slot 2), (.slot 3)]) (.tup [(.con (.str "abcdefghijklmnopqrstuvwxyz")), (.sto (.lst []))])),
  (.whl (.cmp .lt (.bi .len (.slot 3) []) (.slot 1)) [(.asg (.slot 4) (.lst [(.con (.int 1)), (.bin .add (.con (.int 2)) (.call 126 [(.slot 0), (.con (.int 4))] [] [.pos 0, .pos 1])), (.bin .add (.con (.int 1)) (.call 126 [(.slot 0), (.con (.int 12))] [] [.pos 0, .pos 1]))])), (.asg (.slot 5) (.lc (.call 127 [(.slot 0), (.slot 2)] [] [.pos 0, .pos 1]) (.slot 6) (.rng1 (.call 127 [(.slot 0), (.slot 4)] [] [.pos 0, .pos 1])) none [6])), (.asg (.slot 7) (.mth (.con (.str "")) .join [(.slot 5)])), (.ife (.cmp .isin (.slot 7) (.bin .add (.slot 3) (.call 128 [] [] []))) [(.asg (.slot 8) (.lc (.bin .add (.bin .add (.con (.str "z")) (.slot 9)) (.con (.str "z"))) (.slot 9) (.ex (.slot 2)) none [9])), (.asg (.slot 7) (.sub (.lc (.slot 6) (.slot 6) (.ex (.slot 8)) (some (.cmp .notin (.slot 6) (.slot 3))) [6]) (.con (.int 0))))] []), (.exp (.mth (.slot 3) .append [(.slot 7)]))]),
  (.ret (some (.slot 3)))]
/- 130: _law_world -/
def N130 : List Str := ["_law_draw", "_law_most", "_law_acts", "_law_words_here", "_law_people", "_law_jobs", "_law_deeds", "_law_pairs", "_law_job", "_law_world_here"]
def p130 : List Str := ["_law_draw", "_law_most", "_law_acts"]
def ir130 : List Sm := [
  (.asg (.slot 3) (.call 129 [(.slot 0), (.con (.int 8))] [] [.pos 0, .pos 1])),
  (.asg (.slot 4) (.slc (.slot 3) none (some (.bin .add (.con (.int 1)) (.call 126 [(.slot 0), (.con (.int 3))] [] [.pos 0, .pos 1]))))),
  (.asg (.slot 5) (.slc (.slot 3) (some (.con (.int 3))) (some (.bin .add (.con (.int 3)) (.call 126 [(.slot 0), (.bin .add (.slot 1) (.con (.int 1)))] [] [.pos 0, .pos 1]))))),
  (.asg (.slot 6) (.slc (.slot 3) (some (.con (.int 5))) (some (.bin .add (.con (.int 6)) (.call 126 [(.slot 0), (.slot 2)] [] [.pos 0, .pos 1]))))),
  (.ife (.cmp .eq (.call 126 [(.slot 0), (.con (.int 4))] [] [.pos 0, .pos 1]) (.con (.int 0))) [(.asg (.sub (.slot 6) (.con (.int 0))) (.sub (.slot 4) (.con (.int 0))))] []),
  (.asg (.slot 7) (.bi .tuple (.lc (.tup [(.slot 8), (.call 127 [(.slot 0), (.slot 4)] [] [.pos 0, .pos 1])]) (.slot 8) (.ex (.slot 5)) none [8]) [])),
  (.asg (.slot 9) (.sto (.dic [((.con (.str "people")), (.bi .tuple (.slot 4) [])), ((.con (.str "roles")), (.slot 7)), ((.con (.str "acts")), (.slot 6))]))),
  (.exp (.mth (.slot 9) .update [(.dic [((.con (.str "left")), (.con (.int 0))), ((.con (.str "days")), (.con (.int 3))), ((.con (.str "seen")), (.con (.int 0))), ((.con (.str "bent")), (.con (.int 0))), ((.con (.str "how")), (.con (.int 1)))])])),
  (.ret (some (.slot 9)))]
/- 131: _law_who -/
def N131 : List Str := ["_law_draw", "_law_world_here", "_law_jobs", "_law_pair"]
def p131 : List Str := ["_law_draw", "_law_world_here"]
def ir131 : List Sm := [
  (.asg (.slot 2) (.lc (.sub (.slot 3) (.con (.int 0))) (.slot 3) (.ex (.sub (.slot 1) (.con (.str "roles")))) none [3])),
  (.ret (some (.call 127 [(.slot 0), (.bin .add (.bin .add (.bin .mul (.bi .list (.sub (.slot 1) (.con (.str "people"))) []) (.con (.int 2))) (.bin .mul (.slot 2) (.con (.int 2)))) (.lst [(.con (.str "anyone"))]))] [] [.pos 0, .pos 1])))]
/- 132: _law_leaf -/
def N132 : List Str := ["_law_draw", "_law_world_here", "_law_who_here", "_law_deed", "_law_days", "_law_more", "_law_whos", "_law_some", "_law_turn"]
def p132 : List Str := ["_law_draw", "_law_world_here"]
def ir132 : List Sm := [
  (.par2 2 3 [(.call 131 [(.slot 0), (.slot 1)] [] [.pos 0, .pos 1]), (.call 127 [(.slot 0), (.sub (.slot 1) (.con (.str "acts")))] [] [.pos 0, .pos 1])]),
  (.par2 4 5 [(.bin .add (.con (.int 1)) (.call 126 [(.slot 0), (.sub (.slot 1) (.con (.str "days")))] [] [.pos 0, .pos 1])), (.call 131 [(.slot 0), (.slot 1)] [] [.pos 0, .pos 1])]),
  (.asg (.slot 6) (.ite (.cmp .eq (.slot 2) (.slot 5)) (.tup [(.slot 2)]) (.tup [(.slot 2), (.slot 5)]))),
  (.asg (.slot 7) (.lst [(.tup [(.con (.str "must")), (.slot 2), (.slot 3), (.slot 4), (.con .non)]), (.tup [(.con (.str "ban")), (.slot 2), (.slot 3), (.slot 4), (.con .non)])])),
  (.asg (.slot 7) (.bin .add (.slot 7) (.lst [(.tup [(.con (.str "may")), (.slot 2), (.slot 3), (.slot 4)]), (.tup [(.con (.str "wait")), (.slot 4)]), (.sub (.slot 7) (.con (.int 0)))]))),
  (.asg (.slot 7) (.bin .add (.slot 7) (.lst [(.tup [(.con (.str "breach")), (.slot 6)]), (.tup [(.con (.str "done"))])]))),
  (.asg (.sub (.slot 1) (.con (.str "seen"))) (.bin .add (.sub (.slot 1) (.con (.str "seen"))) (.con (.int 1)))),
  (.asg (.slot 8) (.ite (.cmp .eq (.sub (.slot 1) (.con (.str "seen"))) (.sub (.slot 1) (.con (.str "bent")))) (.sub (.slot 1) (.con (.str "how"))) (.con (.int 0)))),
  (.ret (some (.sub (.slot 7) (.bin .mod (.bin .add (.call 126 [(.slot 0), (.con (.int 7))] [] [.pos 0, .pos 1]) (.slot 8)) (.con (.int 7))))))]
/- 133: _law_starts_done -/
def N133 : List Str := ["_law_tree", "_law_k"]
def p133 : List Str := ["_law_tree"]
def ir133 : List Sm := [
  (.ife (.cmp .isin (.sub (.slot 0) (.con (.int 0))) (.tup [(.con (.str "then")), (.con (.str "and"))])) [(.ret (some (.cmp .eq (.lc (.slot 1) (.slot 1) (.ex (.sub (.slot 0) (.con (.int 1)))) (some (.nt (.call 133 [(.slot 1)] [] [.pos 0]))) [1]) (.lst []))))] []),
  (.ife (.cmp .eq (.sub (.slot 0) (.con (.int 0))) (.con (.str "or"))) [(.ret (some (.cmp .ne (.lc (.slot 1) (.slot 1) (.ex (.sub (.slot 0) (.con (.int 1)))) (some (.call 133 [(.slot 1)] [] [.pos 0])) [1]) (.lst []))))] []),
  (.ife (.cmp .eq (.sub (.slot 0) (.con (.int 0))) (.con (.str "until"))) [(.ret (some (.call 133 [(.sub (.slot 0) (.con (.int 1)))] [] [.pos 0])))] []),
  (.ret (some (.or (.cmp .eq (.sub (.slot 0) (.con (.int 0))) (.con (.str "done"))) (.and (.cmp .eq (.sub (.slot 0) (.con (.int 0))) (.con (.str "repeat"))) (.call 133 [(.sub (.slot 0) (.con (.int 2)))] [] [.pos 0])))))]
/- 134: _law_term -/
def N134 : List Str := ["_law_draw", "_law_world_here", "_law_deep", "_law_way", "_law_first", "_law_who_here", "_law_deed", "_law_days", "_law_kids", "_law_k", "_law_last"]
def p134 : List Str := ["_law_draw", "_law_world_here", "_law_deep"]
def ir134 : List Sm := [
  (.asg (.sub (.slot 1) (.con (.str "left"))) (.bin .sub (.sub (.slot 1) (.con (.str "left"))) (.con (.int 1)))),
  (.ife (.or (.cmp .lt (.slot 2) (.con (.int 2))) (.or (.cmp .lt (.sub (.slot 1) (.con (.str "left"))) (.con (.int 2))) (.cmp .eq (.call 126 [(.slot 0), (.con (.int 4))] [] [.pos 0, .pos 1]) (.con (.int 0))))) [(.ret (some (.call 132 [(.slot 0), (.slot 1)] [] [.pos 0, .pos 1])))] []),
  (.par2 3 4 [(.call 126 [(.slot 0), (.con (.int 10))] [] [.pos 0, .pos 1]), (.call 134 [(.slot 0), (.slot 1), (.bin .sub (.slot 2) (.con (.int 1)))] [] [.pos 0, .pos 1, .pos 2])]),
  (.par2 5 6 [(.call 131 [(.slot 0), (.slot 1)] [] [.pos 0, .pos 1]), (.call 127 [(.slot 0), (.sub (.slot 1) (.con (.str "acts")))] [] [.pos 0, .pos 1])]),
  (.asg (.slot 7) (.bin .add (.con (.int 1)) (.call 126 [(.slot 0), (.sub (.slot 1) (.con (.str "days")))] [] [.pos 0, .pos 1]))),
  (.ife (.cmp .lt (.slot 3) (.con (.int 4))) [(.asg (.slot 8) (.lst [(.slot 4)])), (.for (.slot 9) (.rng1 (.bin .add (.con (.int 1)) (.call 126 [(.slot 0), (.con (.int 2))] [] [.pos 0, .pos 1]))) [(.exp (.mth (.slot 8) .append [(.call 134 [(.slot 0), (.slot 1), (.bin .sub (.slot 2) (.con (.int 1)))] [] [.pos 0, .pos 1, .pos 2])]))] []), (.ret (some (.tup [(.sub (.lst [(.con (.str "then")), (.con (.str "and")), (.con (.str "or")), (.con (.str "then"))]) (.slot 3)), (.bi .tuple (.slot 8) [])])))] []),
  (.ife (.cmp .lt (.slot 3) (.con (.int 6))) [(.ret (some (.tup [(.sub (.lst [(.con (.str "must")), (.con (.str "ban"))]) (.bin .sub (.slot 3) (.con (.int 4)))), (.slot 5), (.slot 6), (.slot 7), (.slot 4)])))] []),
  (.ife (.cmp .eq (.slot 3) (.con (.int 6))) [(.asg (.slot 10) (.con .non)), (.ife (.cmp .eq (.call 126 [(.slot 0), (.con (.int 2))] [] [.pos 0, .pos 1]) (.con (.int 0))) [(.asg (.slot 10) (.call 134 [(.slot 0), (.slot 1), (.bin .sub (.slot 2) (.con (.int 1)))] [] [.pos 0, .pos 1, .pos 2]))] []), (.ret (some (.tup [(.con (.str "when")), (.slot 5), (.slot 6), (.slot 7), (.slot 4), (.slot 10)])))] []),
  (.ife (.cmp .eq (.slot 3) (.con (.int 7))) [(.ret (some (.tup [(.con (.str "until")), (.slot 4), (.slot 5), (.slot 6)])))] []),
  (.ife (.or (.cmp .eq (.slot 3) (.con (.int 8))) (.call 133 [(.slot 4)] [] [.pos 0])) [(.ret (some (.tup [(.con (.str "repeat")), (.bin .add (.con (.int 1)) (.call 126 [(.slot 0), (.con (.int 3))] [] [.pos 0, .pos 1])), (.slot 4)])))] []),
  (.ret (some (.tup [(.con (.str "forever")), (.slot 4)])))]
/- 135: _law_kids -/
def N135 : List Str := ["_law_tree"]
def p135 : List Str := ["_law_tree"]
def ir135 : List Sm := [
  (.ife (.cmp .isin (.sub (.slot 0) (.con (.int 0))) (.tup [(.con (.str "must")), (.con (.str "ban"))])) [(.ret (some (.ite (.cmp .is (.sub (.slot 0) (.con (.int 4))) (.con .non)) (.lst []) (.lst [(.sub (.slot 0) (.con (.int 4)))]))))] []),
  (.ife (.cmp .eq (.sub (.slot 0) (.con (.int 0))) (.con (.str "when"))) [(.ret (some (.ite (.cmp .is (.sub (.slot 0) (.con (.int 5))) (.con .non)) (.lst [(.sub (.slot 0) (.con (.int 4)))]) (.lst [(.sub (.slot 0) (.con (.int 4))), (.sub (.slot 0) (.con (.int 5)))]))))] []),
  (.ife (.cmp .isin (.sub (.slot 0) (.con (.int 0))) (.tup [(.con (.str "then")), (.con (.str "and")), (.con (.str "or"))])) [(.ret (some (.bi .list (.sub (.slot 0) (.con (.int 1))) [])))] []),
  (.ife (.cmp .isin (.sub (.slot 0) (.con (.int 0))) (.tup [(.con (.str "repeat")), (.con (.str "forever"))])) [(.ret (some (.lst [(.sub (.slot 0) (.neg (.con (.int 1))))])))] []),
  (.ret (some (.ite (.cmp .eq (.sub (.slot 0) (.con (.int 0))) (.con (.str "until"))) (.lst [(.sub (.slot 0) (.con (.int 1)))]) (.lst []))))]
/- 136: _law_parts -/
def N136 : List Str := ["_law_tree", "_law_found", "_law_at", "_law_kid", "_law_spot", "_law_part"]
def p136 : List Str := ["_law_tree"]
def ir136 : List Sm := [
  (.asg (.slot 1) (.lst [(.tup [(.tup []), (.slot 0)])])),
  (.for (.tup [(.slot 2), (.slot 3)]) (.enm (.call 135 [(.slot 0)] [] [.pos 0])) [(.for (.tup [(.slot 4), (.slot 5)]) (.ex (.call 136 [(.slot 3)] [] [.pos 0])) [(.exp (.mth (.slot 1) .append [(.tup [(.bin .add (.tup [(.slot 2)]) (.slot 4)), (.slot 5)])]))] [])] []),
  (.ret (some (.slot 1)))]
/- 137: _law_with -/
def N137 : List Str := ["_law_tree", "_law_spot", "_law_part", "_law_kids_here"]
def p137 : List Str := ["_law_tree", "_law_spot", "_law_part"]
def ir137 : List Sm := [
  (.ife (.cmp .eq (.slot 1) (.tup [])) [(.ret (some (.slot 2)))] []),
  (.asg (.slot 3) (.call 135 [(.slot 0)] [] [.pos 0])),
  (.asg (.sub (.slot 3) (.sub (.slot 1) (.con (.int 0)))) (.call 137 [(.sub (.slot 3) (.sub (.slot 1) (.con (.int 0)))), (.slc (.slot 1) (some (.con (.int 1))) none), (.slot 2)] [] [.pos 0, .pos 1, .pos 2])),
  (.ife (.cmp .isin (.sub (.slot 0) (.con (.int 0))) (.tup [(.con (.str "then")), (.con (.str "and")), (.con (.str "or"))])) [(.ret (some (.tup [(.sub (.slot 0) (.con (.int 0))), (.bi .tuple (.slot 3) [])])))] []),
  (.ife (.cmp .eq (.sub (.slot 0) (.con (.int 0))) (.con (.str "until"))) [(.ret (some (.bin .add (.tup [(.con (.str "until")), (.sub (.slot 3) (.con (.int 0)))]) (.slc (.slot 0) (some (.con (.int 2))) none))))] []),
  (.ife (.cmp .isin (.sub (.slot 0) (.con (.int 0))) (.tup [(.con (.str "repeat")), (.con (.str "forever"))])) [(.ret (some (.bin .add (.slc (.slot 0) none (some (.neg (.con (.int 1))))) (.tup [(.sub (.slot 3) (.con (.int 0)))]))))] []),
  (.ret (some (.slc (.bin .add (.bin .add (.slc (.slot 0) none (some (.con (.int 4)))) (.bi .tuple (.slot 3) [])) (.tup [(.con .non)])) none (some (.bi .len (.slot 0) [])))))]
/- 138: _law_levels -/
def N138 : List Str := ["_law_tree", "_law_found", "_law_spot", "_law_part"]
def p138 : List Str := ["_law_tree"]
def ir138 : List Sm := [
  (.asg (.slot 1) (.con (.int 0))),
  (.for (.tup [(.slot 2), (.slot 3)]) (.ex (.call 136 [(.slot 0)] [] [.pos 0])) [(.asg (.slot 1) (.ite (.cmp .gt (.bi .len (.slot 2) []) (.slot 1)) (.bi .len (.slot 2) []) (.slot 1)))] []),
  (.ret (some (.bin .add (.slot 1) (.con (.int 1)))))]
/- 139: _law_fits -/
def N139 : List Str := ["_law_who_here", "_law_deed", "_law_words_here", "_law_holders"]
def p139 : List Str := ["_law_who_here", "_law_deed", "_law_words_here", "_law_holders"]
def ir139 : List Sm := [
  (.ife (.or (.cmp .ne (.sub (.slot 2) (.con (.int 0))) (.con (.str "act"))) (.cmp .ne (.sub (.slot 2) (.con (.int 2))) (.slot 1))) [(.ret (some (.con (.bl false))))] []),
  (.ret (some (.or (.cmp .eq (.slot 0) (.con (.str "anyone"))) (.cmp .eq (.sub (.slot 2) (.con (.int 1))) (.mth (.slot 3) .get [(.slot 0), (.slot 0)])))))]
/- 140: _law_breach -/
def N140 : List Str := ["_law_rows", "_law_k"]
def p140 : List Str := ["_law_rows"]
def ir140 : List Sm := [
  (.ret (some (.tup [(.con (.str "breach")), (.bi .tuple (.ss (.lc (.bi .str (.slot 1) []) (.slot 1) (.ex (.slot 0)) none [1])) [])])))]
/- 141: _law_chain -/
def N141 : List Str := ["_law_first_here", "_law_later", "_law_world_here", "_law_holders", "_law_k"]
def p141 : List Str := ["_law_first_here", "_law_later", "_law_world_here", "_law_holders"]
def ir141 : List Sm := [
  (.for (.slot 4) (.rng1 (.bi .len (.slot 1) [])) [(.ife (.cmp .eq (.sub (.slot 0) (.con (.int 0))) (.con (.str "breach"))) [(.ret (some (.slot 0)))] []), (.ife (.cmp .ne (.slot 0) (.tup [(.con (.str "done"))])) [(.ret (some (.tup [(.con (.str "then")), (.bin .add (.tup [(.slot 0)]) (.slc (.slot 1) (some (.slot 4)) none))])))] []), (.asg (.slot 0) (.call 148 [(.sub (.slot 1) (.slot 4)), (.slot 2), (.slot 3)] [] [.pos 0, .pos 1, .pos 2]))] []),
  (.ret (some (.slot 0)))]
/- 142: _law_alphabet -/
def N142 : List Str := ["_law_world_here", "_law_people", "_law_found", "_law_k", "_law_who_here", "_law_deed", "_law_job", "_law_pair", "_law_rest"]
def p142 : List Str := ["_law_world_here"]
def ir142 : List Sm := [
  .stk,
  (.for (.slot 4) (.ex (.slot 1)) [(.for (.slot 5) (.ex (.ss (.lc (.bi .str (.slot 3) []) (.slot 3) (.ex (.sub (.slot 0) (.con (.str "acts")))) none [3]))) [(.exp (.mth (.slot 2) .append [(.tup [(.con (.str "act")), (.slot 4), (.slot 5)])]))] [])] []),
  (.for (.slot 4) (.ex (.slot 1)) [.stk] []),
  (.ret (some (.bin .add (.slot 2) (.lst [(.tup [(.con (.str "day"))])]))))]
/- 143: _law_event -/
def N143 : List Str := ["_law_words_here"]
def p143 : List Str := ["_law_words_here"]
def ir143 : List Sm := [
  (.ife (.cmp .eq (.sub (.slot 0) (.con (.int 0))) (.con (.str "act"))) [(.ret (some (.call 93 [(.sub (.slot 0) (.con (.int 1))), (.sub (.slot 0) (.con (.int 2)))] [] [.pos 0, .pos 1])))] []),
  (.ife (.cmp .eq (.sub (.slot 0) (.con (.int 0))) (.con (.str "day"))) [(.ret (some (.call 95 [] [] [])))] []),
  (.ret (some (.call 94 [(.sub (.slot 0) (.con (.int 1))), (.sub (.slot 0) (.con (.int 2))), (.sub (.slot 0) (.con (.int 3)))] [] [.pos 0, .pos 1, .pos 2])))]
/- 144: _law_contract -/
def N144 : List Str := ["_law_world_here", "_law_tree"]
def p144 : List Str := ["_law_world_here", "_law_tree"]
def ir144 : List Sm := [
  (.ret (some (.mk 21 111 [(.sub (.slot 0) (.con (.str "people"))), (.cmt 0 27 (.slot 1) [] [.pos 0, .pos 1])] [(.sub (.slot 0) (.con (.str "roles")))] [.pos 0, .pos 1, .pos 2, .kw 0])))]
/- 145: _law_row -/
def N145 : List Str := ["_law_draw", "_law_world_here", "_law_many", "_law_some", "_law_k"]
def p145 : List Str := ["_law_draw", "_law_world_here", "_law_many"]
def ir145 : List Sm := [
  (.asg (.slot 3) (.call 142 [(.slot 1)] [] [.pos 0])),
  (.asg (.slot 3) (.bin .add (.slot 3) (.bin .mul (.lst [(.tup [(.con (.str "day"))])]) (.bin .fdiv (.bi .len (.slot 3) []) (.con (.int 2)))))),
  (.ret (some (.lc (.call 127 [(.slot 0), (.slot 3)] [] [.pos 0, .pos 1]) (.slot 4) (.rng1 (.call 126 [(.slot 0), (.bin .add (.slot 2) (.con (.int 1)))] [] [.pos 0, .pos 1])) none [4])))]
/- 146: _law_people -/
def N146 : List Str := ["_law_whos", "_law_world_here", "_law_holders", "_law_found", "_law_who_here", "_law_all_ones"]
def p146 : List Str := ["_law_whos", "_law_world_here", "_law_holders"]
def ir146 : List Sm := [
  (.asg (.slot 3) (.lst [])),
  (.for (.slot 4) (.ex (.slot 0)) [(.asg (.slot 5) (.bi .list (.sub (.slot 1) (.con (.str "people"))) [])), (.asg (.slot 3) (.bin .add (.slot 3) (.ite (.cmp .eq (.slot 4) (.con (.str "anyone"))) (.slot 5) (.lst [(.mth (.slot 2) .get [(.slot 4), (.slot 4)])]))))] []),
  (.ret (some (.slot 3)))]
/- 147: _law_join -/
def N147 : List Str := ["_law_word", "_law_kids", "_law_blamed", "_law_is_and", "_law_kid", "_law_gone", "_law_left_here"]
def p147 : List Str := ["_law_word", "_law_kids"]
def ir147 : List Sm := [
  (.par2 2 3 [(.lst []), (.cmp .eq (.slot 0) (.con (.str "and")))]),
  (.for (.slot 4) (.ex (.slot 1)) [(.asg (.slot 2) (.bin .add (.slot 2) (.ite (.cmp .eq (.sub (.slot 4) (.con (.int 0))) (.con (.str "breach"))) (.bi .list (.sub (.slot 4) (.con (.int 1))) []) (.lst []))))] []),
  (.asg (.slot 5) (.ite (.slot 3) (.con (.str "done")) (.con (.str "breach")))),
  (.asg (.slot 6) (.lc (.slot 4) (.slot 4) (.ex (.slot 1)) (some (.cmp .ne (.sub (.slot 4) (.con (.int 0))) (.slot 5))) [4])),
  (.ife (.or (.and (.slot 3) (.cmp .ne (.slot 2) (.lst []))) (.and (.nt (.slot 3)) (.cmp .eq (.slot 6) (.lst [])))) [(.ret (some (.call 140 [(.slot 2)] [] [.pos 0])))] []),
  (.ife (.or (.and (.nt (.slot 3)) (.cmp .isin (.tup [(.con (.str "done"))]) (.slot 1))) (.cmp .eq (.slot 6) (.lst []))) [(.ret (some (.tup [(.con (.str "done"))])))] []),
  (.ife (.and (.nt (.slot 3)) (.cmp .ne (.slot 2) (.lst []))) [(.asg (.slot 6) (.bin .add (.lst [(.call 140 [(.slot 2)] [] [.pos 0])]) (.slot 6)))] []),
  (.ret (some (.ite (.or (.cmp .gt (.bi .len (.slot 6) []) (.con (.int 1))) (.nt (.slot 3))) (.tup [(.slot 0), (.bi .tuple (.slot 6) [])]) (.sub (.slot 6) (.con (.int 0))))))]
/- 148: _law_begun -/
def N148 : List Str := ["_law_tree", "_law_world_here", "_law_holders", "_law_word", "_law_kids", "_law_k", "_law_kid", "_law_first_here"]
def p148 : List Str := ["_law_tree", "_law_world_here", "_law_holders"]
def ir148 : List Sm := [
  (.asg (.slot 3) (.sub (.slot 0) (.con (.int 0)))),
  (.ife (.cmp .eq (.slot 3) (.con (.str "breach"))) [(.ret (some (.call 140 [(.call 146 [(.sub (.slot 0) (.con (.int 1))), (.slot 1), (.slot 2)] [] [.pos 0, .pos 1, .pos 2])] [] [.pos 0])))] []),
  (.ife (.cmp .isin (.slot 3) (.tup [(.con (.str "and")), (.con (.str "or"))])) [(.asg (.slot 4) (.lc (.call 148 [(.slot 5), (.slot 1), (.slot 2)] [] [.pos 0, .pos 1, .pos 2]) (.slot 5) (.ex (.sub (.slot 0) (.con (.int 1)))) none [5])), (.ret (some (.call 147 [(.slot 3), (.slot 4)] [] [.pos 0, .pos 1])))] []),
  (.ife (.cmp .eq (.slot 3) (.con (.str "until"))) [(.asg (.slot 6) (.call 148 [(.sub (.slot 0) (.con (.int 1))), (.slot 1), (.slot 2)] [] [.pos 0, .pos 1, .pos 2])), (.ret (some (.ite (.cmp .isin (.sub (.slot 6) (.con (.int 0))) (.tup [(.con (.str "done")), (.con (.str "breach"))])) (.slot 6) (.bin .add (.tup [(.con (.str "until")), (.slot 6)]) (.slc (.slot 0) (some (.con (.int 2))) none)))))] []),
  (.ife (.cmp .notin (.slot 3) (.tup [(.con (.str "then")), (.con (.str "repeat")), (.con (.str "forever"))])) [(.ret (some (.slot 0)))] []),
  (.asg (.slot 4) (.ite (.cmp .eq (.slot 3) (.con (.str "then"))) (.sub (.slot 0) (.con (.int 1))) (.tup [(.sub (.slot 0) (.neg (.con (.int 1)))), (.slot 0)]))),
  (.ife (.cmp .eq (.slot 3) (.con (.str "repeat"))) [(.asg (.slot 4) (.slc (.tup [(.sub (.slot 0) (.con (.int 2))), (.tup [(.con (.str "repeat")), (.bin .sub (.sub (.slot 0) (.con (.int 1))) (.con (.int 1))), (.sub (.slot 0) (.con (.int 2)))])]) none (some (.sub (.slot 0) (.con (.int 1))))))] []),
  (.asg (.slot 7) (.call 148 [(.sub (.slot 4) (.con (.int 0))), (.slot 1), (.slot 2)] [] [.pos 0, .pos 1, .pos 2])),
  (.ret (some (.call 141 [(.slot 7), (.slc (.slot 4) (some (.con (.int 1))) none), (.slot 1), (.slot 2)] [] [.pos 0, .pos 1, .pos 2, .pos 3])))]
/- 149: _law_in_force -/
def N149 : List Str := ["_law_tree", "_law_found", "_law_kid"]
def p149 : List Str := ["_law_tree"]
def ir149 : List Sm := [
  (.ife (.cmp .eq (.sub (.slot 0) (.con (.int 0))) (.con (.str "then"))) [(.ret (some (.call 149 [(.sub (.sub (.slot 0) (.con (.int 1))) (.con (.int 0)))] [] [.pos 0])))] []),
  (.ife (.cmp .eq (.sub (.slot 0) (.con (.int 0))) (.con (.str "until"))) [(.ret (some (.call 149 [(.sub (.slot 0) (.con (.int 1)))] [] [.pos 0])))] []),
  (.asg (.slot 1) (.ite (.cmp .isin (.sub (.slot 0) (.con (.int 0))) (.tup [(.con (.str "and")), (.con (.str "or")), (.con (.str "done")), (.con (.str "breach"))])) (.lst []) (.lst [(.slot 0)]))),
  (.for (.slot 2) (.ex (.ite (.cmp .isin (.sub (.slot 0) (.con (.int 0))) (.tup [(.con (.str "and")), (.con (.str "or"))])) (.sub (.slot 0) (.con (.int 1))) (.tup []))) [(.asg (.slot 1) (.bin .add (.slot 1) (.call 149 [(.slot 2)] [] [.pos 0])))] []),
  (.ret (some (.slot 1)))]
/- 150: _law_day -/
def N150 : List Str := ["_law_tree", "_law_world_here", "_law_holders", "_law_at"]
def p150 : List Str := ["_law_tree", "_law_world_here", "_law_holders"]
def ir150 : List Sm := [
  (.asg (.slot 3) (.ite (.cmp .eq (.sub (.slot 0) (.con (.int 0))) (.con (.str "wait"))) (.con (.int 1)) (.con (.int 3)))),
  (.ife (.cmp .gt (.sub (.slot 0) (.slot 3)) (.con (.int 1))) [(.ret (some (.bin .add (.bin .add (.slc (.slot 0) none (some (.slot 3))) (.tup [(.bin .sub (.sub (.slot 0) (.slot 3)) (.con (.int 1)))])) (.slc (.slot 0) (some (.bin .add (.slot 3) (.con (.int 1)))) none))))] []),
  (.ife (.and (.cmp .isin (.sub (.slot 0) (.con (.int 0))) (.tup [(.con (.str "must")), (.con (.str "when"))])) (.cmp .isnot (.sub (.slot 0) (.neg (.con (.int 1)))) (.con .non))) [(.ret (some (.call 148 [(.sub (.slot 0) (.neg (.con (.int 1)))), (.slot 1), (.slot 2)] [] [.pos 0, .pos 1, .pos 2])))] []),
  (.ife (.cmp .ne (.sub (.slot 0) (.con (.int 0))) (.con (.str "must"))) [(.ret (some (.tup [(.con (.str "done"))])))] []),
  (.ret (some (.call 140 [(.call 146 [(.slc (.slot 0) (some (.con (.int 1))) (some (.con (.int 2)))), (.slot 1), (.slot 2)] [] [.pos 0, .pos 1, .pos 2])] [] [.pos 0])))]
/- 151: _law_left -/
def N151 : List Str := ["_law_tree", "_law_words_here", "_law_is_let", "_law_world_here", "_law_holders", "_law_word", "_law_kid", "_law_is_act", "_law_kids", "_law_k"]
def p151 : List Str := ["_law_tree", "_law_words_here", "_law_is_let", "_law_world_here", "_law_holders"]
def ir151 : List Sm := [
  (.asg (.slot 5) (.sub (.slot 0) (.con (.int 0)))),
  (.ife (.cmp .isin (.slot 5) (.tup [(.con (.str "then")), (.con (.str "until"))])) [(.asg (.slot 6) (.ite (.cmp .eq (.slot 5) (.con (.str "then"))) (.sub (.sub (.slot 0) (.con (.int 1))) (.con (.int 0))) (.sub (.slot 0) (.con (.int 1))))), (.asg (.slot 6) (.call 151 [(.slot 6), (.slot 1), (.slot 2), (.slot 3), (.slot 4)] [] [.pos 0, .pos 1, .pos 2, .pos 3, .pos 4])), (.ife (.cmp .eq (.slot 5) (.con (.str "then"))) [(.ret (some (.call 141 [(.slot 6), (.slc (.sub (.slot 0) (.con (.int 1))) (some (.con (.int 1))) none), (.slot 3), (.slot 4)] [] [.pos 0, .pos 1, .pos 2, .pos 3])))] []), (.ife (.cmp .isin (.sub (.slot 6) (.con (.int 0))) (.tup [(.con (.str "breach")), (.con (.str "done"))])) [(.ret (some (.slot 6)))] []), (.asg (.slot 7) (.call 139 [(.sub (.slot 0) (.con (.int 2))), (.sub (.slot 0) (.con (.int 3))), (.slot 1), (.slot 4)] [] [.pos 0, .pos 1, .pos 2, .pos 3])), (.ret (some (.ite (.slot 7) (.tup [(.con (.str "done"))]) (.bin .add (.tup [(.con (.str "until")), (.slot 6)]) (.slc (.slot 0) (some (.con (.int 2))) none)))))] []),
  (.ife (.cmp .isin (.slot 5) (.tup [(.con (.str "and")), (.con (.str "or"))])) [(.asg (.slot 8) (.lc (.call 151 [(.slot 9), (.slot 1), (.slot 2), (.slot 3), (.slot 4)] [] [.pos 0, .pos 1, .pos 2, .pos 3, .pos 4]) (.slot 9) (.ex (.sub (.slot 0) (.con (.int 1)))) none [9])), (.ret (some (.call 147 [(.slot 5), (.slot 8)] [] [.pos 0, .pos 1])))] []),
  (.ife (.cmp .isin (.slot 5) (.tup [(.con (.str "done")), (.con (.str "breach"))])) [(.ret (some (.slot 0)))] []),
  (.ife (.cmp .eq (.sub (.slot 1) (.con (.int 0))) (.con (.str "day"))) [(.ret (some (.call 150 [(.slot 0), (.slot 3), (.slot 4)] [] [.pos 0, .pos 1, .pos 2])))] []),
  (.ife (.or (.cmp .eq (.slot 5) (.con (.str "wait"))) (.nt (.call 139 [(.sub (.slot 0) (.con (.int 1))), (.sub (.slot 0) (.con (.int 2))), (.slot 1), (.slot 4)] [] [.pos 0, .pos 1, .pos 2, .pos 3]))) [(.ret (some (.slot 0)))] []),
  (.ife (.cmp .isin (.slot 5) (.tup [(.con (.str "may")), (.con (.str "must"))])) [(.ret (some (.tup [(.con (.str "done"))])))] []),
  (.ife (.and (.cmp .eq (.slot 5) (.con (.str "ban"))) (.or (.slot 2) (.cmp .is (.sub (.slot 0) (.con (.int 4))) (.con .non)))) [(.ret (some (.ite (.slot 2) (.slot 0) (.call 140 [(.slc (.slot 1) (some (.con (.int 1))) (some (.con (.int 2))))] [] [.pos 0]))))] []),
  (.ret (some (.call 148 [(.sub (.slot 0) (.con (.int 4))), (.slot 3), (.slot 4)] [] [.pos 0, .pos 1, .pos 2])))]
/- 152: _law_first -/
def N152 : List Str := ["_law_tree", "_law_world_here", "_law_holders"]
def p152 : List Str := ["_law_tree", "_law_world_here"]
def ir152 : List Sm := [
  (.asg (.slot 2) (.dctp (.sub (.slot 1) (.con (.str "roles"))))),
  (.ret (some (.tup [(.call 148 [(.slot 0), (.slot 1), (.slot 2)] [] [.pos 0, .pos 1, .pos 2]), (.slot 2)])))]
/- 153: _law_after -/
def N153 : List Str := ["_law_state", "_law_words_here", "_law_world_here", "_law_tree", "_law_holders", "_law_later", "_law_some", "_law_part", "_law_k"]
def p153 : List Str := ["_law_state", "_law_words_here", "_law_world_here"]
def ir153 : List Sm := [
  (.asg (.tup [(.slot 3), (.slot 4)]) (.slot 0)),
  (.ife (.cmp .isin (.sub (.slot 3) (.con (.int 0))) (.tup [(.con (.str "done")), (.con (.str "breach"))])) [(.ret (some (.slot 0)))] []),
  (.ife (.cmp .eq (.sub (.slot 1) (.con (.int 0))) (.con (.str "hands"))) [(.asg (.slot 5) (.dctp (.slot 4))), (.ife (.cmp .eq (.sub (.slot 4) (.sub (.slot 1) (.con (.int 2)))) (.sub (.slot 1) (.con (.int 1)))) [(.asg (.sub (.slot 5) (.sub (.slot 1) (.con (.int 2)))) (.sub (.slot 1) (.con (.int 3))))] []), (.ret (some (.tup [(.slot 3), (.slot 5)])))] []),
  (.asg (.slot 6) (.lc (.slot 7) (.slot 7) (.ex (.call 149 [(.slot 3)] [] [.pos 0])) (some (.cmp .eq (.sub (.slot 7) (.con (.int 0))) (.con (.str "may")))) [7])),
  (.asg (.slot 6) (.lc (.slot 8) (.slot 8) (.ex (.slot 6)) (some (.call 139 [(.sub (.slot 8) (.con (.int 1))), (.sub (.slot 8) (.con (.int 2))), (.slot 1), (.slot 4)] [] [.pos 0, .pos 1, .pos 2, .pos 3])) [8])),
  (.ret (some (.tup [(.call 151 [(.slot 3), (.slot 1), (.cmp .ne (.slot 6) (.lst [])), (.slot 2), (.slot 4)] [] [.pos 0, .pos 1, .pos 2, .pos 3, .pos 4]), (.slot 4)])))]
/- 154: _law_verdict -/
def N154 : List Str := ["_law_state"]
def p154 : List Str := ["_law_state"]
def ir154 : List Sm := [
  (.ret (some (.ite (.cmp .isin (.sub (.sub (.slot 0) (.con (.int 0))) (.con (.int 0))) (.tup [(.con (.str "done")), (.con (.str "breach"))])) (.sub (.slot 0) (.con (.int 0))) (.tup [(.con (.str "open"))]))))]
end Sh
set_option maxHeartbeats 4000000
/-! ShM: shared defs: errors. -/
namespace Sh
open PySem PySem.Spec PyProof.Rows L2 En
/- 278: BadText.__init__ -/
def N278 : List Str := ["self", "line", "word"]
def p278 : List Str := ["self", "line", "word"]
def ir278 : List Sm := [
  (.att (.slot 0) "line" (.slot 1)),
  (.att (.slot 0) "word" (.slot 2))]
/- 279: BadTerm.__init__ -/
def N279 : List Str := ["self", "place"]
def p279 : List Str := ["self", "place"]
def ir279 : List Sm := [
  (.att (.slot 0) "place" (.slot 1))]
/- 280: BadWho.__init__ -/
def N280 : List Str := ["self", "place"]
def p280 : List Str := ["self", "place"]
def ir280 : List Sm := [
  (.att (.slot 0) "place" (.slot 1))]
/- 281: BadHead.__init__ -/
def N281 : List Str := ["self", "given"]
def p281 : List Str := ["self", "given"]
def ir281 : List Sm := [
  (.att (.slot 0) "given" (.slot 1))]
/- 282: BadEvent.__init__ -/
def N282 : List Str := ["self", "given"]
def p282 : List Str := ["self", "given"]
def ir282 : List Sm := [
  (.att (.slot 0) "given" (.slot 1))]
/- 283: BadPlace.__init__ -/
def N283 : List Str := ["self", "given"]
def p283 : List Str := ["self", "given"]
def ir283 : List Sm := [
  (.att (.slot 0) "given" (.slot 1))]
/- 284: BadNumber.__init__ -/
def N284 : List Str := ["self", "given"]
def p284 : List Str := ["self", "given"]
def ir284 : List Sm := [
  (.att (.slot 0) "given" (.slot 1))]
/- 285: BadName.__init__ -/
def N285 : List Str := ["self", "given"]
def p285 : List Str := ["self", "given"]
def ir285 : List Sm := [
  (.att (.slot 0) "given" (.slot 1))]
/- 286: BadContract.__init__ -/
def N286 : List Str := ["self", "name"]
def p286 : List Str := ["self", "name"]
def ir286 : List Sm := [
  (.att (.slot 0) "name" (.slot 1))]
/- 287: TooMany.__init__ -/
def N287 : List Str := ["self", "most"]
def p287 : List Str := ["self", "most"]
def ir287 : List Sm := [
  (.att (.slot 0) "most" (.slot 1))]
/- 288: NothingToUndo.__init__ -/
def N288 : List Str := ["self", "count"]
def p288 : List Str := ["self", "count"]
def ir288 : List Sm := [
  (.att (.slot 0) "count" (.slot 1))]
/- 289: Unlike.__init__ -/
def N289 : List Str := ["self", "other"]
def p289 : List Str := ["self", "other"]
def ir289 : List Sm := [
  (.att (.slot 0) "other" (.slot 1))]
/- 290: NoContract.__init__ -/
def N290 : List Str := ["self", "name"]
def p290 : List Str := ["self", "name"]
def ir290 : List Sm := [
  (.att (.slot 0) "name" (.slot 1))]
/- 291: NoParty.__init__ -/
def N291 : List Str := ["self", "given"]
def p291 : List Str := ["self", "given"]
def ir291 : List Sm := [
  (.att (.slot 0) "given" (.slot 1))]
end Sh
set_option maxHeartbeats 4000000
/-! DrS: draws, over any table. -/
namespace Sh
open PySem PySem.Spec PyProof.Rows L2 En
local macro_rules | `(tactic| wide_line with ⟨$xs,*⟩) => `(tactic| simp only [b_ok, b_exc, a_bind, a_ret, a_opt, a_nx, lk_bor, lkB_own, lkB_val, lk_own, lk_ref, lk_non, lk_bl, lk_int, lk_str, lk_tup, lk_lst, lk_dct, lk_obj, lk_err, lk_cls, lk_ty, lk_scr, tv_val, tv_own, tv_bor, tvB_own, tvB_val, md_lst, md_dct, md_ins, kSq2_e, sq_nil, sq_cons, kSq1_e, slO_val, slO_own, e_con, e_slot, kTup_e, kLst_e, e_tup, e_lst, e_bin, kBin1_e, binK_e, biO_e, e_neg, kNeg_e, ngO_e, e_cmp, kCmp1_e, cmpK_e, cmO_e, cmR_e, e_chn, kChn1_e, kChn2_e, kChn3_t, kChn3_f, truA_e, trO_e, kNot_e, kNotV_e, e_nt, kAnd1_e, kOr1_e, kAnd_t, kAnd_f, kOr_t, kOr_f, e_and, e_or, kIte_t, kIte_f, e_ite, kTAnd_t, kTAnd_f, kTOr_t, kTOr_f, kTIte_t, kTIte_f, t_nt, t_and, t_or, t_ite, t_con, t_slot, t_cmp, t_chn, t_bin, t_bi, t_call, t_att, t_prp, t_sub, t_mth, t_mtd, t_lc, kAtt_e, atO_e, e_att, e_sub, kSub1_e, subK_e, sbO_e, sbR_e, intA_e, inO_e, kSome_e, opI_n, opI_s, e_slc, kSlc1_e, kSlc2_e, slcK_e, scO_e, e_rev, kRev_e, rvP_e, rvO_e, couO_ok, couO_exc, couA_e, caO_e, e_call, kCal1_e, kCal2_e, pm_nil, pm_pos, pm_kw, pm_dft, pmC_e, e_bi, kBi1_e, biK_e, bcO_e, sm_bor, smV_own, sm_ref, kUnit_e, mtR_n, mtR_s, mtO_e, mthK_e, e_mth, kMth1_e, kd_l, kd_d, kd_dd, kd_s, kn_l, kn_d, kn_dd, kn_s, ty_app, ty_pop, ty_ext, ty_upp, ty_spl, ty_joi, ty_rpl, ty_get, e_sto, stoA_e, dc_nil, dc_cons, kDc1_e, kDc2_e, kDc3_e, kDic_e, dcR_e, e_dic0, e_dic, ky_nil, ky_cons, kyC_e, ky_int, ky_str, e_lc, kLc_e, kLc2_e, s_ex, walkA_e, kWlk_e, kWlk2_e, wd_lst, wd_tup, wd_str, s_rng1, kRg1_e, s_rng2, kRg2_e, kRg3_e, s_enm, kEnm_e, s_zip, kZip_e, kZip2_e, g_slot, setA_val, setA_own, setA_bor, kSet_e, tgs_nil, tgs_cons, kTgs_e, g_tup, upO_e, upR_e, g_sub, kStp0_e, kStp1_e, stpK_e, spO_e, spR_e, q_nil, q_cons, kSts_nx, kSts_rt, kSts_bk, kSts_ct, kNx_e, x_asg, kAsg_e, kExp_e, x_exp, x_ret0, x_ret, retA_val, retA_own, retA_bor, rtB_own, kIf_t, kIf_f, x_ife, x_pas, x_brk, x_cnt, x_whl, kFor_e, x_for, x_par2, kPar2_e, x_par3, kPar3_e, f_nil, kFor1_e, kFor2_nx, kFor2_ct, kFor2_bk, kFor2_rt, szl, str_inj, tr_non, tr_bl, tr_int, tr_tup, tr_lst, tr_mls, cm_eq, cm_ne, cm_lt, cm_le, cm_gt, cm_ge, cm_ltS, cm_leS, cm_in, cm_nin, cm_isb, cm_isn, cm_isnn, nn_non, nn_bl, nn_int, nn_str, nn_tup, nn_lst, nn_obj, nn_err, nn_mb, eq_dd, eq_ml, eq_lm, eq_mm, dp_non, dp_bl, dp_int, dp_str, dp_tup, dp_lst, dl_nil, dl_cons, q_nn, q_bb, q_ii, q_ss, q_tt, q_ll, q_sn, q_ns, q_is, q_si, q_st, q_ts, q_nt, q_tn, q_in, q_ni, andO_e, orO_e, ql_nil, ql_nc, ql_cn, ql_cc, in_nil, in_tup, in_lst, in_mls, in_sgn, in_mdS, in_dS, mpI_e, ib_add, ib_sub, pw18, pw30, pw40, bn_ss, bn_tt, bn_sm, bn_ll, bn_lm, bn_ml, bn_mm, bn_xl, bn_xm, ln_str, ln_tup, ln_lst, ln_mls, ln_mdc, sb_str, sb_tup, sb_lst, sb_mls, sb_dcS, sb_mdS, at_0, at_1, at_2, at_3, at_4, at_5, gk_nil, gk_cons, pd_nil, pd_cons, so_lst, so_dcS, mg_nil, mg_cons, lnR_e, f_len, f_tupM, f_tupL, f_tupT, f_lsM, f_lsL, f_lsT, f_strS, f_allM, f_anyM, iw_mb, iw_non, iw_bl, iw_int, iw_str, iw_tup, iw_lst, iw_dct, iw_obj, iw_errC, iw_errT, m_app, m_pop, m_ext, m_upp, m_spl, m_joi, mjO_e, sq_lst, sq_tup, vt_tup, vu_tup, vu_tpl, vl_lst, vl_mls, noO_e, stpA_e, kStA_e, kStB_t, kStB_f, kStC_e, cnd_n, cnd_s, wip_e, wp_nil, wp_cons, bkO_v, bkO_n, bak_e, bk_nil, bk_cons, trn_nil, kTr_n, kTr_s, oc_rv, oc_ro, oc_nx, oc_x, nxO_ok, vi_mb, vi_dt, mkR_ok, mkK_e, mkO_e, e_mk, kMk1_e, kMk2_e, e_cmt, kCm2_e, e_kget, kKg_e, kgO_e, e_kin, t_kin, t_oeq, kKi_e, kiO_e, bne_e, e_oeq, kOe1_e, kOe2_e, oeO_e, oeP_e, oeQ_e, dE_e, dP_e, e_prp, kPr_e, prO_e, prP_e, prQ_e, e_mtd, kMd_e, mdO_e, mdQ_e, mdR_e, kMd1_e, kMd2_e, dM_e, dspO_e, dspR_e, x_att, kAs1_e, kAs2_e, asR_e, pf_nil, pf_cons, x_aug, agS_e, kAg_e, agO_e, agR_e, agK_a, agK_s, x_mat, kMat_e, mtP_e, pkm_nil, pkm_cons, x_stk, e_lc2, kL2_e, ty_upd, m_upd, erO_e, kErr_e, exO_e, kVal_e, e_xmk, pcO_e, kPck_e, e_xmq, pkk_nil, pkO_e, pkk_cons, xf_nil, xfO_e, xf_cons, xaR_e, xaO_e, kXat_e, e_xat, kRse_e, x_rse, x_try, cau_ok, cau_exc, fmO_s, fmO_i, kFmt_e, e_fmt, e_jn, jn_nil, jn_cons, kJn_e, ssO_e, ssP_e, kSs_e, e_ss, List.getElem?_cons_zero, List.getElem?_cons_succ, List.getElem?_nil, List.set_cons_zero, List.set_cons_succ, List.length_cons, List.length_nil, Option.map_some, Option.map_none, Option.bind_some, Option.isSome_some, Option.isSome_none, decide_true, decide_false, Bool.not_true, Bool.not_false, Bool.true_and, Bool.false_and, Bool.and_true, Bool.and_false, Bool.true_or, Bool.false_or, Bool.or_true, Bool.or_false, ite_true, ite_false, if_true, if_false, and_self, and_true, true_and, and_false, false_and, Nat.reduceAdd, Nat.reduceLeDiff, Nat.reduceLT, Nat.zero_lt_succ, Nat.reduceSub, Nat.reduceMul, Nat.zero_add, Nat.add_zero, Nat.reduceEqDiff, Nat.max_self, Nat.zero_max, Nat.max_zero, reduceIte, Sum.inr.injEq, Sum.inl.injEq, reduceCtorEq, String.reduceEq, List.isEmpty_cons, List.isEmpty_nil, String.reduceBEq, decide_eq_true_eq, Bool.decide_eq_true, Int.reduceLT, Int.reduceLE, Int.reduceAdd, Int.reduceSub, Int.reduceNeg, Int.reduceEq, Bool.false_eq_true, List.mem_cons, List.not_mem_nil, or_false, false_or, or_true, true_or, Nat.succ_ne_zero, bn_ii, ib_mod, ib_fdiv, ib_mul, not_true_eq_false, not_false_eq_true, List.map_cons, List.map_nil, depL_strs, inL_strs, kRun_e, Option.isNone_none, Option.isNone_some, List.lookup_nil, List.contains_cons, List.contains_nil, $[$xs:term],*])
structure PkDraw (tb : Tb) (tab : Nat → Option Fn) : Prop where
  f125 : tab 125 = some ⟨N125, p125.length, ir125⟩
  f126 : tab 126 = some ⟨N126, p126.length, ir126⟩
  f127 : tab 127 = some ⟨N127, p127.length, ir127⟩
section
variable {tb : Tb} {tab : Nat → Option Fn} {k : Nat}
theorem cs_call : (ccS tb tab k).call = calS tb tab (k + 1) := rfl
theorem cs_low : (ccS tb tab k).low = calS tb tab k := rfl
theorem cs_T : (ccS tb tab k).t = tb := rfl
theorem cs_wf : (ccS tb tab k).wf = 1000000 := rfl
theorem cal125 (p : PkDraw tb tab) {a0 : Dat} {sto : List Mob} : calS tb tab (k + 2) 125 [a0] sto = outC (sqS (ccS tb tab k) 100 ir125 ⟨[.val a0], sto⟩) := (calS_eq p.f125).trans rfl
theorem cal126 (p : PkDraw tb tab) {a0 a1 : Dat} {sto : List Mob} : calS tb tab (k + 2) 126 [a0, a1] sto = outC (sqS (ccS tb tab k) 100 ir126 ⟨[.val a0, .val a1, .no, .no, .no, .no], sto⟩) := (calS_eq p.f126).trans rfl
theorem cal127 (p : PkDraw tb tab) {a0 a1 : Dat} {sto : List Mob} : calS tb tab (k + 2) 127 [a0, a1] sto = outC (sqS (ccS tb tab k) 100 ir127 ⟨[.val a0, .val a1], sto⟩) := (calS_eq p.f127).trans rfl
def drM (cs : List Int) (a l u : Int) : Mob := .dct [(.inr "cells", .lst (cs.map .int)), (.inr "at", .int a), (.inr "left", .int l), (.inr "used", .int u)]
def Drw (n : Nat) (D : Mob) : Prop := ∃ cs a l u, D = drM cs a l u ∧ cs ≠ [] ∧ 0 ≤ a ∧ 0 ≤ l ∧ 0 ≤ u ∧ u ≤ n
theorem at_mod {cs : List Int} (h : cs ≠ []) {a : Int} : ∃ c, atI (cs.map Dat.int) (a % ((cs.map Dat.int).length : Int)) = some (.int c) := by
  have hl : 0 < cs.length := List.length_pos_iff.mpr h
  have h0 : 0 ≤ a % ((cs.map Dat.int).length : Int) := Int.emod_nonneg _ (by rw [List.length_map]; omega)
  have h1 : a % ((cs.map Dat.int).length : Int) < ((cs.map Dat.int).length : Int) := Int.emod_lt_of_pos _ (by rw [List.length_map]; omega)
  unfold atI
  rw [ix_in h0 h1]
  show ∃ c, (cs.map Dat.int)[(a % ((cs.map Dat.int).length : Int)).toNat]? = some (.int c)
  rw [List.getElem?_map]
  rw [List.getElem?_eq_getElem (by rw [List.length_map] at h0 h1 ⊢; omega)]
  exact ⟨_, rfl⟩
theorem spec126 (p : PkDraw tb tab) {n : Nat} {D : Mob} (h : Drw n D) (hn : n < 1000000000000) {m : Int} (h0 : 0 < m) (h1 : m < 1073741824) : ∃ r D', 0 ≤ r ∧ r < m ∧ Drw (n + 1) D' ∧ ∀ k rest, calS tb tab (k + 2) 126 [.ref 0, .int m] (D :: rest) = .ok (.val (.int r)) (D' :: rest) := by
  obtain ⟨cs, a, l, u, rfl, hc, ha, hl, hu, hun⟩ := h
  by_cases hL : 0 < l
  · refine ⟨l % m, drM cs a (l / m) u, Int.emod_nonneg _ (by omega), Int.emod_lt_of_pos _ h0, ⟨cs, a, l / m, u, rfl, hc, ha, Int.ediv_nonneg hl (by omega), hu, by omega⟩, fun k rest => ?_⟩
    rw [cal126 p]
    unfold ir126 drM
    wide_line with ⟨cs_call, cs_T, hL, h0, h1, str_inj⟩
  · obtain ⟨c, ec⟩ := at_mod hc (a := a)
    have hl0 : (0 : Int) < ((cs.map Dat.int).length : Int) := by
      rw [List.length_map]
      have := List.length_pos_iff.mpr hc
      omega
    by_cases hB : 1000000000000000000 ≤ c ∧ a + 1 ≤ ((cs.map Dat.int).length : Int)
    · refine ⟨c % m, drM cs (a + 1) (c / m) u, Int.emod_nonneg _ (by omega), Int.emod_lt_of_pos _ h0, ⟨cs, a + 1, c / m, u, rfl, hc, by omega, Int.ediv_nonneg (by omega) (by omega), hu, by omega⟩, fun k rest => ?_⟩
      rw [cal126 p]
      unfold ir126 drM
      wide_line with ⟨cs_call, cs_T, hL, h0, h1, str_inj, ec, hl0, pw18, hB.1, hB.2⟩
    · have hB' : ∀ k env rest, (evT (ccS tb tab k) 99 (.and (.cmp .ge (.slot 2) (.bin .pow (.con (.int 10)) (.con (.int 18)))) (.cmp .le (.sub (.slot 0) (.con (.str "at"))) (.bi .len (.slot 3) []))) ⟨[.val (.ref 0), .val (.int m), .val (.int c), .val (.lst (cs.map Dat.int))] ++ env, drM cs (a + 1) l u :: rest⟩) = .ok false ⟨[.val (.ref 0), .val (.int m), .val (.int c), .val (.lst (cs.map Dat.int))] ++ env, drM cs (a + 1) l u :: rest⟩ := by
        intro k env rest
        by_cases h2 : 1000000000000000000 ≤ c
        · have h3 : ¬ a + 1 ≤ ((cs.map Dat.int).length : Int) := fun h => hB ⟨h2, h⟩
          unfold drM
          wide_line with ⟨cs_call, cs_T, str_inj, pw18, h2, h3, List.cons_append, List.nil_append⟩
        · unfold drM
          wide_line with ⟨cs_call, cs_T, str_inj, pw18, h2, List.cons_append, List.nil_append⟩
      have hB2 := fun k rest => hB' k [.no, .no] rest
      unfold drM at hB2
      simp only [List.cons_append, List.nil_append] at hB2
      have e1 : mulOk 7919 (u + 1) = true := mul_l (by decide) (by decide)
      have e2 : mulOk (7919 * (u + 1)) (u + 1) = true := mul_r (by omega) (by omega)
      have e3 : ∀ x, mulOk 31 x = true := fun x => mul_l (by decide) (by decide)
      have e4 : ∀ x, mulOk x 48271 = true := fun x => mul_r (by decide) (by decide)
      have e5 : ∀ x, mulOk 2 x = true := fun x => mul_l (by decide) (by decide)
      have e6 : ∀ x y, mulOk (x % 2147483647) y = true := fun x y => mul_l (by omega) (by omega)
      have main : ∃ x : Int, ∀ k rest, calS tb tab (k + 2) 126 [.ref 0, .int m] (drM cs a l u :: rest) = .ok (.val (.int (x % m))) (drM cs (a + 1) l (u + 1) :: rest) := by
        refine Exists.intro ?x ?h
        case h =>
          intro k rest
          rw [cal126 p]
          unfold ir126 drM
          wide_line with ⟨cs_call, cs_T, hL, h0, h1, str_inj, ec, hl0, hB2, f_cons, e1, e2, e3, e4, e5, e6⟩
          exact rfl
      obtain ⟨x, hx⟩ := main
      exact ⟨x % m, _, Int.emod_nonneg _ (by omega), Int.emod_lt_of_pos _ h0, ⟨cs, a + 1, l, u + 1, rfl, hc, by omega, hl, by omega, by omega⟩, hx⟩
theorem spec125 (p : PkDraw tb tab) (k : Nat) (ns : List Int) (h : ns.length ≤ 63) : calS tb tab (k+2) 125 [.scr (ns.map .int)] [] = .ok (.val (.ref 0)) [drM (ns ++ [0]) 0 0 0] := by
  rw [cal125 p]
  unfold ir125
  have e : (ns.map Dat.int).length + 1 ≤ 16777216 := by rw [List.length_map]; omega
  have e2 : ns.map Dat.int ++ [Dat.int 0] = (ns ++ [0]).map Dat.int := by rw [List.map_append]; rfl
  wide_line with ⟨e, str_inj, List.nil_append, e2⟩
  rfl
theorem spec127 (p : PkDraw tb tab) {n : Nat} {D : Mob} (h : Drw n D) (hn : n < 1000000000000) {xs : List Dat} (h0 : xs ≠ []) (h1 : xs.length < 1073741824) (k : Nat) (rest : List Mob) : ∃ d D', d ∈ xs ∧ Drw (n + 1) D' ∧ calS tb tab (k + 3) 127 [.ref 0, .lst xs] (D :: rest) = .ok (.val d) (D' :: rest) := by
  have hp := List.length_pos_iff.mpr h0
  obtain ⟨r, D', r0, r1, hD, e⟩ := spec126 p h hn (m := xs.length) (by omega) (by omega)
  obtain ⟨d, ed, hd⟩ := getD_mem (xs := xs) r0 r1
  refine ⟨d, D', hd, hD, ?_⟩
  rw [cal127 p]
  unfold ir127
  wide_line with ⟨cs_call, cs_T, e, ed⟩
theorem drw0 (ns : List Int) : Drw 0 (drM (ns ++ [0]) 0 0 0) := ⟨ns ++ [0], 0, 0, 0, rfl, by simp, by omega, by omega, by omega, by omega⟩
theorem Drw.mono {n m : Nat} {D : Mob} (h : Drw n D) (hm : n ≤ m) : Drw m D := by
  obtain ⟨cs, a, l, u, h1, h2, h3, h4, h5, h6⟩ := h
  exact ⟨cs, a, l, u, h1, h2, h3, h4, h5, by omega⟩
end
end Sh
set_option maxHeartbeats 4000000
namespace K01
open PySem PySem.Spec PyProof.Rows L2 En Sh
/- 300: law -/
def N300 : List Str := ["_law_script", "_law_draw", "_law_some", "_law_turn", "_law_one", "_law_partner", "_law_made_here", "_law_at", "_law_family_here", "_law_k"]
def p300 : List Str := ["_law_script"]
def ir300 : List Sm := [
  (.asg (.slot 1) (.call 125 [(.slot 0)] [] [.pos 0])),
  (.asg (.slot 2) (.lst ((.con .non) :: (.con (.int 0)) :: (.con (.int 5)) :: (.con (.bl true)) :: (.con (.str "")) :: (.con (.str "ann")) :: (.tup []) :: (.tup [(.con (.int 0)), (.con (.int 1))]) :: (.lst []) :: (.lst [(.con (.str "a"))]) :: (.dic []) :: (.dic [((.con (.str "a")), (.con (.int 1)))]) :: (.neg (.con (.int 1))) :: (.bin .pow (.con (.int 10)) (.con (.int 40))) :: (.con (.str "ann must pay within 2")) :: []))),
  (.for (.slot 3) (.rng1 (.con (.int 4))) [(.par2 4 5 [(.call 127 [(.slot 1), (.slot 2)] [] [.pos 0, .pos 1]), (.call 127 [(.slot 1), (.slot 2)] [] [.pos 0, .pos 1])]), (.ife (.cmp .ne (.bi .repr (.call 301 [(.slot 4), (.slot 5)] [] [.pos 0, .pos 1]) []) (.bi .repr (.bin .add (.lst [(.slot 4), (.slot 5)]) (.bin .mul (.lst [(.slot 4)]) (.con (.int 13)))) [])) [(.ret (some (.con (.bl false))))] []), (.asg (.slot 6) (.call 302 [(.slot 4), (.slot 5)] [] [.pos 0, .pos 1])), (.ife (.cmp .ne (.bi .repr (.lst [(.xat (.sub (.slot 6) (.con (.int 0))) "line"), (.xat (.sub (.slot 6) (.con (.int 0))) "word"), (.xat (.sub (.slot 6) (.con (.int 1))) "place"), (.xat (.sub (.slot 6) (.con (.int 13))) "given")]) []) (.bi .repr (.lst [(.slot 4), (.slot 5), (.slot 4), (.slot 4)]) [])) [(.ret (some (.con (.bl false))))] []), (.for (.slot 7) (.rng1 (.con (.int 14))) [(.asg (.slot 8) (.ite (.cmp .lt (.slot 7) (.con (.int 9))) (.con (.int 0)) (.ite (.cmp .lt (.slot 7) (.con (.int 12))) (.con (.int 1)) (.con (.int 2))))), (.ife (.cmp .ne (.call 303 [(.sub (.slot 6) (.slot 7))] [] [.pos 0]) (.lc (.cmp .eq (.slot 9) (.slot 7)) (.slot 9) (.rng1 (.con (.int 14))) none [9])) [(.ret (some (.con (.bl false))))] []), (.ife (.cmp .ne (.call 304 [(.sub (.slot 6) (.slot 7))] [] [.pos 0]) (.lc (.cmp .eq (.bin .mod (.slot 9) (.con (.int 3))) (.slot 8)) (.slot 9) (.rng1 (.con (.int 6))) none [9])) [(.ret (some (.con (.bl false))))] [])] [])] []),
  (.ret (some (.con (.bl true))))]
/- 301: _law_told -/
def N301 : List Str := ["_law_one", "_law_partner", "_law_text", "_law_found"]
def p301 : List Str := ["_law_one", "_law_partner"]
def ir301 : List Sm := [
  (.asg (.slot 2) (.xmq 4 [(.slot 1), (.slot 0)] [1, 0])),
  (.asg (.slot 3) (.lst [(.xat (.slot 2) "line"), (.xat (.slot 2) "word"), (.xat (.xmq 5 [(.slot 0)] [0]) "place"), (.xat (.xmq 6 [(.slot 0)] [0]) "place"), (.xat (.xmq 7 [(.slot 0)] [0]) "given")])),
  (.asg (.slot 3) (.bin .add (.slot 3) (.lst [(.xat (.xmq 8 [(.slot 0)] [0]) "given"), (.xat (.xmq 9 [(.slot 0)] [0]) "given"), (.xat (.xmq 10 [(.slot 0)] [0]) "given")]))),
  (.asg (.slot 3) (.bin .add (.slot 3) (.lst [(.xat (.xmq 11 [(.slot 0)] [0]) "given"), (.xat (.xmq 12 [(.slot 0)] [0]) "name"), (.xat (.xmq 13 [(.slot 0)] [0]) "most")]))),
  (.asg (.slot 3) (.bin .add (.slot 3) (.lst [(.xat (.xmq 14 [(.slot 0)] [0]) "count"), (.xat (.xmq 15 [(.slot 0)] [0]) "other"), (.xat (.xmq 16 [(.slot 0)] [0]) "name")]))),
  (.ret (some (.bin .add (.slot 3) (.lst [(.xat (.xmq 17 [(.slot 0)] [0]) "given")]))))]
/- 302: _law_made -/
def N302 : List Str := ["_law_one", "_law_partner", "_law_found"]
def p302 : List Str := ["_law_one", "_law_partner"]
def ir302 : List Sm := [
  (.asg (.slot 2) (.lst [(.xmk 4 [(.slot 0), (.slot 1)]), (.xmk 5 [(.slot 0)]), (.xmk 6 [(.slot 0)]), (.xmk 7 [(.slot 0)]), (.xmk 8 [(.slot 0)]), (.xmk 9 [(.slot 0)])])),
  (.asg (.slot 2) (.bin .add (.slot 2) (.lst [(.xmk 10 [(.slot 0)]), (.xmk 11 [(.slot 0)]), (.xmk 12 [(.slot 0)]), (.xmk 13 [(.slot 0)]), (.xmk 14 [(.slot 0)])]))),
  (.ret (some (.bin .add (.slot 2) (.lst [(.xmk 15 [(.slot 0)]), (.xmk 16 [(.slot 0)]), (.xmk 17 [(.slot 0)])]))))]
/- 303: _law_kinds -/
def N303 : List Str := ["_law_e", "_law_found"]
def p303 : List Str := ["_law_e"]
def ir303 : List Sm := [
  (.asg (.slot 1) (.lst [(.bi .isi (.slot 0) [(.con (.cls 4))]), (.bi .isi (.slot 0) [(.con (.cls 5))]), (.bi .isi (.slot 0) [(.con (.cls 6))]), (.bi .isi (.slot 0) [(.con (.cls 7))])])),
  (.asg (.slot 1) (.bin .add (.slot 1) (.lst [(.bi .isi (.slot 0) [(.con (.cls 8))]), (.bi .isi (.slot 0) [(.con (.cls 9))]), (.bi .isi (.slot 0) [(.con (.cls 10))])]))),
  (.asg (.slot 1) (.bin .add (.slot 1) (.lst [(.bi .isi (.slot 0) [(.con (.cls 11))]), (.bi .isi (.slot 0) [(.con (.cls 12))]), (.bi .isi (.slot 0) [(.con (.cls 13))])]))),
  (.asg (.slot 1) (.bin .add (.slot 1) (.lst [(.bi .isi (.slot 0) [(.con (.cls 14))])]))),
  (.ret (some (.bin .add (.slot 1) (.lst [(.bi .isi (.slot 0) [(.con (.cls 15))]), (.bi .isi (.slot 0) [(.con (.cls 16))]), (.bi .isi (.slot 0) [(.con (.cls 17))])]))))]
/- 304: _law_family -/
def N304 : List Str := ["_law_e", "_law_found"]
def p304 : List Str := ["_law_e"]
def ir304 : List Sm := [
  (.asg (.slot 1) (.lst [(.bi .isi (.slot 0) [(.con (.cls 1))]), (.bi .isi (.slot 0) [(.con (.cls 2))]), (.bi .isi (.slot 0) [(.con (.cls 3))])])),
  (.ret (some (.bin .add (.slot 1) (.lst [(.bi .isi (.slot 0) [(.con (.ty "ValueError"))]), (.bi .isi (.slot 0) [(.con (.ty "RuntimeError"))]), (.bi .isi (.slot 0) [(.con (.ty "LookupError"))])]))))]
def bnds : List ((Nat × Nat × List Str) × List Sl) := (((125, 1, []), [Sl.pos 0]) :: ((127, 2, []), [Sl.pos 0, Sl.pos 1]) :: ((301, 2, []), [Sl.pos 0, Sl.pos 1]) :: ((302, 2, []), [Sl.pos 0, Sl.pos 1]) :: ((303, 1, []), [Sl.pos 0]) :: ((304, 1, []), [Sl.pos 0]) :: ((126, 2, []), [Sl.pos 0, Sl.pos 1]) :: ((278, 3, []), [Sl.pos 0, Sl.pos 1, Sl.pos 2]) :: ((278, 1, ["word", "line"]), [Sl.pos 0, Sl.kw 1, Sl.kw 0]) :: ((279, 2, []), [Sl.pos 0, Sl.pos 1]) :: ((279, 1, ["place"]), [Sl.pos 0, Sl.kw 0]) :: ((280, 2, []), [Sl.pos 0, Sl.pos 1]) :: ((280, 1, ["place"]), [Sl.pos 0, Sl.kw 0]) :: ((281, 2, []), [Sl.pos 0, Sl.pos 1]) :: ((281, 1, ["given"]), [Sl.pos 0, Sl.kw 0]) :: ((282, 2, []), [Sl.pos 0, Sl.pos 1]) :: ((282, 1, ["given"]), [Sl.pos 0, Sl.kw 0]) :: ((283, 2, []), [Sl.pos 0, Sl.pos 1]) :: ((283, 1, ["given"]), [Sl.pos 0, Sl.kw 0]) :: ((284, 2, []), [Sl.pos 0, Sl.pos 1]) :: ((284, 1, ["given"]), [Sl.pos 0, Sl.kw 0]) :: ((285, 2, []), [Sl.pos 0, Sl.pos 1]) :: ((285, 1, ["given"]), [Sl.pos 0, Sl.kw 0]) :: ((286, 2, []), [Sl.pos 0, Sl.pos 1]) :: ((286, 1, ["name"]), [Sl.pos 0, Sl.kw 0]) :: ((287, 2, []), [Sl.pos 0, Sl.pos 1]) :: ((287, 1, ["most"]), [Sl.pos 0, Sl.kw 0]) :: ((288, 2, []), [Sl.pos 0, Sl.pos 1]) :: ((288, 1, ["count"]), [Sl.pos 0, Sl.kw 0]) :: ((289, 2, []), [Sl.pos 0, Sl.pos 1]) :: ((289, 1, ["other"]), [Sl.pos 0, Sl.kw 0]) :: ((290, 2, []), [Sl.pos 0, Sl.pos 1]) :: ((290, 1, ["name"]), [Sl.pos 0, Sl.kw 0]) :: ((291, 2, []), [Sl.pos 0, Sl.pos 1]) :: ((291, 1, ["given"]), [Sl.pos 0, Sl.kw 0]) :: ((300, 1, []), [Sl.pos 0]) :: [])
def P0 : Prg where
  cn := ("law" :: "DeedsError" :: "StateError" :: "MissingError" :: "BadText" :: "BadTerm" :: "BadWho" :: "BadHead" :: "BadEvent" :: "BadPlace" :: "BadNumber" :: "BadName" :: "BadContract" :: "TooMany" :: "NothingToUndo" :: "Unlike" :: "NoContract" :: "NoParty" :: "law" :: "law" :: "law" :: "law" :: "law" :: "law" :: "law" :: "law" :: "law" :: "law" :: "law" :: "law" :: "law" :: [])
  fs := []
  fg := [("_law_begin", 125), ("_law_next", 126), ("_law_pick", 127), ("law", 300), ("_law_told", 301), ("_law_made", 302), ("_law_kinds", 303), ("_law_family", 304)]
  dats := []
  frees := ["range", "repr", "len", "isinstance", "ValueError", "RuntimeError", "LookupError"]
  bnds := bnds
  meths := []
  props := []
  ctors := []
  eqs := []
  cms := []
  sms := []
  flds := []
  kds := []
  isC := []
  isT := []
  isN := []
  errs := [(4, (278, [("line", 0), ("word", 1)], 2)), (5, (279, [("place", 0)], 1)), (6, (280, [("place", 0)], 1)), (7, (281, [("given", 0)], 1)), (8, (282, [("given", 0)], 1)), (9, (283, [("given", 0)], 1)), (10, (284, [("given", 0)], 1)), (11, (285, [("given", 0)], 1)), (12, (286, [("name", 0)], 1)), (13, (287, [("most", 0)], 1)), (14, (288, [("count", 0)], 1)), (15, (289, [("other", 0)], 1)), (16, (290, [("name", 0)], 1)), (17, (291, [("given", 0)], 1))]
  xfs := ((4, "line") :: (4, "word") :: (5, "place") :: (6, "place") :: (7, "given") :: (8, "given") :: (9, "given") :: (10, "given") :: (11, "given") :: (12, "name") :: (13, "most") :: (14, "count") :: (15, "other") :: (16, "name") :: (17, "given") :: [])
  xms := []
  isX := (((4, 1), true) :: ((4, 2), false) :: ((4, 3), false) :: ((4, 4), true) :: ((4, 5), false) :: ((4, 6), false) :: ((4, 7), false) :: ((4, 8), false) :: ((4, 9), false) :: ((4, 10), false) :: ((4, 11), false) :: ((4, 12), false) :: ((4, 13), false) :: ((4, 14), false) :: ((4, 15), false) :: ((4, 16), false) :: ((4, 17), false) :: ((5, 1), true) :: ((5, 2), false) :: ((5, 3), false) :: ((5, 4), false) :: ((5, 5), true) :: ((5, 6), false) :: ((5, 7), false) :: ((5, 8), false) :: ((5, 9), false) :: ((5, 10), false) :: ((5, 11), false) :: ((5, 12), false) :: ((5, 13), false) :: ((5, 14), false) :: ((5, 15), false) :: ((5, 16), false) :: ((5, 17), false) :: ((6, 1), true) :: ((6, 2), false) :: ((6, 3), false) :: ((6, 4), false) :: ((6, 5), false) :: ((6, 6), true) :: ((6, 7), false) :: ((6, 8), false) :: ((6, 9), false) :: ((6, 10), false) :: ((6, 11), false) :: ((6, 12), false) :: ((6, 13), false) :: ((6, 14), false) :: ((6, 15), false) :: ((6, 16), false) :: ((6, 17), false) :: ((7, 1), true) :: ((7, 2), false) :: ((7, 3), false) :: ((7, 4), false) :: ((7, 5), false) :: ((7, 6), false) :: ((7, 7), true) :: ((7, 8), false) :: ((7, 9), false) :: ((7, 10), false) :: ((7, 11), false) :: ((7, 12), false) :: ((7, 13), false) :: ((7, 14), false) :: ((7, 15), false) :: ((7, 16), false) :: ((7, 17), false) :: ((8, 1), true) :: ((8, 2), false) :: ((8, 3), false) :: ((8, 4), false) :: ((8, 5), false) :: ((8, 6), false) :: ((8, 7), false) :: ((8, 8), true) :: ((8, 9), false) :: ((8, 10), false) :: ((8, 11), false) :: ((8, 12), false) :: ((8, 13), false) :: ((8, 14), false) :: ((8, 15), false) :: ((8, 16), false) :: ((8, 17), false) :: ((9, 1), true) :: ((9, 2), false) :: ((9, 3), false) :: ((9, 4), false) :: ((9, 5), false) :: ((9, 6), false) :: ((9, 7), false) :: ((9, 8), false) :: ((9, 9), true) :: ((9, 10), false) :: ((9, 11), false) :: ((9, 12), false) :: ((9, 13), false) :: ((9, 14), false) :: ((9, 15), false) :: ((9, 16), false) :: ((9, 17), false) :: ((10, 1), true) :: ((10, 2), false) :: ((10, 3), false) :: ((10, 4), false) :: ((10, 5), false) :: ((10, 6), false) :: ((10, 7), false) :: ((10, 8), false) :: ((10, 9), false) :: ((10, 10), true) :: ((10, 11), false) :: ((10, 12), false) :: ((10, 13), false) :: ((10, 14), false) :: ((10, 15), false) :: ((10, 16), false) :: ((10, 17), false) :: ((11, 1), true) :: ((11, 2), false) :: ((11, 3), false) :: ((11, 4), false) :: ((11, 5), false) :: ((11, 6), false) :: ((11, 7), false) :: ((11, 8), false) :: ((11, 9), false) :: ((11, 10), false) :: ((11, 11), true) :: ((11, 12), false) :: ((11, 13), false) :: ((11, 14), false) :: ((11, 15), false) :: ((11, 16), false) :: ((11, 17), false) :: ((12, 1), true) :: ((12, 2), false) :: ((12, 3), false) :: ((12, 4), false) :: ((12, 5), false) :: ((12, 6), false) :: ((12, 7), false) :: ((12, 8), false) :: ((12, 9), false) :: ((12, 10), false) :: ((12, 11), false) :: ((12, 12), true) :: ((12, 13), false) :: ((12, 14), false) :: ((12, 15), false) :: ((12, 16), false) :: ((12, 17), false) :: ((13, 1), false) :: ((13, 2), true) :: ((13, 3), false) :: ((13, 4), false) :: ((13, 5), false) :: ((13, 6), false) :: ((13, 7), false) :: ((13, 8), false) :: ((13, 9), false) :: ((13, 10), false) :: ((13, 11), false) :: ((13, 12), false) :: ((13, 13), true) :: ((13, 14), false) :: ((13, 15), false) :: ((13, 16), false) :: ((13, 17), false) :: ((14, 1), false) :: ((14, 2), true) :: ((14, 3), false) :: ((14, 4), false) :: ((14, 5), false) :: ((14, 6), false) :: ((14, 7), false) :: ((14, 8), false) :: ((14, 9), false) :: ((14, 10), false) :: ((14, 11), false) :: ((14, 12), false) :: ((14, 13), false) :: ((14, 14), true) :: ((14, 15), false) :: ((14, 16), false) :: ((14, 17), false) :: ((15, 1), false) :: ((15, 2), true) :: ((15, 3), false) :: ((15, 4), false) :: ((15, 5), false) :: ((15, 6), false) :: ((15, 7), false) :: ((15, 8), false) :: ((15, 9), false) :: ((15, 10), false) :: ((15, 11), false) :: ((15, 12), false) :: ((15, 13), false) :: ((15, 14), false) :: ((15, 15), true) :: ((15, 16), false) :: ((15, 17), false) :: ((16, 1), false) :: ((16, 2), false) :: ((16, 3), true) :: ((16, 4), false) :: ((16, 5), false) :: ((16, 6), false) :: ((16, 7), false) :: ((16, 8), false) :: ((16, 9), false) :: ((16, 10), false) :: ((16, 11), false) :: ((16, 12), false) :: ((16, 13), false) :: ((16, 14), false) :: ((16, 15), false) :: ((16, 16), true) :: ((16, 17), false) :: ((17, 1), false) :: ((17, 2), false) :: ((17, 3), true) :: ((17, 4), false) :: ((17, 5), false) :: ((17, 6), false) :: ((17, 7), false) :: ((17, 8), false) :: ((17, 9), false) :: ((17, 10), false) :: ((17, 11), false) :: ((17, 12), false) :: ((17, 13), false) :: ((17, 14), false) :: ((17, 15), false) :: ((17, 16), false) :: ((17, 17), true) :: [])
  isXT := (((4, "ValueError"), true) :: ((4, "RuntimeError"), false) :: ((4, "LookupError"), false) :: ((5, "ValueError"), true) :: ((5, "RuntimeError"), false) :: ((5, "LookupError"), false) :: ((6, "ValueError"), true) :: ((6, "RuntimeError"), false) :: ((6, "LookupError"), false) :: ((7, "ValueError"), true) :: ((7, "RuntimeError"), false) :: ((7, "LookupError"), false) :: ((8, "ValueError"), true) :: ((8, "RuntimeError"), false) :: ((8, "LookupError"), false) :: ((9, "ValueError"), true) :: ((9, "RuntimeError"), false) :: ((9, "LookupError"), false) :: ((10, "ValueError"), true) :: ((10, "RuntimeError"), false) :: ((10, "LookupError"), false) :: ((11, "ValueError"), true) :: ((11, "RuntimeError"), false) :: ((11, "LookupError"), false) :: ((12, "ValueError"), true) :: ((12, "RuntimeError"), false) :: ((12, "LookupError"), false) :: ((13, "ValueError"), false) :: ((13, "RuntimeError"), true) :: ((13, "LookupError"), false) :: ((14, "ValueError"), false) :: ((14, "RuntimeError"), true) :: ((14, "LookupError"), false) :: ((15, "ValueError"), false) :: ((15, "RuntimeError"), true) :: ((15, "LookupError"), false) :: ((16, "ValueError"), false) :: ((16, "RuntimeError"), false) :: ((16, "LookupError"), true) :: ((17, "ValueError"), false) :: ((17, "RuntimeError"), false) :: ((17, "LookupError"), true) :: [])
  ccos := []
  iops := []
def tb : Tb := P0.tb
def tabL : List (Nat × Fn) := ((125, ⟨N125, p125.length, ir125⟩) :: (126, ⟨N126, p126.length, ir126⟩) :: (127, ⟨N127, p127.length, ir127⟩) :: (278, ⟨N278, p278.length, ir278⟩) :: (279, ⟨N279, p279.length, ir279⟩) :: (280, ⟨N280, p280.length, ir280⟩) :: (281, ⟨N281, p281.length, ir281⟩) :: (282, ⟨N282, p282.length, ir282⟩) :: (283, ⟨N283, p283.length, ir283⟩) :: (284, ⟨N284, p284.length, ir284⟩) :: (285, ⟨N285, p285.length, ir285⟩) :: (286, ⟨N286, p286.length, ir286⟩) :: (287, ⟨N287, p287.length, ir287⟩) :: (288, ⟨N288, p288.length, ir288⟩) :: (289, ⟨N289, p289.length, ir289⟩) :: (290, ⟨N290, p290.length, ir290⟩) :: (291, ⟨N291, p291.length, ir291⟩) :: (300, ⟨N300, p300.length, ir300⟩) :: (301, ⟨N301, p301.length, ir301⟩) :: (302, ⟨N302, p302.length, ir302⟩) :: (303, ⟨N303, p303.length, ir303⟩) :: (304, ⟨N304, p304.length, ir304⟩) :: [])
def tab (f : Nat) : Option Fn := tabL.lookup f
abbrev cal := calS tb tab
abbrev CC (k : Nat) : Ec := ccS tb tab k
theorem cc_call {k : Nat} : (CC k).call = cal (k + 1) := rfl
theorem cc_low {k : Nat} : (CC k).low = cal k := rfl
theorem cc_T {k : Nat} : (CC k).t = tb := rfl
theorem cc_wf {k : Nat} : (CC k).wf = 1000000 := rfl
theorem cal300 {k : Nat} {a0 : Dat} {sto : List Mob} : cal (k+2) 300 [a0] sto = outC (sqS (CC k) 100 ir300 ⟨[.val a0, .no, .no, .no, .no, .no, .no, .no, .no, .no], sto⟩) := rfl
theorem cal301 {k : Nat} {a0 a1 : Dat} {sto : List Mob} : cal (k+2) 301 [a0, a1] sto = outC (sqS (CC k) 100 ir301 ⟨[.val a0, .val a1, .no, .no], sto⟩) := rfl
theorem cal302 {k : Nat} {a0 a1 : Dat} {sto : List Mob} : cal (k+2) 302 [a0, a1] sto = outC (sqS (CC k) 100 ir302 ⟨[.val a0, .val a1, .no], sto⟩) := rfl
theorem cal303 {k : Nat} {a0 : Dat} {sto : List Mob} : cal (k+2) 303 [a0] sto = outC (sqS (CC k) 100 ir303 ⟨[.val a0, .no], sto⟩) := rfl
theorem cal304 {k : Nat} {a0 : Dat} {sto : List Mob} : cal (k+2) 304 [a0] sto = outC (sqS (CC k) 100 ir304 ⟨[.val a0, .no], sto⟩) := rfl
theorem pkDraw : PkDraw tb tab := by
  constructor <;> kernel_rfl
theorem tx_4_1 : tb.T.isaX 4 1 = some true := by kernel_rfl
theorem tx_4_2 : tb.T.isaX 4 2 = some false := by kernel_rfl
theorem tx_4_3 : tb.T.isaX 4 3 = some false := by kernel_rfl
theorem tx_4_4 : tb.T.isaX 4 4 = some true := by kernel_rfl
theorem tx_4_5 : tb.T.isaX 4 5 = some false := by kernel_rfl
theorem tx_4_6 : tb.T.isaX 4 6 = some false := by kernel_rfl
theorem tx_4_7 : tb.T.isaX 4 7 = some false := by kernel_rfl
theorem tx_4_8 : tb.T.isaX 4 8 = some false := by kernel_rfl
theorem tx_4_9 : tb.T.isaX 4 9 = some false := by kernel_rfl
theorem tx_4_10 : tb.T.isaX 4 10 = some false := by kernel_rfl
theorem tx_4_11 : tb.T.isaX 4 11 = some false := by kernel_rfl
theorem tx_4_12 : tb.T.isaX 4 12 = some false := by kernel_rfl
theorem tx_4_13 : tb.T.isaX 4 13 = some false := by kernel_rfl
theorem tx_4_14 : tb.T.isaX 4 14 = some false := by kernel_rfl
theorem tx_4_15 : tb.T.isaX 4 15 = some false := by kernel_rfl
theorem tx_4_16 : tb.T.isaX 4 16 = some false := by kernel_rfl
theorem tx_4_17 : tb.T.isaX 4 17 = some false := by kernel_rfl
theorem tx_5_1 : tb.T.isaX 5 1 = some true := by kernel_rfl
theorem tx_5_2 : tb.T.isaX 5 2 = some false := by kernel_rfl
theorem tx_5_3 : tb.T.isaX 5 3 = some false := by kernel_rfl
theorem tx_5_4 : tb.T.isaX 5 4 = some false := by kernel_rfl
theorem tx_5_5 : tb.T.isaX 5 5 = some true := by kernel_rfl
theorem tx_5_6 : tb.T.isaX 5 6 = some false := by kernel_rfl
theorem tx_5_7 : tb.T.isaX 5 7 = some false := by kernel_rfl
theorem tx_5_8 : tb.T.isaX 5 8 = some false := by kernel_rfl
theorem tx_5_9 : tb.T.isaX 5 9 = some false := by kernel_rfl
theorem tx_5_10 : tb.T.isaX 5 10 = some false := by kernel_rfl
theorem tx_5_11 : tb.T.isaX 5 11 = some false := by kernel_rfl
theorem tx_5_12 : tb.T.isaX 5 12 = some false := by kernel_rfl
theorem tx_5_13 : tb.T.isaX 5 13 = some false := by kernel_rfl
theorem tx_5_14 : tb.T.isaX 5 14 = some false := by kernel_rfl
theorem tx_5_15 : tb.T.isaX 5 15 = some false := by kernel_rfl
theorem tx_5_16 : tb.T.isaX 5 16 = some false := by kernel_rfl
theorem tx_5_17 : tb.T.isaX 5 17 = some false := by kernel_rfl
theorem tx_6_1 : tb.T.isaX 6 1 = some true := by kernel_rfl
theorem tx_6_2 : tb.T.isaX 6 2 = some false := by kernel_rfl
theorem tx_6_3 : tb.T.isaX 6 3 = some false := by kernel_rfl
theorem tx_6_4 : tb.T.isaX 6 4 = some false := by kernel_rfl
theorem tx_6_5 : tb.T.isaX 6 5 = some false := by kernel_rfl
theorem tx_6_6 : tb.T.isaX 6 6 = some true := by kernel_rfl
theorem tx_6_7 : tb.T.isaX 6 7 = some false := by kernel_rfl
theorem tx_6_8 : tb.T.isaX 6 8 = some false := by kernel_rfl
theorem tx_6_9 : tb.T.isaX 6 9 = some false := by kernel_rfl
theorem tx_6_10 : tb.T.isaX 6 10 = some false := by kernel_rfl
theorem tx_6_11 : tb.T.isaX 6 11 = some false := by kernel_rfl
theorem tx_6_12 : tb.T.isaX 6 12 = some false := by kernel_rfl
theorem tx_6_13 : tb.T.isaX 6 13 = some false := by kernel_rfl
theorem tx_6_14 : tb.T.isaX 6 14 = some false := by kernel_rfl
theorem tx_6_15 : tb.T.isaX 6 15 = some false := by kernel_rfl
theorem tx_6_16 : tb.T.isaX 6 16 = some false := by kernel_rfl
theorem tx_6_17 : tb.T.isaX 6 17 = some false := by kernel_rfl
theorem tx_7_1 : tb.T.isaX 7 1 = some true := by kernel_rfl
theorem tx_7_2 : tb.T.isaX 7 2 = some false := by kernel_rfl
theorem tx_7_3 : tb.T.isaX 7 3 = some false := by kernel_rfl
theorem tx_7_4 : tb.T.isaX 7 4 = some false := by kernel_rfl
theorem tx_7_5 : tb.T.isaX 7 5 = some false := by kernel_rfl
theorem tx_7_6 : tb.T.isaX 7 6 = some false := by kernel_rfl
theorem tx_7_7 : tb.T.isaX 7 7 = some true := by kernel_rfl
theorem tx_7_8 : tb.T.isaX 7 8 = some false := by kernel_rfl
theorem tx_7_9 : tb.T.isaX 7 9 = some false := by kernel_rfl
theorem tx_7_10 : tb.T.isaX 7 10 = some false := by kernel_rfl
theorem tx_7_11 : tb.T.isaX 7 11 = some false := by kernel_rfl
theorem tx_7_12 : tb.T.isaX 7 12 = some false := by kernel_rfl
theorem tx_7_13 : tb.T.isaX 7 13 = some false := by kernel_rfl
theorem tx_7_14 : tb.T.isaX 7 14 = some false := by kernel_rfl
theorem tx_7_15 : tb.T.isaX 7 15 = some false := by kernel_rfl
theorem tx_7_16 : tb.T.isaX 7 16 = some false := by kernel_rfl
theorem tx_7_17 : tb.T.isaX 7 17 = some false := by kernel_rfl
theorem tx_8_1 : tb.T.isaX 8 1 = some true := by kernel_rfl
theorem tx_8_2 : tb.T.isaX 8 2 = some false := by kernel_rfl
theorem tx_8_3 : tb.T.isaX 8 3 = some false := by kernel_rfl
theorem tx_8_4 : tb.T.isaX 8 4 = some false := by kernel_rfl
theorem tx_8_5 : tb.T.isaX 8 5 = some false := by kernel_rfl
theorem tx_8_6 : tb.T.isaX 8 6 = some false := by kernel_rfl
theorem tx_8_7 : tb.T.isaX 8 7 = some false := by kernel_rfl
theorem tx_8_8 : tb.T.isaX 8 8 = some true := by kernel_rfl
theorem tx_8_9 : tb.T.isaX 8 9 = some false := by kernel_rfl
theorem tx_8_10 : tb.T.isaX 8 10 = some false := by kernel_rfl
theorem tx_8_11 : tb.T.isaX 8 11 = some false := by kernel_rfl
theorem tx_8_12 : tb.T.isaX 8 12 = some false := by kernel_rfl
theorem tx_8_13 : tb.T.isaX 8 13 = some false := by kernel_rfl
theorem tx_8_14 : tb.T.isaX 8 14 = some false := by kernel_rfl
theorem tx_8_15 : tb.T.isaX 8 15 = some false := by kernel_rfl
theorem tx_8_16 : tb.T.isaX 8 16 = some false := by kernel_rfl
theorem tx_8_17 : tb.T.isaX 8 17 = some false := by kernel_rfl
theorem tx_9_1 : tb.T.isaX 9 1 = some true := by kernel_rfl
theorem tx_9_2 : tb.T.isaX 9 2 = some false := by kernel_rfl
theorem tx_9_3 : tb.T.isaX 9 3 = some false := by kernel_rfl
theorem tx_9_4 : tb.T.isaX 9 4 = some false := by kernel_rfl
theorem tx_9_5 : tb.T.isaX 9 5 = some false := by kernel_rfl
theorem tx_9_6 : tb.T.isaX 9 6 = some false := by kernel_rfl
theorem tx_9_7 : tb.T.isaX 9 7 = some false := by kernel_rfl
theorem tx_9_8 : tb.T.isaX 9 8 = some false := by kernel_rfl
theorem tx_9_9 : tb.T.isaX 9 9 = some true := by kernel_rfl
theorem tx_9_10 : tb.T.isaX 9 10 = some false := by kernel_rfl
theorem tx_9_11 : tb.T.isaX 9 11 = some false := by kernel_rfl
theorem tx_9_12 : tb.T.isaX 9 12 = some false := by kernel_rfl
theorem tx_9_13 : tb.T.isaX 9 13 = some false := by kernel_rfl
theorem tx_9_14 : tb.T.isaX 9 14 = some false := by kernel_rfl
theorem tx_9_15 : tb.T.isaX 9 15 = some false := by kernel_rfl
theorem tx_9_16 : tb.T.isaX 9 16 = some false := by kernel_rfl
theorem tx_9_17 : tb.T.isaX 9 17 = some false := by kernel_rfl
theorem tx_10_1 : tb.T.isaX 10 1 = some true := by kernel_rfl
theorem tx_10_2 : tb.T.isaX 10 2 = some false := by kernel_rfl
theorem tx_10_3 : tb.T.isaX 10 3 = some false := by kernel_rfl
theorem tx_10_4 : tb.T.isaX 10 4 = some false := by kernel_rfl
theorem tx_10_5 : tb.T.isaX 10 5 = some false := by kernel_rfl
theorem tx_10_6 : tb.T.isaX 10 6 = some false := by kernel_rfl
theorem tx_10_7 : tb.T.isaX 10 7 = some false := by kernel_rfl
theorem tx_10_8 : tb.T.isaX 10 8 = some false := by kernel_rfl
theorem tx_10_9 : tb.T.isaX 10 9 = some false := by kernel_rfl
theorem tx_10_10 : tb.T.isaX 10 10 = some true := by kernel_rfl
theorem tx_10_11 : tb.T.isaX 10 11 = some false := by kernel_rfl
theorem tx_10_12 : tb.T.isaX 10 12 = some false := by kernel_rfl
theorem tx_10_13 : tb.T.isaX 10 13 = some false := by kernel_rfl
theorem tx_10_14 : tb.T.isaX 10 14 = some false := by kernel_rfl
theorem tx_10_15 : tb.T.isaX 10 15 = some false := by kernel_rfl
theorem tx_10_16 : tb.T.isaX 10 16 = some false := by kernel_rfl
theorem tx_10_17 : tb.T.isaX 10 17 = some false := by kernel_rfl
theorem tx_11_1 : tb.T.isaX 11 1 = some true := by kernel_rfl
theorem tx_11_2 : tb.T.isaX 11 2 = some false := by kernel_rfl
theorem tx_11_3 : tb.T.isaX 11 3 = some false := by kernel_rfl
theorem tx_11_4 : tb.T.isaX 11 4 = some false := by kernel_rfl
theorem tx_11_5 : tb.T.isaX 11 5 = some false := by kernel_rfl
theorem tx_11_6 : tb.T.isaX 11 6 = some false := by kernel_rfl
theorem tx_11_7 : tb.T.isaX 11 7 = some false := by kernel_rfl
theorem tx_11_8 : tb.T.isaX 11 8 = some false := by kernel_rfl
theorem tx_11_9 : tb.T.isaX 11 9 = some false := by kernel_rfl
theorem tx_11_10 : tb.T.isaX 11 10 = some false := by kernel_rfl
theorem tx_11_11 : tb.T.isaX 11 11 = some true := by kernel_rfl
theorem tx_11_12 : tb.T.isaX 11 12 = some false := by kernel_rfl
theorem tx_11_13 : tb.T.isaX 11 13 = some false := by kernel_rfl
theorem tx_11_14 : tb.T.isaX 11 14 = some false := by kernel_rfl
theorem tx_11_15 : tb.T.isaX 11 15 = some false := by kernel_rfl
theorem tx_11_16 : tb.T.isaX 11 16 = some false := by kernel_rfl
theorem tx_11_17 : tb.T.isaX 11 17 = some false := by kernel_rfl
theorem tx_12_1 : tb.T.isaX 12 1 = some true := by kernel_rfl
theorem tx_12_2 : tb.T.isaX 12 2 = some false := by kernel_rfl
theorem tx_12_3 : tb.T.isaX 12 3 = some false := by kernel_rfl
theorem tx_12_4 : tb.T.isaX 12 4 = some false := by kernel_rfl
theorem tx_12_5 : tb.T.isaX 12 5 = some false := by kernel_rfl
theorem tx_12_6 : tb.T.isaX 12 6 = some false := by kernel_rfl
theorem tx_12_7 : tb.T.isaX 12 7 = some false := by kernel_rfl
theorem tx_12_8 : tb.T.isaX 12 8 = some false := by kernel_rfl
theorem tx_12_9 : tb.T.isaX 12 9 = some false := by kernel_rfl
theorem tx_12_10 : tb.T.isaX 12 10 = some false := by kernel_rfl
theorem tx_12_11 : tb.T.isaX 12 11 = some false := by kernel_rfl
theorem tx_12_12 : tb.T.isaX 12 12 = some true := by kernel_rfl
theorem tx_12_13 : tb.T.isaX 12 13 = some false := by kernel_rfl
theorem tx_12_14 : tb.T.isaX 12 14 = some false := by kernel_rfl
theorem tx_12_15 : tb.T.isaX 12 15 = some false := by kernel_rfl
theorem tx_12_16 : tb.T.isaX 12 16 = some false := by kernel_rfl
theorem tx_12_17 : tb.T.isaX 12 17 = some false := by kernel_rfl
theorem tx_13_1 : tb.T.isaX 13 1 = some false := by kernel_rfl
theorem tx_13_2 : tb.T.isaX 13 2 = some true := by kernel_rfl
theorem tx_13_3 : tb.T.isaX 13 3 = some false := by kernel_rfl
theorem tx_13_4 : tb.T.isaX 13 4 = some false := by kernel_rfl
theorem tx_13_5 : tb.T.isaX 13 5 = some false := by kernel_rfl
theorem tx_13_6 : tb.T.isaX 13 6 = some false := by kernel_rfl
theorem tx_13_7 : tb.T.isaX 13 7 = some false := by kernel_rfl
theorem tx_13_8 : tb.T.isaX 13 8 = some false := by kernel_rfl
theorem tx_13_9 : tb.T.isaX 13 9 = some false := by kernel_rfl
theorem tx_13_10 : tb.T.isaX 13 10 = some false := by kernel_rfl
theorem tx_13_11 : tb.T.isaX 13 11 = some false := by kernel_rfl
theorem tx_13_12 : tb.T.isaX 13 12 = some false := by kernel_rfl
theorem tx_13_13 : tb.T.isaX 13 13 = some true := by kernel_rfl
theorem tx_13_14 : tb.T.isaX 13 14 = some false := by kernel_rfl
theorem tx_13_15 : tb.T.isaX 13 15 = some false := by kernel_rfl
theorem tx_13_16 : tb.T.isaX 13 16 = some false := by kernel_rfl
theorem tx_13_17 : tb.T.isaX 13 17 = some false := by kernel_rfl
theorem tx_14_1 : tb.T.isaX 14 1 = some false := by kernel_rfl
theorem tx_14_2 : tb.T.isaX 14 2 = some true := by kernel_rfl
theorem tx_14_3 : tb.T.isaX 14 3 = some false := by kernel_rfl
theorem tx_14_4 : tb.T.isaX 14 4 = some false := by kernel_rfl
theorem tx_14_5 : tb.T.isaX 14 5 = some false := by kernel_rfl
theorem tx_14_6 : tb.T.isaX 14 6 = some false := by kernel_rfl
theorem tx_14_7 : tb.T.isaX 14 7 = some false := by kernel_rfl
theorem tx_14_8 : tb.T.isaX 14 8 = some false := by kernel_rfl
theorem tx_14_9 : tb.T.isaX 14 9 = some false := by kernel_rfl
theorem tx_14_10 : tb.T.isaX 14 10 = some false := by kernel_rfl
theorem tx_14_11 : tb.T.isaX 14 11 = some false := by kernel_rfl
theorem tx_14_12 : tb.T.isaX 14 12 = some false := by kernel_rfl
theorem tx_14_13 : tb.T.isaX 14 13 = some false := by kernel_rfl
theorem tx_14_14 : tb.T.isaX 14 14 = some true := by kernel_rfl
theorem tx_14_15 : tb.T.isaX 14 15 = some false := by kernel_rfl
theorem tx_14_16 : tb.T.isaX 14 16 = some false := by kernel_rfl
theorem tx_14_17 : tb.T.isaX 14 17 = some false := by kernel_rfl
theorem tx_15_1 : tb.T.isaX 15 1 = some false := by kernel_rfl
theorem tx_15_2 : tb.T.isaX 15 2 = some true := by kernel_rfl
theorem tx_15_3 : tb.T.isaX 15 3 = some false := by kernel_rfl
theorem tx_15_4 : tb.T.isaX 15 4 = some false := by kernel_rfl
theorem tx_15_5 : tb.T.isaX 15 5 = some false := by kernel_rfl
theorem tx_15_6 : tb.T.isaX 15 6 = some false := by kernel_rfl
theorem tx_15_7 : tb.T.isaX 15 7 = some false := by kernel_rfl
theorem tx_15_8 : tb.T.isaX 15 8 = some false := by kernel_rfl
theorem tx_15_9 : tb.T.isaX 15 9 = some false := by kernel_rfl
theorem tx_15_10 : tb.T.isaX 15 10 = some false := by kernel_rfl
theorem tx_15_11 : tb.T.isaX 15 11 = some false := by kernel_rfl
theorem tx_15_12 : tb.T.isaX 15 12 = some false := by kernel_rfl
theorem tx_15_13 : tb.T.isaX 15 13 = some false := by kernel_rfl
theorem tx_15_14 : tb.T.isaX 15 14 = some false := by kernel_rfl
theorem tx_15_15 : tb.T.isaX 15 15 = some true := by kernel_rfl
theorem tx_15_16 : tb.T.isaX 15 16 = some false := by kernel_rfl
theorem tx_15_17 : tb.T.isaX 15 17 = some false := by kernel_rfl
theorem tx_16_1 : tb.T.isaX 16 1 = some false := by kernel_rfl
theorem tx_16_2 : tb.T.isaX 16 2 = some false := by kernel_rfl
theorem tx_16_3 : tb.T.isaX 16 3 = some true := by kernel_rfl
theorem tx_16_4 : tb.T.isaX 16 4 = some false := by kernel_rfl
theorem tx_16_5 : tb.T.isaX 16 5 = some false := by kernel_rfl
theorem tx_16_6 : tb.T.isaX 16 6 = some false := by kernel_rfl
theorem tx_16_7 : tb.T.isaX 16 7 = some false := by kernel_rfl
theorem tx_16_8 : tb.T.isaX 16 8 = some false := by kernel_rfl
theorem tx_16_9 : tb.T.isaX 16 9 = some false := by kernel_rfl
theorem tx_16_10 : tb.T.isaX 16 10 = some false := by kernel_rfl
theorem tx_16_11 : tb.T.isaX 16 11 = some false := by kernel_rfl
theorem tx_16_12 : tb.T.isaX 16 12 = some false := by kernel_rfl
theorem tx_16_13 : tb.T.isaX 16 13 = some false := by kernel_rfl
theorem tx_16_14 : tb.T.isaX 16 14 = some false := by kernel_rfl
theorem tx_16_15 : tb.T.isaX 16 15 = some false := by kernel_rfl
theorem tx_16_16 : tb.T.isaX 16 16 = some true := by kernel_rfl
theorem tx_16_17 : tb.T.isaX 16 17 = some false := by kernel_rfl
theorem tx_17_1 : tb.T.isaX 17 1 = some false := by kernel_rfl
theorem tx_17_2 : tb.T.isaX 17 2 = some false := by kernel_rfl
theorem tx_17_3 : tb.T.isaX 17 3 = some true := by kernel_rfl
theorem tx_17_4 : tb.T.isaX 17 4 = some false := by kernel_rfl
theorem tx_17_5 : tb.T.isaX 17 5 = some false := by kernel_rfl
theorem tx_17_6 : tb.T.isaX 17 6 = some false := by kernel_rfl
theorem tx_17_7 : tb.T.isaX 17 7 = some false := by kernel_rfl
theorem tx_17_8 : tb.T.isaX 17 8 = some false := by kernel_rfl
theorem tx_17_9 : tb.T.isaX 17 9 = some false := by kernel_rfl
theorem tx_17_10 : tb.T.isaX 17 10 = some false := by kernel_rfl
theorem tx_17_11 : tb.T.isaX 17 11 = some false := by kernel_rfl
theorem tx_17_12 : tb.T.isaX 17 12 = some false := by kernel_rfl
theorem tx_17_13 : tb.T.isaX 17 13 = some false := by kernel_rfl
theorem tx_17_14 : tb.T.isaX 17 14 = some false := by kernel_rfl
theorem tx_17_15 : tb.T.isaX 17 15 = some false := by kernel_rfl
theorem tx_17_16 : tb.T.isaX 17 16 = some false := by kernel_rfl
theorem tx_17_17 : tb.T.isaX 17 17 = some true := by kernel_rfl
theorem te_4 : tb.exc 4 = some (([("line", 0), ("word", 1)] : List (Str × Nat)), 2) := by kernel_rfl
theorem te_5 : tb.exc 5 = some (([("place", 0)] : List (Str × Nat)), 1) := by kernel_rfl
theorem te_6 : tb.exc 6 = some (([("place", 0)] : List (Str × Nat)), 1) := by kernel_rfl
theorem te_7 : tb.exc 7 = some (([("given", 0)] : List (Str × Nat)), 1) := by kernel_rfl
theorem te_8 : tb.exc 8 = some (([("given", 0)] : List (Str × Nat)), 1) := by kernel_rfl
theorem te_9 : tb.exc 9 = some (([("given", 0)] : List (Str × Nat)), 1) := by kernel_rfl
theorem te_10 : tb.exc 10 = some (([("given", 0)] : List (Str × Nat)), 1) := by kernel_rfl
theorem te_11 : tb.exc 11 = some (([("given", 0)] : List (Str × Nat)), 1) := by kernel_rfl
theorem te_12 : tb.exc 12 = some (([("name", 0)] : List (Str × Nat)), 1) := by kernel_rfl
theorem te_13 : tb.exc 13 = some (([("most", 0)] : List (Str × Nat)), 1) := by kernel_rfl
theorem te_14 : tb.exc 14 = some (([("count", 0)] : List (Str × Nat)), 1) := by kernel_rfl
theorem te_15 : tb.exc 15 = some (([("other", 0)] : List (Str × Nat)), 1) := by kernel_rfl
theorem te_16 : tb.exc 16 = some (([("name", 0)] : List (Str × Nat)), 1) := by kernel_rfl
theorem te_17 : tb.exc 17 = some (([("given", 0)] : List (Str × Nat)), 1) := by kernel_rfl
theorem tf_4_line : tb.xf 4 "line" = true := by kernel_rfl
theorem tf_4_word : tb.xf 4 "word" = true := by kernel_rfl
theorem tf_5_place : tb.xf 5 "place" = true := by kernel_rfl
theorem tf_6_place : tb.xf 6 "place" = true := by kernel_rfl
theorem tf_7_given : tb.xf 7 "given" = true := by kernel_rfl
theorem tf_8_given : tb.xf 8 "given" = true := by kernel_rfl
theorem tf_9_given : tb.xf 9 "given" = true := by kernel_rfl
theorem tf_10_given : tb.xf 10 "given" = true := by kernel_rfl
theorem tf_11_given : tb.xf 11 "given" = true := by kernel_rfl
theorem tf_12_name : tb.xf 12 "name" = true := by kernel_rfl
theorem tf_13_most : tb.xf 13 "most" = true := by kernel_rfl
theorem tf_14_count : tb.xf 14 "count" = true := by kernel_rfl
theorem tf_15_other : tb.xf 15 "other" = true := by kernel_rfl
theorem tf_16_name : tb.xf 16 "name" = true := by kernel_rfl
theorem tf_17_given : tb.xf 17 "given" = true := by kernel_rfl
theorem tt_4_ValueError : tb.T.isaXT 4 "ValueError" = some true := by kernel_rfl
theorem tt_4_RuntimeError : tb.T.isaXT 4 "RuntimeError" = some false := by kernel_rfl
theorem tt_4_LookupError : tb.T.isaXT 4 "LookupError" = some false := by kernel_rfl
theorem tt_5_ValueError : tb.T.isaXT 5 "ValueError" = some true := by kernel_rfl
theorem tt_5_RuntimeError : tb.T.isaXT 5 "RuntimeError" = some false := by kernel_rfl
theorem tt_5_LookupError : tb.T.isaXT 5 "LookupError" = some false := by kernel_rfl
theorem tt_6_ValueError : tb.T.isaXT 6 "ValueError" = some true := by kernel_rfl
theorem tt_6_RuntimeError : tb.T.isaXT 6 "RuntimeError" = some false := by kernel_rfl
theorem tt_6_LookupError : tb.T.isaXT 6 "LookupError" = some false := by kernel_rfl
theorem tt_7_ValueError : tb.T.isaXT 7 "ValueError" = some true := by kernel_rfl
theorem tt_7_RuntimeError : tb.T.isaXT 7 "RuntimeError" = some false := by kernel_rfl
theorem tt_7_LookupError : tb.T.isaXT 7 "LookupError" = some false := by kernel_rfl
theorem tt_8_ValueError : tb.T.isaXT 8 "ValueError" = some true := by kernel_rfl
theorem tt_8_RuntimeError : tb.T.isaXT 8 "RuntimeError" = some false := by kernel_rfl
theorem tt_8_LookupError : tb.T.isaXT 8 "LookupError" = some false := by kernel_rfl
theorem tt_9_ValueError : tb.T.isaXT 9 "ValueError" = some true := by kernel_rfl
theorem tt_9_RuntimeError : tb.T.isaXT 9 "RuntimeError" = some false := by kernel_rfl
theorem tt_9_LookupError : tb.T.isaXT 9 "LookupError" = some false := by kernel_rfl
theorem tt_10_ValueError : tb.T.isaXT 10 "ValueError" = some true := by kernel_rfl
theorem tt_10_RuntimeError : tb.T.isaXT 10 "RuntimeError" = some false := by kernel_rfl
theorem tt_10_LookupError : tb.T.isaXT 10 "LookupError" = some false := by kernel_rfl
theorem tt_11_ValueError : tb.T.isaXT 11 "ValueError" = some true := by kernel_rfl
theorem tt_11_RuntimeError : tb.T.isaXT 11 "RuntimeError" = some false := by kernel_rfl
theorem tt_11_LookupError : tb.T.isaXT 11 "LookupError" = some false := by kernel_rfl
theorem tt_12_ValueError : tb.T.isaXT 12 "ValueError" = some true := by kernel_rfl
theorem tt_12_RuntimeError : tb.T.isaXT 12 "RuntimeError" = some false := by kernel_rfl
theorem tt_12_LookupError : tb.T.isaXT 12 "LookupError" = some false := by kernel_rfl
theorem tt_13_ValueError : tb.T.isaXT 13 "ValueError" = some false := by kernel_rfl
theorem tt_13_RuntimeError : tb.T.isaXT 13 "RuntimeError" = some true := by kernel_rfl
theorem tt_13_LookupError : tb.T.isaXT 13 "LookupError" = some false := by kernel_rfl
theorem tt_14_ValueError : tb.T.isaXT 14 "ValueError" = some false := by kernel_rfl
theorem tt_14_RuntimeError : tb.T.isaXT 14 "RuntimeError" = some true := by kernel_rfl
theorem tt_14_LookupError : tb.T.isaXT 14 "LookupError" = some false := by kernel_rfl
theorem tt_15_ValueError : tb.T.isaXT 15 "ValueError" = some false := by kernel_rfl
theorem tt_15_RuntimeError : tb.T.isaXT 15 "RuntimeError" = some true := by kernel_rfl
theorem tt_15_LookupError : tb.T.isaXT 15 "LookupError" = some false := by kernel_rfl
theorem tt_16_ValueError : tb.T.isaXT 16 "ValueError" = some false := by kernel_rfl
theorem tt_16_RuntimeError : tb.T.isaXT 16 "RuntimeError" = some false := by kernel_rfl
theorem tt_16_LookupError : tb.T.isaXT 16 "LookupError" = some true := by kernel_rfl
theorem tt_17_ValueError : tb.T.isaXT 17 "ValueError" = some false := by kernel_rfl
theorem tt_17_RuntimeError : tb.T.isaXT 17 "RuntimeError" = some false := by kernel_rfl
theorem tt_17_LookupError : tb.T.isaXT 17 "LookupError" = some true := by kernel_rfl
end K01
set_option maxHeartbeats 0
namespace K01
open PySem PySem.Spec PyProof.Rows L2 En Sh
def top (i : Nat) : Stmt := PySem.Challenge.pw_duedeeds_k01_errors_made.main.body.getD i (.Pass ⟨0, 0, 0, 0⟩)
def inCls (i j : Nat) : Stmt := inClass (top i) j
abbrev sT125 : Stmt := top 19
def fd125 : FD := ⟨(.g "_law_begin"), "_law_begin", "_law_begin", defArgs sT125, defBody sT125, defScope sT125, N125, p125, [(67, 11)], ir125, []⟩
theorem c125 : compSs tb 60 ⟨N125, defScope sT125, fun _ => true, fd125.st⟩ (defBody sT125) = some ir125 := by kernel_rfl
theorem sc125 : FnScope N125 p125 (defScope sT125) := ⟨rfl, rfl, rfl, by decide +kernel, rfl, by decide +kernel, by decide +kernel⟩
abbrev sT126 : Stmt := top 20
def fd126 : FD := ⟨(.g "_law_next"), "_law_next", "_law_next", defArgs sT126, defBody sT126, defScope sT126, N126, p126, [], ir126, []⟩
theorem c126 : compSs tb 60 ⟨N126, defScope sT126, fun _ => true, fd126.st⟩ (defBody sT126) = some ir126 := by kernel_rfl
theorem sc126 : FnScope N126 p126 (defScope sT126) := ⟨rfl, rfl, rfl, by decide +kernel, rfl, by decide +kernel, by decide +kernel⟩
abbrev sT127 : Stmt := top 21
def fd127 : FD := ⟨(.g "_law_pick"), "_law_pick", "_law_pick", defArgs sT127, defBody sT127, defScope sT127, N127, p127, [], ir127, []⟩
theorem c127 : compSs tb 60 ⟨N127, defScope sT127, fun _ => true, fd127.st⟩ (defBody sT127) = some ir127 := by kernel_rfl
theorem sc127 : FnScope N127 p127 (defScope sT127) := ⟨rfl, rfl, rfl, by decide +kernel, rfl, by decide +kernel, by decide +kernel⟩
abbrev sT278 : Stmt := inCls 4 0
def fd278 : FD := ⟨(.m "BadText" "__init__"), "__init__", "BadText.__init__", defArgs sT278, defBody sT278, defScope sT278, N278, p278, [], ir278, []⟩
theorem c278 : compSs tb 60 ⟨N278, defScope sT278, fun _ => true, fd278.st⟩ (defBody sT278) = some ir278 := by kernel_rfl
theorem sc278 : FnScope N278 p278 (defScope sT278) := ⟨rfl, rfl, rfl, by decide +kernel, rfl, by decide +kernel, by decide +kernel⟩
abbrev sT279 : Stmt := inCls 5 0
def fd279 : FD := ⟨(.m "BadTerm" "__init__"), "__init__", "BadTerm.__init__", defArgs sT279, defBody sT279, defScope sT279, N279, p279, [], ir279, []⟩
theorem c279 : compSs tb 60 ⟨N279, defScope sT279, fun _ => true, fd279.st⟩ (defBody sT279) = some ir279 := by kernel_rfl
theorem sc279 : FnScope N279 p279 (defScope sT279) := ⟨rfl, rfl, rfl, by decide +kernel, rfl, by decide +kernel, by decide +kernel⟩
abbrev sT280 : Stmt := inCls 6 0
def fd280 : FD := ⟨(.m "BadWho" "__init__"), "__init__", "BadWho.__init__", defArgs sT280, defBody sT280, defScope sT280, N280, p280, [], ir280, []⟩
theorem c280 : compSs tb 60 ⟨N280, defScope sT280, fun _ => true, fd280.st⟩ (defBody sT280) = some ir280 := by kernel_rfl
theorem sc280 : FnScope N280 p280 (defScope sT280) := ⟨rfl, rfl, rfl, by decide +kernel, rfl, by decide +kernel, by decide +kernel⟩
abbrev sT281 : Stmt := inCls 7 0
def fd281 : FD := ⟨(.m "BadHead" "__init__"), "__init__", "BadHead.__init__", defArgs sT281, defBody sT281, defScope sT281, N281, p281, [], ir281, []⟩
theorem c281 : compSs tb 60 ⟨N281, defScope sT281, fun _ => true, fd281.st⟩ (defBody sT281) = some ir281 := by kernel_rfl
theorem sc281 : FnScope N281 p281 (defScope sT281) := ⟨rfl, rfl, rfl, by decide +kernel, rfl, by decide +kernel, by decide +kernel⟩
abbrev sT282 : Stmt := inCls 8 0
def fd282 : FD := ⟨(.m "BadEvent" "__init__"), "__init__", "BadEvent.__init__", defArgs sT282, defBody sT282, defScope sT282, N282, p282, [], ir282, []⟩
theorem c282 : compSs tb 60 ⟨N282, defScope sT282, fun _ => true, fd282.st⟩ (defBody sT282) = some ir282 := by kernel_rfl
theorem sc282 : FnScope N282 p282 (defScope sT282) := ⟨rfl, rfl, rfl, by decide +kernel, rfl, by decide +kernel, by decide +kernel⟩
abbrev sT283 : Stmt := inCls 9 0
def fd283 : FD := ⟨(.m "BadPlace" "__init__"), "__init__", "BadPlace.__init__", defArgs sT283, defBody sT283, defScope sT283, N283, p283, [], ir283, []⟩
theorem c283 : compSs tb 60 ⟨N283, defScope sT283, fun _ => true, fd283.st⟩ (defBody sT283) = some ir283 := by kernel_rfl
theorem sc283 : FnScope N283 p283 (defScope sT283) := ⟨rfl, rfl, rfl, by decide +kernel, rfl, by decide +kernel, by decide +kernel⟩
abbrev sT284 : Stmt := inCls 10 0
def fd284 : FD := ⟨(.m "BadNumber" "__init__"), "__init__", "BadNumber.__init__", defArgs sT284, defBody sT284, defScope sT284, N284, p284, [], ir284, []⟩
theorem c284 : compSs tb 60 ⟨N284, defScope sT284, fun _ => true, fd284.st⟩ (defBody sT284) = some ir284 := by kernel_rfl
theorem sc284 : FnScope N284 p284 (defScope sT284) := ⟨rfl, rfl, rfl, by decide +kernel, rfl, by decide +kernel, by decide +kernel⟩
abbrev sT285 : Stmt := inCls 11 0
def fd285 : FD := ⟨(.m "BadName" "__init__"), "__init__", "BadName.__init__", defArgs sT285, defBody sT285, defScope sT285, N285, p285, [], ir285, []⟩
theorem c285 : compSs tb 60 ⟨N285, defScope sT285, fun _ => true, fd285.st⟩ (defBody sT285) = some ir285 := by kernel_rfl
theorem sc285 : FnScope N285 p285 (defScope sT285) := ⟨rfl, rfl, rfl, by decide +kernel, rfl, by decide +kernel, by decide +kernel⟩
abbrev sT286 : Stmt := inCls 12 0
def fd286 : FD := ⟨(.m "BadContract" "__init__"), "__init__", "BadContract.__init__", defArgs sT286, defBody sT286, defScope sT286, N286, p286, [], ir286, []⟩
theorem c286 : compSs tb 60 ⟨N286, defScope sT286, fun _ => true, fd286.st⟩ (defBody sT286) = some ir286 := by kernel_rfl
theorem sc286 : FnScope N286 p286 (defScope sT286) := ⟨rfl, rfl, rfl, by decide +kernel, rfl, by decide +kernel, by decide +kernel⟩
abbrev sT287 : Stmt := inCls 13 0
def fd287 : FD := ⟨(.m "TooMany" "__init__"), "__init__", "TooMany.__init__", defArgs sT287, defBody sT287, defScope sT287, N287, p287, [], ir287, []⟩
theorem c287 : compSs tb 60 ⟨N287, defScope sT287, fun _ => true, fd287.st⟩ (defBody sT287) = some ir287 := by kernel_rfl
theorem sc287 : FnScope N287 p287 (defScope sT287) := ⟨rfl, rfl, rfl, by decide +kernel, rfl, by decide +kernel, by decide +kernel⟩
abbrev sT288 : Stmt := inCls 14 0
def fd288 : FD := ⟨(.m "NothingToUndo" "__init__"), "__init__", "NothingToUndo.__init__", defArgs sT288, defBody sT288, defScope sT288, N288, p288, [], ir288, []⟩
theorem c288 : compSs tb 60 ⟨N288, defScope sT288, fun _ => true, fd288.st⟩ (defBody sT288) = some ir288 := by kernel_rfl
theorem sc288 : FnScope N288 p288 (defScope sT288) := ⟨rfl, rfl, rfl, by decide +kernel, rfl, by decide +kernel, by decide +kernel⟩
abbrev sT289 : Stmt := inCls 15 0
def fd289 : FD := ⟨(.m "Unlike" "__init__"), "__init__", "Unlike.__init__", defArgs sT289, defBody sT289, defScope sT289, N289, p289, [], ir289, []⟩
theorem c289 : compSs tb 60 ⟨N289, defScope sT289, fun _ => true, fd289.st⟩ (defBody sT289) = some ir289 := by kernel_rfl
theorem sc289 : FnScope N289 p289 (defScope sT289) := ⟨rfl, rfl, rfl, by decide +kernel, rfl, by decide +kernel, by decide +kernel⟩
abbrev sT290 : Stmt := inCls 16 0
def fd290 : FD := ⟨(.m "NoContract" "__init__"), "__init__", "NoContract.__init__", defArgs sT290, defBody sT290, defScope sT290, N290, p290, [], ir290, []⟩
theorem c290 : compSs tb 60 ⟨N290, defScope sT290, fun _ => true, fd290.st⟩ (defBody sT290) = some ir290 := by kernel_rfl
theorem sc290 : FnScope N290 p290 (defScope sT290) := ⟨rfl, rfl, rfl, by decide +kernel, rfl, by decide +kernel, by decide +kernel⟩
abbrev sT291 : Stmt := inCls 17 0
def fd291 : FD := ⟨(.m "NoParty" "__init__"), "__init__", "NoParty.__init__", defArgs sT291, defBody sT291, defScope sT291, N291, p291, [], ir291, []⟩
theorem c291 : compSs tb 60 ⟨N291, defScope sT291, fun _ => true, fd291.st⟩ (defBody sT291) = some ir291 := by kernel_rfl
theorem sc291 : FnScope N291 p291 (defScope sT291) := ⟨rfl, rfl, rfl, by decide +kernel, rfl, by decide +kernel, by decide +kernel⟩
abbrev sT300 : Stmt := top 26
def fd300 : FD := ⟨(.g "law"), "law", "law", defArgs sT300, defBody sT300, defScope sT300, N300, p300, [], ir300, []⟩
theorem c300 : compSs tb 60 ⟨N300, defScope sT300, fun _ => true, fd300.st⟩ (defBody sT300) = some ir300 := by kernel_rfl
theorem sc300 : FnScope N300 p300 (defScope sT300) := ⟨rfl, rfl, rfl, by decide +kernel, rfl, by decide +kernel, by decide +kernel⟩
abbrev sT301 : Stmt := top 25
def fd301 : FD := ⟨(.g "_law_told"), "_law_told", "_law_told", defArgs sT301, defBody sT301, defScope sT301, N301, p301, [], ir301, []⟩
theorem c301 : compSs tb 60 ⟨N301, defScope sT301, fun _ => true, fd301.st⟩ (defBody sT301) = some ir301 := by kernel_rfl
theorem sc301 : FnScope N301 p301 (defScope sT301) := ⟨rfl, rfl, rfl, by decide +kernel, rfl, by decide +kernel, by decide +kernel⟩
abbrev sT302 : Stmt := top 24
def fd302 : FD := ⟨(.g "_law_made"), "_law_made", "_law_made", defArgs sT302, defBody sT302, defScope sT302, N302, p302, [], ir302, []⟩
theorem c302 : compSs tb 60 ⟨N302, defScope sT302, fun _ => true, fd302.st⟩ (defBody sT302) = some ir302 := by kernel_rfl
theorem sc302 : FnScope N302 p302 (defScope sT302) := ⟨rfl, rfl, rfl, by decide +kernel, rfl, by decide +kernel, by decide +kernel⟩
abbrev sT303 : Stmt := top 22
def fd303 : FD := ⟨(.g "_law_kinds"), "_law_kinds", "_law_kinds", defArgs sT303, defBody sT303, defScope sT303, N303, p303, [], ir303, []⟩
theorem c303 : compSs tb 60 ⟨N303, defScope sT303, fun _ => true, fd303.st⟩ (defBody sT303) = some ir303 := by kernel_rfl
theorem sc303 : FnScope N303 p303 (defScope sT303) := ⟨rfl, rfl, rfl, by decide +kernel, rfl, by decide +kernel, by decide +kernel⟩
abbrev sT304 : Stmt := top 23
def fd304 : FD := ⟨(.g "_law_family"), "_law_family", "_law_family", defArgs sT304, defBody sT304, defScope sT304, N304, p304, [], ir304, []⟩
theorem c304 : compSs tb 60 ⟨N304, defScope sT304, fun _ => true, fd304.st⟩ (defBody sT304) = some ir304 := by kernel_rfl
theorem sc304 : FnScope N304 p304 (defScope sT304) := ⟨rfl, rfl, rfl, by decide +kernel, rfl, by decide +kernel, by decide +kernel⟩
def S : Prg := { P0 with fs := ((125, fd125) :: (126, fd126) :: (127, fd127) :: (278, fd278) :: (279, fd279) :: (280, fd280) :: (281, fd281) :: (282, fd282) :: (283, fd283) :: (284, fd284) :: (285, fd285) :: (286, fd286) :: (287, fd287) :: (288, fd288) :: (289, fd289) :: (290, fd290) :: (291, fd291) :: (300, fd300) :: (301, fd301) :: (302, fd302) :: (303, fd303) :: (304, fd304) :: []) }
theorem b0 (K : PySem.W.Frag) (fd : FuncData) (F : FunD K fd125.name fd125.qual fd125.params fd125.body fd125.scope [] [] (fd125.at_.ad K) fd) (hk : KdE K fd.kwdefaults fd125.kd = true) : CB K fd p125 1 [] [.pos 0] :=
  cb_of F rfl fun _ _ _ _ _ _ us ws h1 h2 => match us, ws, h1, h2 with | [a0], [], _, _ => ⟨[a0], rfl, (.pos rfl .nil)⟩
theorem b1 (K : PySem.W.Frag) (fd : FuncData) (F : FunD K fd127.name fd127.qual fd127.params fd127.body fd127.scope [] [] (fd127.at_.ad K) fd) (hk : KdE K fd.kwdefaults fd127.kd = true) : CB K fd p127 2 [] [.pos 0, .pos 1] :=
  cb_of F rfl fun _ _ _ _ _ _ us ws h1 h2 => match us, ws, h1, h2 with | [a0, a1], [], _, _ => ⟨[a0, a1], rfl, (.pos rfl (.pos rfl .nil))⟩
theorem b2 (K : PySem.W.Frag) (fd : FuncData) (F : FunD K fd301.name fd301.qual fd301.params fd301.body fd301.scope [] [] (fd301.at_.ad K) fd) (hk : KdE K fd.kwdefaults fd301.kd = true) : CB K fd p301 2 [] [.pos 0, .pos 1] :=
  cb_of F rfl fun _ _ _ _ _ _ us ws h1 h2 => match us, ws, h1, h2 with | [a0, a1], [], _, _ => ⟨[a0, a1], rfl, (.pos rfl (.pos rfl .nil))⟩
theorem b3 (K : PySem.W.Frag) (fd : FuncData) (F : FunD K fd302.name fd302.qual fd302.params fd302.body fd302.scope [] [] (fd302.at_.ad K) fd) (hk : KdE K fd.kwdefaults fd302.kd = true) : CB K fd p302 2 [] [.pos 0, .pos 1] :=
  cb_of F rfl fun _ _ _ _ _ _ us ws h1 h2 => match us, ws, h1, h2 with | [a0, a1], [], _, _ => ⟨[a0, a1], rfl, (.pos rfl (.pos rfl .nil))⟩
theorem b4 (K : PySem.W.Frag) (fd : FuncData) (F : FunD K fd303.name fd303.qual fd303.params fd303.body fd303.scope [] [] (fd303.at_.ad K) fd) (hk : KdE K fd.kwdefaults fd303.kd = true) : CB K fd p303 1 [] [.pos 0] :=
  cb_of F rfl fun _ _ _ _ _ _ us ws h1 h2 => match us, ws, h1, h2 with | [a0], [], _, _ => ⟨[a0], rfl, (.pos rfl .nil)⟩
theorem b5 (K : PySem.W.Frag) (fd : FuncData) (F : FunD K fd304.name fd304.qual fd304.params fd304.body fd304.scope [] [] (fd304.at_.ad K) fd) (hk : KdE K fd.kwdefaults fd304.kd = true) : CB K fd p304 1 [] [.pos 0] :=
  cb_of F rfl fun _ _ _ _ _ _ us ws h1 h2 => match us, ws, h1, h2 with | [a0], [], _, _ => ⟨[a0], rfl, (.pos rfl .nil)⟩
theorem b6 (K : PySem.W.Frag) (fd : FuncData) (F : FunD K fd126.name fd126.qual fd126.params fd126.body fd126.scope [] [] (fd126.at_.ad K) fd) (hk : KdE K fd.kwdefaults fd126.kd = true) : CB K fd p126 2 [] [.pos 0, .pos 1] :=
  cb_of F rfl fun _ _ _ _ _ _ us ws h1 h2 => match us, ws, h1, h2 with | [a0, a1], [], _, _ => ⟨[a0, a1], rfl, (.pos rfl (.pos rfl .nil))⟩
theorem b7 (K : PySem.W.Frag) (fd : FuncData) (F : FunD K fd278.name fd278.qual fd278.params fd278.body fd278.scope [] [] (fd278.at_.ad K) fd) (hk : KdE K fd.kwdefaults fd278.kd = true) : CB K fd p278 3 [] [.pos 0, .pos 1, .pos 2] :=
  cb_of F rfl fun _ _ _ _ _ _ us ws h1 h2 => match us, ws, h1, h2 with | [a0, a1, a2], [], _, _ => ⟨[a0, a1, a2], rfl, (.pos rfl (.pos rfl (.pos rfl .nil)))⟩
theorem b8 (K : PySem.W.Frag) (fd : FuncData) (F : FunD K fd278.name fd278.qual fd278.params fd278.body fd278.scope [] [] (fd278.at_.ad K) fd) (hk : KdE K fd.kwdefaults fd278.kd = true) : CB K fd p278 1 ["word", "line"] [.pos 0, .kw 1, .kw 0] :=
  cb_of F rfl fun _ _ _ _ _ _ us ws h1 h2 => match us, ws, h1, h2 with | [a0], [b0, b1], _, _ => ⟨[a0, b1, b0], rfl, (.pos rfl (.kw rfl (.kw rfl .nil)))⟩
theorem b9 (K : PySem.W.Frag) (fd : FuncData) (F : FunD K fd279.name fd279.qual fd279.params fd279.body fd279.scope [] [] (fd279.at_.ad K) fd) (hk : KdE K fd.kwdefaults fd279.kd = true) : CB K fd p279 2 [] [.pos 0, .pos 1] :=
  cb_of F rfl fun _ _ _ _ _ _ us ws h1 h2 => match us, ws, h1, h2 with | [a0, a1], [], _, _ => ⟨[a0, a1], rfl, (.pos rfl (.pos rfl .nil))⟩
theorem b10 (K : PySem.W.Frag) (fd : FuncData) (F : FunD K fd279.name fd279.qual fd279.params fd279.body fd279.scope [] [] (fd279.at_.ad K) fd) (hk : KdE K fd.kwdefaults fd279.kd = true) : CB K fd p279 1 ["place"] [.pos 0, .kw 0] :=
  cb_of F rfl fun _ _ _ _ _ _ us ws h1 h2 => match us, ws, h1, h2 with | [a0], [b0], _, _ => ⟨[a0, b0], rfl, (.pos rfl (.kw rfl .nil))⟩
theorem b11 (K : PySem.W.Frag) (fd : FuncData) (F : FunD K fd280.name fd280.qual fd280.params fd280.body fd280.scope [] [] (fd280.at_.ad K) fd) (hk : KdE K fd.kwdefaults fd280.kd = true) : CB K fd p280 2 [] [.pos 0, .pos 1] :=
  cb_of F rfl fun _ _ _ _ _ _ us ws h1 h2 => match us, ws, h1, h2 with | [a0, a1], [], _, _ => ⟨[a0, a1], rfl, (.pos rfl (.pos rfl .nil))⟩
theorem b12 (K : PySem.W.Frag) (fd : FuncData) (F : FunD K fd280.name fd280.qual fd280.params fd280.body fd280.scope [] [] (fd280.at_.ad K) fd) (hk : KdE K fd.kwdefaults fd280.kd = true) : CB K fd p280 1 ["place"] [.pos 0, .kw 0] :=
  cb_of F rfl fun _ _ _ _ _ _ us ws h1 h2 => match us, ws, h1, h2 with | [a0], [b0], _, _ => ⟨[a0, b0], rfl, (.pos rfl (.kw rfl .nil))⟩
theorem b13 (K : PySem.W.Frag) (fd : FuncData) (F : FunD K fd281.name fd281.qual fd281.params fd281.body fd281.scope [] [] (fd281.at_.ad K) fd) (hk : KdE K fd.kwdefaults fd281.kd = true) : CB K fd p281 2 [] [.pos 0, .pos 1] :=
  cb_of F rfl fun _ _ _ _ _ _ us ws h1 h2 => match us, ws, h1, h2 with | [a0, a1], [], _, _ => ⟨[a0, a1], rfl, (.pos rfl (.pos rfl .nil))⟩
theorem b14 (K : PySem.W.Frag) (fd : FuncData) (F : FunD K fd281.name fd281.qual fd281.params fd281.body fd281.scope [] [] (fd281.at_.ad K) fd) (hk : KdE K fd.kwdefaults fd281.kd = true) : CB K fd p281 1 ["given"] [.pos 0, .kw 0] :=
  cb_of F rfl fun _ _ _ _ _ _ us ws h1 h2 => match us, ws, h1, h2 with | [a0], [b0], _, _ => ⟨[a0, b0], rfl, (.pos rfl (.kw rfl .nil))⟩
theorem b15 (K : PySem.W.Frag) (fd : FuncData) (F : FunD K fd282.name fd282.qual fd282.params fd282.body fd282.scope [] [] (fd282.at_.ad K) fd) (hk : KdE K fd.kwdefaults fd282.kd = true) : CB K fd p282 2 [] [.pos 0, .pos 1] :=
  cb_of F rfl fun _ _ _ _ _ _ us ws h1 h2 => match us, ws, h1, h2 with | [a0, a1], [], _, _ => ⟨[a0, a1], rfl, (.pos rfl (.pos rfl .nil))⟩
theorem b16 (K : PySem.W.Frag) (fd : FuncData) (F : FunD K fd282.name fd282.qual fd282.params fd282.body fd282.scope [] [] (fd282.at_.ad K) fd) (hk : KdE K fd.kwdefaults fd282.kd = true) : CB K fd p282 1 ["given"] [.pos 0, .kw 0] :=
  cb_of F rfl fun _ _ _ _ _ _ us ws h1 h2 => match us, ws, h1, h2 with | [a0], [b0], _, _ => ⟨[a0, b0], rfl, (.pos rfl (.kw rfl .nil))⟩
theorem b17 (K : PySem.W.Frag) (fd : FuncData) (F : FunD K fd283.name fd283.qual fd283.params fd283.body fd283.scope [] [] (fd283.at_.ad K) fd) (hk : KdE K fd.kwdefaults fd283.kd = true) : CB K fd p283 2 [] [.pos 0, .pos 1] :=
  cb_of F rfl fun _ _ _ _ _ _ us ws h1 h2 => match us, ws, h1, h2 with | [a0, a1], [], _, _ => ⟨[a0, a1], rfl, (.pos rfl (.pos rfl .nil))⟩
theorem b18 (K : PySem.W.Frag) (fd : FuncData) (F : FunD K fd283.name fd283.qual fd283.params fd283.body fd283.scope [] [] (fd283.at_.ad K) fd) (hk : KdE K fd.kwdefaults fd283.kd = true) : CB K fd p283 1 ["given"] [.pos 0, .kw 0] :=
  cb_of F rfl fun _ _ _ _ _ _ us ws h1 h2 => match us, ws, h1, h2 with | [a0], [b0], _, _ => ⟨[a0, b0], rfl, (.pos rfl (.kw rfl .nil))⟩
theorem b19 (K : PySem.W.Frag) (fd : FuncData) (F : FunD K fd284.name fd284.qual fd284.params fd284.body fd284.scope [] [] (fd284.at_.ad K) fd) (hk : KdE K fd.kwdefaults fd284.kd = true) : CB K fd p284 2 [] [.pos 0, .pos 1] :=
  cb_of F rfl fun _ _ _ _ _ _ us ws h1 h2 => match us, ws, h1, h2 with | [a0, a1], [], _, _ => ⟨[a0, a1], rfl, (.pos rfl (.pos rfl .nil))⟩
theorem b20 (K : PySem.W.Frag) (fd : FuncData) (F : FunD K fd284.name fd284.qual fd284.params fd284.body fd284.scope [] [] (fd284.at_.ad K) fd) (hk : KdE K fd.kwdefaults fd284.kd = true) : CB K fd p284 1 ["given"] [.pos 0, .kw 0] :=
  cb_of F rfl fun _ _ _ _ _ _ us ws h1 h2 => match us, ws, h1, h2 with | [a0], [b0], _, _ => ⟨[a0, b0], rfl, (.pos rfl (.kw rfl .nil))⟩
theorem b21 (K : PySem.W.Frag) (fd : FuncData) (F : FunD K fd285.name fd285.qual fd285.params fd285.body fd285.scope [] [] (fd285.at_.ad K) fd) (hk : KdE K fd.kwdefaults fd285.kd = true) : CB K fd p285 2 [] [.pos 0, .pos 1] :=
  cb_of F rfl fun _ _ _ _ _ _ us ws h1 h2 => match us, ws, h1, h2 with | [a0, a1], [], _, _ => ⟨[a0, a1], rfl, (.pos rfl (.pos rfl .nil))⟩
theorem b22 (K : PySem.W.Frag) (fd : FuncData) (F : FunD K fd285.name fd285.qual fd285.params fd285.body fd285.scope [] [] (fd285.at_.ad K) fd) (hk : KdE K fd.kwdefaults fd285.kd = true) : CB K fd p285 1 ["given"] [.pos 0, .kw 0] :=
  cb_of F rfl fun _ _ _ _ _ _ us ws h1 h2 => match us, ws, h1, h2 with | [a0], [b0], _, _ => ⟨[a0, b0], rfl, (.pos rfl (.kw rfl .nil))⟩
theorem b23 (K : PySem.W.Frag) (fd : FuncData) (F : FunD K fd286.name fd286.qual fd286.params fd286.body fd286.scope [] [] (fd286.at_.ad K) fd) (hk : KdE K fd.kwdefaults fd286.kd = true) : CB K fd p286 2 [] [.pos 0, .pos 1] :=
  cb_of F rfl fun _ _ _ _ _ _ us ws h1 h2 => match us, ws, h1, h2 with | [a0, a1], [], _, _ => ⟨[a0, a1], rfl, (.pos rfl (.pos rfl .nil))⟩
theorem b24 (K : PySem.W.Frag) (fd : FuncData) (F : FunD K fd286.name fd286.qual fd286.params fd286.body fd286.scope [] [] (fd286.at_.ad K) fd) (hk : KdE K fd.kwdefaults fd286.kd = true) : CB K fd p286 1 ["name"] [.pos 0, .kw 0] :=
  cb_of F rfl fun _ _ _ _ _ _ us ws h1 h2 => match us, ws, h1, h2 with | [a0], [b0], _, _ => ⟨[a0, b0], rfl, (.pos rfl (.kw rfl .nil))⟩
theorem b25 (K : PySem.W.Frag) (fd : FuncData) (F : FunD K fd287.name fd287.qual fd287.params fd287.body fd287.scope [] [] (fd287.at_.ad K) fd) (hk : KdE K fd.kwdefaults fd287.kd = true) : CB K fd p287 2 [] [.pos 0, .pos 1] :=
  cb_of F rfl fun _ _ _ _ _ _ us ws h1 h2 => match us, ws, h1, h2 with | [a0, a1], [], _, _ => ⟨[a0, a1], rfl, (.pos rfl (.pos rfl .nil))⟩
theorem b26 (K : PySem.W.Frag) (fd : FuncData) (F : FunD K fd287.name fd287.qual fd287.params fd287.body fd287.scope [] [] (fd287.at_.ad K) fd) (hk : KdE K fd.kwdefaults fd287.kd = true) : CB K fd p287 1 ["most"] [.pos 0, .kw 0] :=
  cb_of F rfl fun _ _ _ _ _ _ us ws h1 h2 => match us, ws, h1, h2 with | [a0], [b0], _, _ => ⟨[a0, b0], rfl, (.pos rfl (.kw rfl .nil))⟩
theorem b27 (K : PySem.W.Frag) (fd : FuncData) (F : FunD K fd288.name fd288.qual fd288.params fd288.body fd288.scope [] [] (fd288.at_.ad K) fd) (hk : KdE K fd.kwdefaults fd288.kd = true) : CB K fd p288 2 [] [.pos 0, .pos 1] :=
  cb_of F rfl fun _ _ _ _ _ _ us ws h1 h2 => match us, ws, h1, h2 with | [a0, a1], [], _, _ => ⟨[a0, a1], rfl, (.pos rfl (.pos rfl .nil))⟩
theorem b28 (K : PySem.W.Frag) (fd : FuncData) (F : FunD K fd288.name fd288.qual fd288.params fd288.body fd288.scope [] [] (fd288.at_.ad K) fd) (hk : KdE K fd.kwdefaults fd288.kd = true) : CB K fd p288 1 ["count"] [.pos 0, .kw 0] :=
  cb_of F rfl fun _ _ _ _ _ _ us ws h1 h2 => match us, ws, h1, h2 with | [a0], [b0], _, _ => ⟨[a0, b0], rfl, (.pos rfl (.kw rfl .nil))⟩
theorem b29 (K : PySem.W.Frag) (fd : FuncData) (F : FunD K fd289.name fd289.qual fd289.params fd289.body fd289.scope [] [] (fd289.at_.ad K) fd) (hk : KdE K fd.kwdefaults fd289.kd = true) : CB K fd p289 2 [] [.pos 0, .pos 1] :=
  cb_of F rfl fun _ _ _ _ _ _ us ws h1 h2 => match us, ws, h1, h2 with | [a0, a1], [], _, _ => ⟨[a0, a1], rfl, (.pos rfl (.pos rfl .nil))⟩
theorem b30 (K : PySem.W.Frag) (fd : FuncData) (F : FunD K fd289.name fd289.qual fd289.params fd289.body fd289.scope [] [] (fd289.at_.ad K) fd) (hk : KdE K fd.kwdefaults fd289.kd = true) : CB K fd p289 1 ["other"] [.pos 0, .kw 0] :=
  cb_of F rfl fun _ _ _ _ _ _ us ws h1 h2 => match us, ws, h1, h2 with | [a0], [b0], _, _ => ⟨[a0, b0], rfl, (.pos rfl (.kw rfl .nil))⟩
theorem b31 (K : PySem.W.Frag) (fd : FuncData) (F : FunD K fd290.name fd290.qual fd290.params fd290.body fd290.scope [] [] (fd290.at_.ad K) fd) (hk : KdE K fd.kwdefaults fd290.kd = true) : CB K fd p290 2 [] [.pos 0, .pos 1] :=
  cb_of F rfl fun _ _ _ _ _ _ us ws h1 h2 => match us, ws, h1, h2 with | [a0, a1], [], _, _ => ⟨[a0, a1], rfl, (.pos rfl (.pos rfl .nil))⟩
theorem b32 (K : PySem.W.Frag) (fd : FuncData) (F : FunD K fd290.name fd290.qual fd290.params fd290.body fd290.scope [] [] (fd290.at_.ad K) fd) (hk : KdE K fd.kwdefaults fd290.kd = true) : CB K fd p290 1 ["name"] [.pos 0, .kw 0] :=
  cb_of F rfl fun _ _ _ _ _ _ us ws h1 h2 => match us, ws, h1, h2 with | [a0], [b0], _, _ => ⟨[a0, b0], rfl, (.pos rfl (.kw rfl .nil))⟩
theorem b33 (K : PySem.W.Frag) (fd : FuncData) (F : FunD K fd291.name fd291.qual fd291.params fd291.body fd291.scope [] [] (fd291.at_.ad K) fd) (hk : KdE K fd.kwdefaults fd291.kd = true) : CB K fd p291 2 [] [.pos 0, .pos 1] :=
  cb_of F rfl fun _ _ _ _ _ _ us ws h1 h2 => match us, ws, h1, h2 with | [a0, a1], [], _, _ => ⟨[a0, a1], rfl, (.pos rfl (.pos rfl .nil))⟩
theorem b34 (K : PySem.W.Frag) (fd : FuncData) (F : FunD K fd291.name fd291.qual fd291.params fd291.body fd291.scope [] [] (fd291.at_.ad K) fd) (hk : KdE K fd.kwdefaults fd291.kd = true) : CB K fd p291 1 ["given"] [.pos 0, .kw 0] :=
  cb_of F rfl fun _ _ _ _ _ _ us ws h1 h2 => match us, ws, h1, h2 with | [a0], [b0], _, _ => ⟨[a0, b0], rfl, (.pos rfl (.kw rfl .nil))⟩
theorem b35 (K : PySem.W.Frag) (fd : FuncData) (F : FunD K fd300.name fd300.qual fd300.params fd300.body fd300.scope [] [] (fd300.at_.ad K) fd) (hk : KdE K fd.kwdefaults fd300.kd = true) : CB K fd p300 1 [] [.pos 0] :=
  cb_of F rfl fun _ _ _ _ _ _ us ws h1 h2 => match us, ws, h1, h2 with | [a0], [], _, _ => ⟨[a0], rfl, (.pos rfl .nil)⟩
theorem okF : ∀ p ∈ S.fs, FnScope p.2.N p.2.ps p.2.scope ∧ ∃ n, compSs S.tb n ⟨p.2.N, p.2.scope, fun _ => true, p.2.st⟩ p.2.body = some p.2.ir :=
  fcons ⟨sc125, 60, c125⟩ (fcons ⟨sc126, 60, c126⟩ (fcons ⟨sc127, 60, c127⟩ (fcons ⟨sc278, 60, c278⟩ (fcons ⟨sc279, 60, c279⟩ (fcons ⟨sc280, 60, c280⟩ (fcons ⟨sc281, 60, c281⟩ (fcons ⟨sc282, 60, c282⟩ (fcons ⟨sc283, 60, c283⟩ (fcons ⟨sc284, 60, c284⟩ (fcons ⟨sc285, 60, c285⟩ (fcons ⟨sc286, 60, c286⟩ (fcons ⟨sc287, 60, c287⟩ (fcons ⟨sc288, 60, c288⟩ (fcons ⟨sc289, 60, c289⟩ (fcons ⟨sc290, 60, c290⟩ (fcons ⟨sc291, 60, c291⟩ (fcons ⟨sc300, 60, c300⟩ (fcons ⟨sc301, 60, c301⟩ (fcons ⟨sc302, 60, c302⟩ (fcons ⟨sc303, 60, c303⟩ (fcons ⟨sc304, 60, c304⟩ (fnil))))))))))))))))))))))
theorem okB : ∀ p ∈ S.bnds, ∃ d : FD, S.fs.lookup p.1.1 = some d ∧ ∀ (K : PySem.W.Frag) (fd : FuncData), FunD K d.name d.qual d.params d.body d.scope [] [] (d.at_.ad K) fd → KdE K fd.kwdefaults d.kd = true → CB K fd d.ps p.1.2.1 p.1.2.2 p.2 :=
  fcons ⟨fd125, rfl, b0⟩ (fcons ⟨fd127, rfl, b1⟩ (fcons ⟨fd301, rfl, b2⟩ (fcons ⟨fd302, rfl, b3⟩ (fcons ⟨fd303, rfl, b4⟩ (fcons ⟨fd304, rfl, b5⟩ (fcons ⟨fd126, rfl, b6⟩ (fcons ⟨fd278, rfl, b7⟩ (fcons ⟨fd278, rfl, b8⟩ (fcons ⟨fd279, rfl, b9⟩ (fcons ⟨fd279, rfl, b10⟩ (fcons ⟨fd280, rfl, b11⟩ (fcons ⟨fd280, rfl, b12⟩ (fcons ⟨fd281, rfl, b13⟩ (fcons ⟨fd281, rfl, b14⟩ (fcons ⟨fd282, rfl, b15⟩ (fcons ⟨fd282, rfl, b16⟩ (fcons ⟨fd283, rfl, b17⟩ (fcons ⟨fd283, rfl, b18⟩ (fcons ⟨fd284, rfl, b19⟩ (fcons ⟨fd284, rfl, b20⟩ (fcons ⟨fd285, rfl, b21⟩ (fcons ⟨fd285, rfl, b22⟩ (fcons ⟨fd286, rfl, b23⟩ (fcons ⟨fd286, rfl, b24⟩ (fcons ⟨fd287, rfl, b25⟩ (fcons ⟨fd287, rfl, b26⟩ (fcons ⟨fd288, rfl, b27⟩ (fcons ⟨fd288, rfl, b28⟩ (fcons ⟨fd289, rfl, b29⟩ (fcons ⟨fd289, rfl, b30⟩ (fcons ⟨fd290, rfl, b31⟩ (fcons ⟨fd290, rfl, b32⟩ (fcons ⟨fd291, rfl, b33⟩ (fcons ⟨fd291, rfl, b34⟩ (fcons ⟨fd300, rfl, b35⟩ (fnil))))))))))))))))))))))))))))))))))))
theorem ok : S.Ok := ⟨okF, okB, fnil, fnil, fnil, fcons ⟨by kernel_rfl, fd278, rfl, by kernel_rfl⟩ (fcons ⟨by kernel_rfl, fd279, rfl, by kernel_rfl⟩ (fcons ⟨by kernel_rfl, fd280, rfl, by kernel_rfl⟩ (fcons ⟨by kernel_rfl, fd281, rfl, by kernel_rfl⟩ (fcons ⟨by kernel_rfl, fd282, rfl, by kernel_rfl⟩ (fcons ⟨by kernel_rfl, fd283, rfl, by kernel_rfl⟩ (fcons ⟨by kernel_rfl, fd284, rfl, by kernel_rfl⟩ (fcons ⟨by kernel_rfl, fd285, rfl, by kernel_rfl⟩ (fcons ⟨by kernel_rfl, fd286, rfl, by kernel_rfl⟩ (fcons ⟨by kernel_rfl, fd287, rfl, by kernel_rfl⟩ (fcons ⟨by kernel_rfl, fd288, rfl, by kernel_rfl⟩ (fcons ⟨by kernel_rfl, fd289, rfl, by kernel_rfl⟩ (fcons ⟨by kernel_rfl, fd290, rfl, by kernel_rfl⟩ (fcons ⟨by kernel_rfl, fd291, rfl, by kernel_rfl⟩ (fnil))))))))))))))⟩
theorem tabS : S.tab = tab := by
  funext f
  show (S.fs.lookup f).map _ = tabL.lookup f
  exact lk_map (fun d : FD => (⟨d.N, d.ps.length, d.ir⟩ : Fn)) S.fs f
abbrev R : PySem.W.OpenRow := PySem.W.OpenLaw.row PySem.Challenge.rw_duedeeds_k01_errors_made
abbrev hk : PySem.W.Hook := hookP 5 S.ck (S.fs.map (·.2)) S.ts
def ob (s : PySem.W.SharedT) : AlP := obsP 5 S.ck (S.fs.map (·.2)) S.ts (HandSHeadRun.getT s)
theorem ob_eq (s : PySem.W.SharedT) : ob s = hk.obs s.abs := obsP_eq (HandSHeadRun.getT_eq s)
def loose : List Str := ("DeedsError" :: "StateError" :: "MissingError" :: "BadText" :: "BadTerm" :: "BadWho" :: "BadHead" :: "BadEvent" :: "BadPlace" :: "BadNumber" :: "BadName" :: "BadContract" :: "TooMany" :: "NothingToUndo" :: "Unlike" :: "NoContract" :: "NoParty" :: "_law_begin" :: "_law_next" :: "_law_pick" :: "_law_kinds" :: "_law_family" :: "_law_made" :: "_law_told" :: [])
theorem runF (w : World) : HandSHeadRun.RunEq R (PySem.W.view R.prog [26]) hk ob 40000 loose (w.withFollow "special-get-raises" false) := fun os => by kernel_rfl
theorem runT (w : World) : HandSHeadRun.RunEq R (PySem.W.view R.prog [26]) hk ob 40000 loose (w.withFollow "special-get-raises" true) := fun os => by kernel_rfl
theorem run (w : World) : HandSHeadRun.RunEq R (PySem.W.view R.prog [26]) hk ob 40000 loose w :=
  PySem.W.byRow2 "special-get-raises" (P := fun w => HandSHeadRun.RunEq R (PySem.W.view R.prog [26]) hk ob 40000 loose w) runF runT w
theorem facts {P : Program} {w : World} {K : PySem.W.Frag} {h : Heap} {mg : Str → Option Value} {f : Addr} (X : K.In h) (G : h.Ns mainGlobals mg) (hfa : mg ("law" : Str) = some (.ref f)) (c : SaysP S.ck (S.fs.map (·.2)) S.ts w K) :
    ∃ fd : FuncData, (∀ (s : Shared) (v : Value), BindsTo s fd ⟨[v], []⟩ [("_law_script", v)]) ∧ ∀ base : Heap, FnG P w K mg base 40 f fd ["_law_script"] (spF (S.wd K) 1 (cal 40 300)) := by
  have W := prg_ws X G ok c
  obtain ⟨fd, F, FW, ea, _⟩ := prg_fn ok c (f := 300) (d := fd300) rfl
  have e := hfa.symm.trans (W.glf "law" 300 (by kernel_rfl))
  cases e
  have b := FunD.bindsA (ps := ["_law_script"]) F fun _ _ _ _ _ _ us hl => match us, hl with | [_], _ => rfl
  refine ⟨fd, fun s v => b s [v] rfl, fun base => ?_⟩
  have q := calG (fu := 100) (wf := 1000000) (P := P) W base 40 (f := 300) (fn := ⟨N300, p300.length, ir300⟩) (ps := p300) rfl FW
  rw [tabS] at q
  exact q
end K01
section
open PySem PySem.W PySem.Calls PyProof.Rows
theorem K01.fin (plain : ∀ ns : List Int, ns.length ≤ 63 → ∃ sto, K01.cal 40 300 [.scr (ns.map .int)] [] = .ok (.val (.bl true)) sto) : PySem.Challenge.rw_duedeeds_k01_errors_made.Holds := by
  w_on; o_law
  refine HandSHeadRun.head_any (r := OpenLaw.row PySem.Challenge.rw_duedeeds_k01_errors_made) (q := view (OpenLaw.row PySem.Challenge.rw_duedeeds_k01_errors_made).prog [26]) (H := K01.hk) (ob := K01.ob) (M := 40000) (loose := K01.loose) (d := HandSHeadRun.topDef (OpenLaw.row PySem.Challenge.rw_duedeeds_k01_errors_made).prog 26) (kwd := []) K01.ob_eq
    (by kernel_rfl) (fun s => by kernel_rfl) K01.run (by kernel_rfl) (by kernel_rfl) (by kernel_rfl) (by rfl) (by first | assumption | decide +kernel) (by decide +kernel) ⟨rfl, rfl, rfl, rfl, rfl, by decide +kernel⟩ ?hw ?hc
  case hw => w_witness2
  case hc =>
    refine En.walkG (l := PySem.Challenge.rw_duedeeds_k01_errors_made) (n := 63) (k := 40) (x := "_law_script") rfl (by decide) (by kernel_rfl) ⟨rfl, by decide, by decide⟩ ?F
    intro w mg fa h Y G hmg0
    obtain ⟨K, KX, c⟩ := Y
    have hmg : mg ("law" : PySem.Str) = some (.ref fa) := by
      have e : (HandSHeadRun.topDef (OpenLaw.row PySem.Challenge.rw_duedeeds_k01_errors_made).prog 26).name = ("law" : PySem.Str) := by kernel_rfl
      rw [← e]
      exact hmg0
    obtain ⟨fd, hb, hF⟩ := K01.facts (P := (PySem.Challenge.rw_duedeeds_k01_errors_made).prog) (w := w) KX G hmg c
    exact ⟨K, fd, _, KX, hb, fun H a ns hl only sq => En.law_sp (W := K01.S.wd K) only sq (plain ns hl), fun base _ _ => hF base⟩
end
set_option maxHeartbeats 4000000
/-! RpS: how long the repr of data is at most. -/
namespace En
open PySem PySem.Spec PyProof.Rows L2
def ShD (d : Dat) (n m : Nat) : Prop := ∃ p, pdD d = some p ∧ p.showable = true ∧ p.depth ≤ m ∧ p.shown.length ≤ n
def ShL (xs : List Dat) (n m : Nat) : Prop := ∃ ps, pdL xs = some ps ∧ PyData.showableAll ps = true ∧ PyData.depthAll ps ≤ m ∧ ((PyData.shownAll ps).map (·.length)).sum ≤ n ∧ (PyData.shownAll ps).length = xs.length
theorem shl_nil {m : Nat} : ShL [] 0 m := ⟨[], rfl, rfl, Nat.zero_le _, Nat.le_refl _, rfl⟩
theorem shl_cons {x : Dat} {xs : List Dat} {n n' m : Nat} (h : ShD x n m) (h' : ShL xs n' m) : ShL (x :: xs) (n + n') m := by
  obtain ⟨p, e1, e2, e3, e4⟩ := h
  obtain ⟨ps, f1, f2, f3, f4, f5⟩ := h'
  refine ⟨p :: ps, ?_, ?_, ?_, ?_, ?_⟩
  · unfold pdL
    rw [e1, f1]
  · unfold PyData.showableAll
    rw [e2, f2]
    rfl
  · show max p.depth (PyData.depthAll ps) ≤ m
    omega
  · show p.shown.length + ((PyData.shownAll ps).map (·.length)).sum ≤ n + n'
    omega
  · show (PyData.shownAll ps).length + 1 = xs.length + 1
    rw [f5]
theorem shd_tup {xs : List Dat} {n m : Nat} (h : ShL xs n m) : ShD (.tup xs) (n + 2 * xs.length + 3) (m + 1) := by
  obtain ⟨ps, f1, f2, f3, f4, f5⟩ := h
  refine ⟨.tuple ps, by unfold pdD; rw [f1]; rfl, f2, Nat.succ_le_succ f3, ?_⟩
  have := tupleText_len_le (PyData.shownAll ps)
  show (tupleText (PyData.shownAll ps)).length ≤ _
  omega
theorem shd_lst {xs : List Dat} {n m : Nat} (h : ShL xs n m) : ShD (.lst xs) (n + 2 * xs.length + 3) (m + 1) := by
  obtain ⟨ps, f1, f2, f3, f4, f5⟩ := h
  refine ⟨.list ps, by unfold pdD; rw [f1]; rfl, f2, Nat.succ_le_succ f3, ?_⟩
  have := listText_len_le (PyData.shownAll ps)
  show (listText (PyData.shownAll ps)).length ≤ _
  omega
theorem ShD.mono {d : Dat} {n n' m m' : Nat} (h : ShD d n m) (hn : n ≤ n') (hm : m ≤ m') : ShD d n' m' := by
  obtain ⟨p, e1, e2, e3, e4⟩ := h
  exact ⟨p, e1, e2, by omega, by omega⟩
theorem ShL.mono {d : List Dat} {n n' m m' : Nat} (h : ShL d n m) (hn : n ≤ n') (hm : m ≤ m') : ShL d n' m' := by
  obtain ⟨p, e1, e2, e3, e4, e5⟩ := h
  exact ⟨p, e1, e2, by omega, by omega, e5⟩
theorem shd_non {m : Nat} : ShD .non 4 m := ⟨.none, rfl, rfl, Nat.zero_le _, by
  rw [PyData.shown_none]
  decide +kernel⟩
theorem shd_bl {b : Bool} {m : Nat} : ShD (.bl b) 5 m := ⟨.bool b, rfl, rfl, Nat.zero_le _, by
  rw [PyData.shown_bool]
  cases b <;> decide +kernel⟩
theorem shd_int {i : Int} {n m : Nat} (h1 : i.natAbs.log2 < 1920) (h2 : ((toString i : String) : Str).length ≤ n) : ShD (.int i) n m := ⟨.int i, rfl, decide_eq_true h1, Nat.zero_le _, by
  rw [PyData.shown_int]
  exact h2⟩
theorem shd_str {x : Str} {m : Nat} (h : x.cps.toList.all fun c => decide (c < 200)) : ShD (.str x) (10 * x.length + 2) m := ⟨.str x, rfl, rfl, Nat.zero_le _, by
  rw [PyData.shown_str]
  refine StrLaws.reprText_len x fun c hc => ?_
  have h1 := of_decide_eq_true (List.all_eq_true.mp h c hc)
  have : (200 : Nat) ≤ 16 ^ 8 := by decide
  omega⟩
theorem shd_dct0 : ShD (.dct []) 3 1 := ⟨.dict [], rfl, rfl, Nat.le_refl _, by
  have := dictText_len_le []
  show (dictText (PyData.shownKv [])).length ≤ 3
  rw [PyData.shownKv_nil]
  simpa using this⟩
theorem shd_dct1 {x : Str} {d : Dat} {n : Nat} (hx : x.cps.toList.all fun c => decide (c < 200)) (h : ShD d n 0) : ShD (.dct [(.inr x, d)]) (10 * x.length + 2 + n + 10) 1 := by
  obtain ⟨p, e1, e2, e3, e4⟩ := h
  obtain ⟨q, f1, f2, f3, f4⟩ := shd_str (m := 0) hx
  cases f1
  refine ⟨.dict [(.str x, p)], by unfold pdD pdK; rw [e1]; rfl, ?_, ?_, ?_⟩
  · show ((PyData.str x).showable && p.showable && true) = true
    rw [f2, e2]
    rfl
  · show max (max (PyData.str x).depth p.depth) 0 + 1 ≤ 1
    omega
  · show (dictText (PyData.shownKv [(.str x, p)])).length ≤ _
    have h1 := dictText_len_le (PyData.shownKv [(.str x, p)])
    rw [PyData.shownKv_cons, PyData.shownKv_nil] at h1 ⊢
    have len2 : ∀ a b : Str, (a ++ b).length = a.length + b.length := fun a b => by
      show (a.cps ++ b.cps).size = _
      rw [Array.size_append]
      rfl
    simp only [List.map_cons, List.map_nil, List.sum_cons, List.sum_nil, List.length_cons, List.length_nil, len2] at h1
    have h2 : (": " : Str).length = 2 := by decide +kernel
    omega
theorem repr_of {d : Dat} {n : Nat} (h : ShD d n 60) (hn : n ≤ 16777216) : ∃ x, ((pdD d).bind reprOf) = some x := by
  obtain ⟨p, e1, e2, e3, e4⟩ := h
  refine ⟨p.shown, ?_⟩
  rw [e1]
  show reprOf p = _
  unfold reprOf
  rw [e2, decide_eq_true (show p.depth ≤ 64 by omega), decide_eq_true (show p.shown.length ≤ sizeLine by rw [sizeLine_eq]; omega)]
  rfl
end En
set_option maxHeartbeats 4000000
/-! P01: the plain law of k01. -/
namespace K01
open PySem PySem.Spec PyProof.Rows L2 En Sh
local macro_rules | `(tactic| wide_line with ⟨$xs,*⟩) => `(tactic| simp only [b_ok, b_exc, a_bind, a_ret, a_opt, a_nx, lk_bor, lkB_own, lkB_val, lk_own, lk_ref, lk_non, lk_bl, lk_int, lk_str, lk_tup, lk_lst, lk_dct, lk_obj, lk_err, lk_cls, lk_ty, lk_scr, tv_val, tv_own, tv_bor, tvB_own, tvB_val, md_lst, md_dct, md_ins, kSq2_e, sq_nil, sq_cons, kSq1_e, slO_val, slO_own, e_con, e_slot, kTup_e, kLst_e, e_tup, e_lst, e_bin, kBin1_e, binK_e, biO_e, e_neg, kNeg_e, ngO_e, e_cmp, kCmp1_e, cmpK_e, cmO_e, cmR_e, e_chn, kChn1_e, kChn2_e, kChn3_t, kChn3_f, truA_e, trO_e, kNot_e, kNotV_e, e_nt, kAnd1_e, kOr1_e, kAnd_t, kAnd_f, kOr_t, kOr_f, e_and, e_or, kIte_t, kIte_f, e_ite, kTAnd_t, kTAnd_f, kTOr_t, kTOr_f, kTIte_t, kTIte_f, t_nt, t_and, t_or, t_ite, t_con, t_slot, t_cmp, t_chn, t_bin, t_bi, t_call, t_att, t_prp, t_sub, t_mth, t_mtd, t_lc, kAtt_e, atO_e, e_att, e_sub, kSub1_e, subK_e, sbO_e, sbR_e, intA_e, inO_e, kSome_e, opI_n, opI_s, e_slc, kSlc1_e, kSlc2_e, slcK_e, scO_e, e_rev, kRev_e, rvP_e, rvO_e, couO_ok, couO_exc, couA_e, caO_e, e_call, kCal1_e, kCal2_e, pm_nil, pm_pos, pm_kw, pm_dft, pmC_e, e_bi, kBi1_e, biK_e, bcO_e, sm_bor, smV_own, sm_ref, kUnit_e, mtR_n, mtR_s, mtO_e, mthK_e, e_mth, kMth1_e, kd_l, kd_d, kd_dd, kd_s, kn_l, kn_d, kn_dd, kn_s, ty_app, ty_pop, ty_ext, ty_upp, ty_spl, ty_joi, ty_rpl, ty_get, e_sto, stoA_e, dc_nil, dc_cons, kDc1_e, kDc2_e, kDc3_e, kDic_e, dcR_e, e_dic0, e_dic, ky_nil, ky_cons, kyC_e, ky_int, ky_str, e_lc, kLc_e, kLc2_e, s_ex, walkA_e, kWlk_e, kWlk2_e, wd_lst, wd_tup, wd_str, s_rng1, kRg1_e, s_rng2, kRg2_e, kRg3_e, s_enm, kEnm_e, s_zip, kZip_e, kZip2_e, g_slot, setA_val, setA_own, setA_bor, kSet_e, tgs_nil, tgs_cons, kTgs_e, g_tup, upO_e, upR_e, g_sub, kStp0_e, kStp1_e, stpK_e, spO_e, spR_e, q_nil, q_cons, kSts_nx, kSts_rt, kSts_bk, kSts_ct, kNx_e, x_asg, kAsg_e, kExp_e, x_exp, x_ret0, x_ret, retA_val, retA_own, retA_bor, rtB_own, kIf_t, kIf_f, x_ife, x_pas, x_brk, x_cnt, x_whl, kFor_e, x_for, x_par2, kPar2_e, x_par3, kPar3_e, f_nil, kFor1_e, kFor2_nx, kFor2_ct, kFor2_bk, kFor2_rt, szl, str_inj, tr_non, tr_bl, tr_int, tr_tup, tr_lst, tr_mls, cm_eq, cm_ne, cm_lt, cm_le, cm_gt, cm_ge, cm_ltS, cm_leS, cm_in, cm_nin, cm_isb, cm_isn, cm_isnn, nn_non, nn_bl, nn_int, nn_str, nn_tup, nn_lst, nn_obj, nn_err, nn_mb, eq_dd, eq_ml, eq_lm, eq_mm, dp_non, dp_bl, dp_int, dp_str, dp_tup, dp_lst, dl_nil, dl_cons, q_nn, q_bb, q_ii, q_ss, q_tt, q_ll, q_sn, q_ns, q_is, q_si, q_st, q_ts, q_nt, q_tn, q_in, q_ni, andO_e, orO_e, ql_nil, ql_nc, ql_cn, ql_cc, in_nil, in_tup, in_lst, in_mls, in_sgn, in_mdS, in_dS, mpI_e, ib_add, ib_sub, pw18, pw30, pw40, bn_ss, bn_tt, bn_sm, bn_ll, bn_lm, bn_ml, bn_mm, bn_xl, bn_xm, ln_str, ln_tup, ln_lst, ln_mls, ln_mdc, sb_str, sb_tup, sb_lst, sb_mls, sb_dcS, sb_mdS, at_0, at_1, at_2, at_3, at_4, at_5, gk_nil, gk_cons, pd_nil, pd_cons, so_lst, so_dcS, mg_nil, mg_cons, lnR_e, f_len, f_tupM, f_tupL, f_tupT, f_lsM, f_lsL, f_lsT, f_strS, f_allM, f_anyM, iw_mb, iw_non, iw_bl, iw_int, iw_str, iw_tup, iw_lst, iw_dct, iw_obj, iw_errC, iw_errT, m_app, m_pop, m_ext, m_upp, m_spl, m_joi, mjO_e, sq_lst, sq_tup, vt_tup, vu_tup, vu_tpl, vl_lst, vl_mls, noO_e, stpA_e, kStA_e, kStB_t, kStB_f, kStC_e, cnd_n, cnd_s, wip_e, wp_nil, wp_cons, bkO_v, bkO_n, bak_e, bk_nil, bk_cons, trn_nil, kTr_n, kTr_s, oc_rv, oc_ro, oc_nx, oc_x, nxO_ok, vi_mb, vi_dt, mkR_ok, mkK_e, mkO_e, e_mk, kMk1_e, kMk2_e, e_cmt, kCm2_e, e_kget, kKg_e, kgO_e, e_kin, t_kin, t_oeq, kKi_e, kiO_e, bne_e, e_oeq, kOe1_e, kOe2_e, oeO_e, oeP_e, oeQ_e, dE_e, dP_e, e_prp, kPr_e, prO_e, prP_e, prQ_e, e_mtd, kMd_e, mdO_e, mdQ_e, mdR_e, kMd1_e, kMd2_e, dM_e, dspO_e, dspR_e, x_att, kAs1_e, kAs2_e, asR_e, pf_nil, pf_cons, x_aug, agS_e, kAg_e, agO_e, agR_e, agK_a, agK_s, x_mat, kMat_e, mtP_e, pkm_nil, pkm_cons, x_stk, e_lc2, kL2_e, ty_upd, m_upd, erO_e, kErr_e, exO_e, kVal_e, e_xmk, pcO_e, kPck_e, e_xmq, pkk_nil, pkO_e, pkk_cons, xf_nil, xfO_e, xf_cons, xaR_e, xaO_e, kXat_e, e_xat, kRse_e, x_rse, x_try, cau_ok, cau_exc, fmO_s, fmO_i, kFmt_e, e_fmt, e_jn, jn_nil, jn_cons, kJn_e, ssO_e, ssP_e, kSs_e, e_ss, List.getElem?_cons_zero, List.getElem?_cons_succ, List.getElem?_nil, List.set_cons_zero, List.set_cons_succ, List.length_cons, List.length_nil, Option.map_some, Option.map_none, Option.bind_some, Option.isSome_some, Option.isSome_none, decide_true, decide_false, Bool.not_true, Bool.not_false, Bool.true_and, Bool.false_and, Bool.and_true, Bool.and_false, Bool.true_or, Bool.false_or, Bool.or_true, Bool.or_false, ite_true, ite_false, if_true, if_false, and_self, and_true, true_and, and_false, false_and, Nat.reduceAdd, Nat.reduceLeDiff, Nat.reduceLT, Nat.zero_lt_succ, Nat.reduceSub, Nat.reduceMul, Nat.zero_add, Nat.add_zero, Nat.reduceEqDiff, Nat.max_self, Nat.zero_max, Nat.max_zero, reduceIte, Sum.inr.injEq, Sum.inl.injEq, reduceCtorEq, String.reduceEq, List.isEmpty_cons, List.isEmpty_nil, String.reduceBEq, decide_eq_true_eq, Bool.decide_eq_true, Int.reduceLT, Int.reduceLE, Int.reduceAdd, Int.reduceSub, Int.reduceNeg, Int.reduceEq, Bool.false_eq_true, List.mem_cons, List.not_mem_nil, or_false, false_or, or_true, true_or, Nat.succ_ne_zero, bn_ii, ib_mod, ib_fdiv, ib_mul, not_true_eq_false, not_false_eq_true, List.map_cons, List.map_nil, depL_strs, inL_strs, kRun_e, Option.isNone_none, Option.isNone_some, List.lookup_nil, List.contains_cons, List.contains_nil, $[$xs:term],*])
/-- what is drawn from -/
def some15 : List Dat := [.non, .int 0, .int 5, .bl true, .str "", .str "ann", .tup [], .tup [.int 0, .int 1], .lst [], .lst [.str "a"], .dct [], .dct [(.inr "a", .int 1)], .int (-1), .int 10000000000000000000000000000000000000000, .str "ann must pay within 2"]
def rep13 (a b : Dat) : List Dat := [a, b, a, a, a, a, a, a, a, a, a, a, a, a, a]
theorem sh15 : ∀ a ∈ some15, ShD a 300 59 := by
  intro a h
  have i0 : ShD (.int 0) 10 0 := shd_int (by decide +kernel) (by decide +kernel)
  have i1 : ShD (.int 1) 10 0 := shd_int (by decide +kernel) (by decide +kernel)
  have sa : ShD (.str "a") 12 0 := (shd_str (by decide +kernel)).mono (by decide +kernel) (Nat.le_refl _)
  simp only [some15, List.mem_cons, List.not_mem_nil, or_false] at h
  rcases h with rfl | rfl | rfl | rfl | rfl | rfl | rfl | rfl | rfl | rfl | rfl | rfl | rfl | rfl | rfl
  · exact shd_non.mono (by decide) (Nat.le_refl _)
  · exact i0.mono (by decide) (by decide)
  · exact shd_int (by decide +kernel) (by decide +kernel)
  · exact shd_bl.mono (by decide) (Nat.le_refl _)
  · exact (shd_str (by decide +kernel)).mono (by decide +kernel) (Nat.le_refl _)
  · exact (shd_str (by decide +kernel)).mono (by decide +kernel) (Nat.le_refl _)
  · exact (shd_tup (shl_nil (m := 0))).mono (by decide +kernel) (by decide)
  · exact (shd_tup (shl_cons i0 (shl_cons i1 shl_nil))).mono (by decide +kernel) (by decide)
  · exact (shd_lst (shl_nil (m := 0))).mono (by decide +kernel) (by decide)
  · exact (shd_lst (shl_cons sa shl_nil)).mono (by decide +kernel) (by decide)
  · exact shd_dct0.mono (by decide) (by decide)
  · exact (shd_dct1 (by decide +kernel) i1).mono (by decide +kernel) (by decide)
  · exact shd_int (by decide +kernel) (by decide +kernel)
  · exact shd_int (by decide +kernel) (by decide +kernel)
  · exact (shd_str (by decide +kernel)).mono (by decide +kernel) (Nat.le_refl _)
theorem rp13 {a b : Dat} (ha : a ∈ some15) (hb : b ∈ some15) : ∃ x, (pdD (.lst (rep13 a b))).bind reprOf = some x := by
  have h1 := sh15 a ha
  have h2 := sh15 b hb
  exact repr_of (shd_lst (shl_cons h1 (shl_cons h2 (shl_cons h1 (shl_cons h1 (shl_cons h1 (shl_cons h1 (shl_cons h1 (shl_cons h1 (shl_cons h1 (shl_cons h1 (shl_cons h1 (shl_cons h1 (shl_cons h1 (shl_cons h1 (shl_cons h1 shl_nil)))))))))))))))) (by simp only [rep13, List.length_cons, List.length_nil]; decide)
theorem rp4 {a b : Dat} (ha : a ∈ some15) (hb : b ∈ some15) : ∃ x, (pdD (.lst [a, b, a, a])).bind reprOf = some x := by
  have h1 := sh15 a ha
  have h2 := sh15 b hb
  exact repr_of (shd_lst (shl_cons h1 (shl_cons h2 (shl_cons h1 (shl_cons h1 shl_nil))))) (by simp only [List.length_cons, List.length_nil]; decide)
def bodyS : List Sm := match ir300.getD 2 .stk with
  | .for _ _ b _ => b
  | _ => []
def made (a b : Dat) : List Dat := [.err 4 [("word", b), ("line", a)], .err 5 [("place", a)], .err 6 [("place", a)], .err 7 [("given", a)], .err 8 [("given", a)], .err 9 [("given", a)], .err 10 [("given", a)], .err 11 [("given", a)], .err 12 [("name", a)], .err 13 [("most", a)], .err 14 [("count", a)], .err 15 [("other", a)], .err 16 [("name", a)], .err 17 [("given", a)]]
theorem told (a b : Dat) (sto : List Mob) : cal 39 301 [a, b] sto = .ok (.own (.lst (rep13 a b))) sto := by kernel_rfl
theorem mades (a b : Dat) (sto : List Mob) : cal 39 302 [a, b] sto = .ok (.own (.lst (made a b))) sto := by kernel_rfl
def forS : Sm := bodyS.getD 4 .stk
theorem bodyE : bodyS = [(.par2 4 5 [(.call 127 [(.slot 1), (.slot 2)] [] [.pos 0, .pos 1]), (.call 127 [(.slot 1), (.slot 2)] [] [.pos 0, .pos 1])]), (.ife (.cmp .ne (.bi .repr (.call 301 [(.slot 4), (.slot 5)] [] [.pos 0, .pos 1]) []) (.bi .repr (.bin .add (.lst [(.slot 4), (.slot 5)]) (.bin .mul (.lst [(.slot 4)]) (.con (.int 13)))) [])) [(.ret (some (.con (.bl false))))] []), (.asg (.slot 6) (.call 302 [(.slot 4), (.slot 5)] [] [.pos 0, .pos 1])), (.ife (.cmp .ne (.bi .repr (.lst [(.xat (.sub (.slot 6) (.con (.int 0))) "line"), (.xat (.sub (.slot 6) (.con (.int 0))) "word"), (.xat (.sub (.slot 6) (.con (.int 1))) "place"), (.xat (.sub (.slot 6) (.con (.int 13))) "given")]) []) (.bi .repr (.lst [(.slot 4), (.slot 5), (.slot 4), (.slot 4)]) [])) [(.ret (some (.con (.bl false))))] []), forS] := rfl
theorem irE : ir300 = [ir300.getD 0 .stk, ir300.getD 1 .stk, .for (.slot 3) (.rng1 (.con (.int 4))) bodyS [], .ret (some (.con (.bl true)))] := rfl
theorem loop (a b : Dat) (x0 x1 x2 x3 x4 x5 x7 x8 : Slt) (sto : List Mob) : ex (CC 38) 99 forS ⟨[x0, x1, x2, x3, x4, x5, .own (.lst (made a b)), x7, x8, .no], sto⟩ = .ok .nx ⟨[x0, x1, x2, x3, x4, x5, .own (.lst (made a b)), .val (.int 13), .val (.int 2), .no], sto⟩ := by kernel_rfl
end K01
set_option maxHeartbeats 4000000
/-! P01b: a turn, the whole. -/
namespace K01
open PySem PySem.Spec PyProof.Rows L2 En Sh
local macro_rules | `(tactic| wide_line with ⟨$xs,*⟩) => `(tactic| simp only [b_ok, b_exc, a_bind, a_ret, a_opt, a_nx, lk_bor, lkB_own, lkB_val, lk_own, lk_ref, lk_non, lk_bl, lk_int, lk_str, lk_tup, lk_lst, lk_dct, lk_obj, lk_err, lk_cls, lk_ty, lk_scr, tv_val, tv_own, tv_bor, tvB_own, tvB_val, md_lst, md_dct, md_ins, kSq2_e, sq_nil, sq_cons, kSq1_e, slO_val, slO_own, e_con, e_slot, kTup_e, kLst_e, e_tup, e_lst, e_bin, kBin1_e, binK_e, biO_e, e_neg, kNeg_e, ngO_e, e_cmp, kCmp1_e, cmpK_e, cmO_e, cmR_e, e_chn, kChn1_e, kChn2_e, kChn3_t, kChn3_f, truA_e, trO_e, kNot_e, kNotV_e, e_nt, kAnd1_e, kOr1_e, kAnd_t, kAnd_f, kOr_t, kOr_f, e_and, e_or, kIte_t, kIte_f, e_ite, kTAnd_t, kTAnd_f, kTOr_t, kTOr_f, kTIte_t, kTIte_f, t_nt, t_and, t_or, t_ite, t_con, t_slot, t_cmp, t_chn, t_bin, t_bi, t_call, t_att, t_prp, t_sub, t_mth, t_mtd, t_lc, kAtt_e, atO_e, e_att, e_sub, kSub1_e, subK_e, sbO_e, sbR_e, intA_e, inO_e, kSome_e, opI_n, opI_s, e_slc, kSlc1_e, kSlc2_e, slcK_e, scO_e, e_rev, kRev_e, rvP_e, rvO_e, couO_ok, couO_exc, couA_e, caO_e, e_call, kCal1_e, kCal2_e, pm_nil, pm_pos, pm_kw, pm_dft, pmC_e, e_bi, kBi1_e, biK_e, bcO_e, sm_bor, smV_own, sm_ref, kUnit_e, mtR_n, mtR_s, mtO_e, mthK_e, e_mth, kMth1_e, kd_l, kd_d, kd_dd, kd_s, kn_l, kn_d, kn_dd, kn_s, ty_app, ty_pop, ty_ext, ty_upp, ty_spl, ty_joi, ty_rpl, ty_get, e_sto, stoA_e, dc_nil, dc_cons, kDc1_e, kDc2_e, kDc3_e, kDic_e, dcR_e, e_dic0, e_dic, ky_nil, ky_cons, kyC_e, ky_int, ky_str, e_lc, kLc_e, kLc2_e, s_ex, walkA_e, kWlk_e, kWlk2_e, wd_lst, wd_tup, wd_str, s_rng1, kRg1_e, s_rng2, kRg2_e, kRg3_e, s_enm, kEnm_e, s_zip, kZip_e, kZip2_e, g_slot, setA_val, setA_own, setA_bor, kSet_e, tgs_nil, tgs_cons, kTgs_e, g_tup, upO_e, upR_e, g_sub, kStp0_e, kStp1_e, stpK_e, spO_e, spR_e, q_nil, q_cons, kSts_nx, kSts_rt, kSts_bk, kSts_ct, kNx_e, x_asg, kAsg_e, kExp_e, x_exp, x_ret0, x_ret, retA_val, retA_own, retA_bor, rtB_own, kIf_t, kIf_f, x_ife, x_pas, x_brk, x_cnt, x_whl, kFor_e, x_for, x_par2, kPar2_e, x_par3, kPar3_e, f_nil, kFor1_e, kFor2_nx, kFor2_ct, kFor2_bk, kFor2_rt, szl, str_inj, tr_non, tr_bl, tr_int, tr_tup, tr_lst, tr_mls, cm_eq, cm_ne, cm_lt, cm_le, cm_gt, cm_ge, cm_ltS, cm_leS, cm_in, cm_nin, cm_isb, cm_isn, cm_isnn, nn_non, nn_bl, nn_int, nn_str, nn_tup, nn_lst, nn_obj, nn_err, nn_mb, eq_dd, eq_ml, eq_lm, eq_mm, dp_non, dp_bl, dp_int, dp_str, dp_tup, dp_lst, dl_nil, dl_cons, q_nn, q_bb, q_ii, q_ss, q_tt, q_ll, q_sn, q_ns, q_is, q_si, q_st, q_ts, q_nt, q_tn, q_in, q_ni, andO_e, orO_e, ql_nil, ql_nc, ql_cn, ql_cc, in_nil, in_tup, in_lst, in_mls, in_sgn, in_mdS, in_dS, mpI_e, ib_add, ib_sub, pw18, pw30, pw40, bn_ss, bn_tt, bn_sm, bn_ll, bn_lm, bn_ml, bn_mm, bn_xl, bn_xm, ln_str, ln_tup, ln_lst, ln_mls, ln_mdc, sb_str, sb_tup, sb_lst, sb_mls, sb_dcS, sb_mdS, at_0, at_1, at_2, at_3, at_4, at_5, gk_nil, gk_cons, pd_nil, pd_cons, so_lst, so_dcS, mg_nil, mg_cons, lnR_e, f_len, f_tupM, f_tupL, f_tupT, f_lsM, f_lsL, f_lsT, f_strS, f_allM, f_anyM, iw_mb, iw_non, iw_bl, iw_int, iw_str, iw_tup, iw_lst, iw_dct, iw_obj, iw_errC, iw_errT, m_app, m_pop, m_ext, m_upp, m_spl, m_joi, mjO_e, sq_lst, sq_tup, vt_tup, vu_tup, vu_tpl, vl_lst, vl_mls, noO_e, stpA_e, kStA_e, kStB_t, kStB_f, kStC_e, cnd_n, cnd_s, wip_e, wp_nil, wp_cons, bkO_v, bkO_n, bak_e, bk_nil, bk_cons, trn_nil, kTr_n, kTr_s, oc_rv, oc_ro, oc_nx, oc_x, nxO_ok, vi_mb, vi_dt, mkR_ok, mkK_e, mkO_e, e_mk, kMk1_e, kMk2_e, e_cmt, kCm2_e, e_kget, kKg_e, kgO_e, e_kin, t_kin, t_oeq, kKi_e, kiO_e, bne_e, e_oeq, kOe1_e, kOe2_e, oeO_e, oeP_e, oeQ_e, dE_e, dP_e, e_prp, kPr_e, prO_e, prP_e, prQ_e, e_mtd, kMd_e, mdO_e, mdQ_e, mdR_e, kMd1_e, kMd2_e, dM_e, dspO_e, dspR_e, x_att, kAs1_e, kAs2_e, asR_e, pf_nil, pf_cons, x_aug, agS_e, kAg_e, agO_e, agR_e, agK_a, agK_s, x_mat, kMat_e, mtP_e, pkm_nil, pkm_cons, x_stk, e_lc2, kL2_e, ty_upd, m_upd, erO_e, kErr_e, exO_e, kVal_e, e_xmk, pcO_e, kPck_e, e_xmq, pkk_nil, pkO_e, pkk_cons, xf_nil, xfO_e, xf_cons, xaR_e, xaO_e, kXat_e, e_xat, kRse_e, x_rse, x_try, cau_ok, cau_exc, fmO_s, fmO_i, kFmt_e, e_fmt, e_jn, jn_nil, jn_cons, kJn_e, ssO_e, ssP_e, kSs_e, e_ss, List.getElem?_cons_zero, List.getElem?_cons_succ, List.getElem?_nil, List.set_cons_zero, List.set_cons_succ, List.length_cons, List.length_nil, Option.map_some, Option.map_none, Option.bind_some, Option.isSome_some, Option.isSome_none, decide_true, decide_false, Bool.not_true, Bool.not_false, Bool.true_and, Bool.false_and, Bool.and_true, Bool.and_false, Bool.true_or, Bool.false_or, Bool.or_true, Bool.or_false, ite_true, ite_false, if_true, if_false, and_self, and_true, true_and, and_false, false_and, Nat.reduceAdd, Nat.reduceLeDiff, Nat.reduceLT, Nat.zero_lt_succ, Nat.reduceSub, Nat.reduceMul, Nat.zero_add, Nat.add_zero, Nat.reduceEqDiff, Nat.max_self, Nat.zero_max, Nat.max_zero, reduceIte, Sum.inr.injEq, Sum.inl.injEq, reduceCtorEq, String.reduceEq, List.isEmpty_cons, List.isEmpty_nil, String.reduceBEq, decide_eq_true_eq, Bool.decide_eq_true, Int.reduceLT, Int.reduceLE, Int.reduceAdd, Int.reduceSub, Int.reduceNeg, Int.reduceEq, Bool.false_eq_true, List.mem_cons, List.not_mem_nil, or_false, false_or, or_true, true_or, Nat.succ_ne_zero, bn_ii, ib_mod, ib_fdiv, ib_mul, not_true_eq_false, not_false_eq_true, List.map_cons, List.map_nil, depL_strs, inL_strs, kRun_e, Option.isNone_none, Option.isNone_some, List.lookup_nil, List.contains_cons, List.contains_nil, $[$xs:term],*])
theorem rpF {l : List Dat} {x : Str} (h : (pdD (.lst l)).bind reprOf = some x) : Vw.bi tb.T .repr (.mb (.lst l)) [] = some (.val (.str x)) := by
  rw [f_repr]
  show ((pdL l).map PyData.list |>.bind reprOf).map _ = _
  have e : (pdD (.lst l)) = (pdL l).map PyData.list := by
    rw [pdD]
  rw [e] at h
  rw [h]
  rfl
theorem hf (a : Dat) : (List.replicate (Int.toNat 13) [a]).flatten = [a, a, a, a, a, a, a, a, a, a, a, a, a] := rfl
theorem a0 (a b : Dat) : atI (made a b) 0 = some (.err 4 [("word", b), ("line", a)]) := rfl
theorem a1 (a b : Dat) : atI (made a b) 1 = some (.err 5 [("place", a)]) := rfl
theorem a13 (a b : Dat) : atI (made a b) 13 = some (.err 17 [("given", a)]) := rfl
theorem l1 (a b : Dat) : List.lookup ("line" : Str) [(("word" : Str), b), ("line", a)] = some a := by kernel_rfl
theorem l2 (a b : Dat) : List.lookup ("word" : Str) [(("word" : Str), b), ("line", a)] = some b := by kernel_rfl
theorem l3 (a : Dat) : List.lookup ("place" : Str) [(("place" : Str), a)] = some a := by kernel_rfl
theorem l4 (a : Dat) : List.lookup ("given" : Str) [(("given" : Str), a)] = some a := by kernel_rfl
theorem ok13 : repOk 1 13 = true := by decide +kernel
theorem ne_t (x : Str) : (Vw.dt (.str x)).cmp .ne (.dt (.str x)) = some false := by
  show (some (!decide (x = x)) : Option Bool) = some false
  simp
theorem turn {n : Nat} {D : Mob} (h : Drw n D) (hn : n < 1000) {s2 : Slt} (h2 : s2 = .own (.lst some15) ∨ s2 = .val (.lst some15)) (x0 x3 x4 x5 x6 x7 x8 : Slt) :
    ∃ D' y4 y5 y6 y7 y8, Drw (n + 2) D' ∧ sqS (CC 38) 99 bodyS ⟨[x0, .val (.ref 0), s2, x3, x4, x5, x6, x7, x8, .no], [D]⟩ = .ok .nx ⟨[x0, .val (.ref 0), .val (.lst some15), x3, y4, y5, y6, y7, y8, .no], [D']⟩ := by
  obtain ⟨a, D1, ha, h1, e1⟩ := spec127 pkDraw h (by omega) (xs := some15) (by decide) (by decide) 36 []
  obtain ⟨b, D2, hb, h2', e2⟩ := spec127 pkDraw h1 (by omega) (xs := some15) (by decide) (by decide) 36 []
  obtain ⟨t1, r1⟩ := rp13 ha hb
  obtain ⟨t2, r2⟩ := rp4 ha hb
  refine ⟨D2, .val a, .val b, .own (.lst (made a b)), .val (.int 13), .val (.int 2), h2', ?_⟩
  have e1' : cal 39 127 [.ref 0, .lst some15] [D] = .ok (.val a) [D1] := e1
  have e2' : cal 39 127 [.ref 0, .lst some15] [D1] = .ok (.val b) [D2] := e2
  have r1' := r1
  unfold rep13 at r1'
  rw [bodyE]
  rcases h2 with rfl | rfl
  · wide_line with ⟨cc_call, cc_T, e1', e2', told, mades, loop, rep13, rpF r1', rpF r2, beq_self_eq_true, hf, ok13, List.cons_append, List.nil_append, a0, a1, a13, l1, l2, l3, l4, tf_4_line, tf_4_word, tf_5_place, tf_17_given⟩
  · wide_line with ⟨cc_call, cc_T, e1', e2', told, mades, loop, rep13, rpF r1', rpF r2, beq_self_eq_true, hf, ok13, List.cons_append, List.nil_append, a0, a1, a13, l1, l2, l3, l4, tf_4_line, tf_4_word, tf_5_place, tf_17_given⟩
theorem sc15 (x0 x1 x3 x4 x5 x6 x7 x8 x9 : Slt) (x2 : Slt) (sto : List Mob) : ex (CC 38) 100 (ir300.getD 1 .stk) ⟨[x0, x1, x2, x3, x4, x5, x6, x7, x8, x9], sto⟩ = .ok .nx ⟨[x0, x1, .own (.lst some15), x3, x4, x5, x6, x7, x8, x9], sto⟩ := by kernel_rfl
theorem loop4 (x0 : Slt) {D0 : Mob} (h0 : Drw 0 D0) : ∃ D y2 y3 y4 y5 y6 y7 y8, forA (tgA (CC 38) 99 (.slot 3)) (sqS (CC 38) 99 bodyS) (sqS (CC 38) 99 []) (intsD 0 (Int.toNat 4)) ⟨[x0, .val (.ref 0), .own (.lst some15), .no, .no, .no, .no, .no, .no, .no], [D0]⟩ = .ok .nx ⟨[x0, .val (.ref 0), y2, y3, y4, y5, y6, y7, y8, .no], [D]⟩ := by
  generalize ht : forA _ _ _ _ _ = o
  obtain ⟨s', ⟨D', y2, y3, y4, y5, y6, y7, y8, hD', _, rfl⟩, rfl⟩ := for_inv_of ht (fun i s => ∃ (D : Mob) (y2 y3 y4 y5 y6 y7 y8 : Slt), Drw (2 * i) D ∧ (y2 = .own (.lst some15) ∨ y2 = .val (.lst some15)) ∧ s = ⟨[x0, .val (.ref 0), y2, y3, y4, y5, y6, y7, y8, .no], [D]⟩) ⟨_, _, _, _, _, _, _, _, h0, .inl rfl, rfl⟩ (by
      rintro i d s hd ⟨D, y2, y3, y4, y5, y6, y7, y8, hD, hy, rfl⟩
      obtain ⟨rfl, hi⟩ := ints_at hd
      have hi' : i < 4 := hi
      obtain ⟨D', z4, z5, z6, z7, z8, hD', e⟩ := turn hD (by omega) hy x0 (.val (.int (0 + (i : Int)))) y4 y5 y6 y7 y8
      have h1 : tgA (CC 38) 99 (.slot 3) (.val (.int (0 + (i : Int)))) ⟨[x0, .val (.ref 0), y2, y3, y4, y5, y6, y7, y8, .no], [D]⟩ = .ok () ⟨[x0, .val (.ref 0), y2, .val (.int (0 + (i : Int))), y4, y5, y6, y7, y8, .no], [D]⟩ := rfl
      refine ⟨.nx, _, (by rw [h1, b_ok, kRun_e, e]), .inl rfl, D', .val (.lst some15), .val (.int (0 + (i : Int))), z4, z5, z6, z7, z8, ?_, .inr rfl, rfl⟩
      rw [show 2 * (i + 1) = 2 * i + 2 by omega]
      exact hD')
  exact ⟨D', y2, y3, y4, y5, y6, y7, y8, rfl⟩
theorem plain (ns : List Int) (hl : ns.length ≤ 63) : ∃ sto, cal 40 300 [.scr (ns.map .int)] [] = .ok (.val (.bl true)) sto := by
  have e0 := spec125 pkDraw 37 ns hl
  have e0' : cal 39 125 [.scr (ns.map .int)] [] = .ok (.val (.ref 0)) [drM (ns ++ [0]) 0 0 0] := e0
  rw [show (40 : Nat) = 38 + 2 from rfl, cal300, irE]
  have s0 : ir300.getD 0 .stk = .asg (.slot 1) (.call 125 [.slot 0] [] [.pos 0]) := rfl
  rw [s0]
  generalize hb : bodyS = B
  generalize h1 : ir300.getD 1 .stk = S1
  have q1 := sc15
  rw [h1] at q1
  obtain ⟨D, y2, y3, y4, y5, y6, y7, y8, el⟩ := loop4 (.val (.scr (ns.map .int))) (drw0 ns)
  rw [hb] at el
  have r4 : rngOk 4 = true := rfl
  refine ⟨[D], ?_⟩
  wide_line with ⟨cc_call, cc_T, e0', q1, el, r4⟩
end K01
set_option maxHeartbeats 0
theorem PySem.Challenge.cw_duedeeds_k01_errors_made_holds : PySem.Challenge.rw_duedeeds_k01_errors_made.Holds := by
  exact K01.fin K01.plain
