import PyProof.Rows.All
import HandS.ForMost
import HandS.ForExc
import HandS.Lambda
import HandS.IsInst
import HandS.TryMany
import HandS.SortInts
import HandS.Defaults
import HandS.Wide
import HandS.Deep
import HandS.TupAny
import HandS.Zip
import HandS.ExcInit
import HandS.WordsExc
import HandS.ExcField
import KE.GoesMore
import KE.GoesEnum
import HandS.TryOnly
import HandS.DictComp
import HandS.Small
import HandS.Conv
import HandS.Style
import HandS.TupSets
import HandS.ListItems
import HandS.SetFor
import HandS.Strs
import HandS.RaiseMore
import PyProof.ReprRoads
import PyProof.ReprLen
import HandS.Gcd
import KE.SortData
import HandS.HeadHook4
import HandS.HeadWalk
import PySem.Challenge.RW_quickbythen_k02_whole_comers
import KE.KStateDown
import Lean
import HandS.Head0
import HandS.Head1
import HandS.Head2
import HandS.Head3
import HandS.HeadEnd
set_option Elab.async false
set_option linter.all false
set_option maxRecDepth 100000
set_option maxHeartbeats 0
/-! Q layer, part A: data D, how a value stands for a datum (At), steps. -/
namespace Q
open PySem PySem.Spec PyProof.Rows L2

/-- data -/
inductive D where
  | non | bl (b : Bool) | int (i : Int) | str (s : Str)
  | lst (n : Nat) (xs : List D) | tup (xs : List D)
  | dK (kvs : List (Key × D)) | dT (kvs : List (List Key × D))
  | obj (c : Nat) (fs : List D)
  | fn (g : Nat) | stm

/-- what stands fast: the written part, classes, their fields' names, defs, the stream's two lists, tables -/
structure Gb where
  K : PySem.W.Frag
  kap : Nat → Addr
  nm : Nat → List Str
  gam : Nat → Addr
  st : Addr
  inn : Addr
  T : List (Addr × Str)
  cl : List Nat
  cn : Nat → Str
  xc : List Nat
/-- named lists, heap -/
structure Wd where
  iot : List Addr
  H : Hp

/-- where a lambda stands, and what was ours when it was handed on -/
structure Key where
  a : Addr
  A : Addr → Prop
  W : Wd

mutual
inductive At (G : Gb) (A : Addr → Prop) (W : Wd) : V → D → Prop
  | non : At G A W .non .non
  | bl {b} : At G A W (.bl b) (.bl b)
  | int {i} : At G A W (.int i) (.int i)
  | str {s} : At G A W (.str s) (.str s)
  | lst {a vs xs} : W.H a = some (.lst vs) → ¬ A a → Ats G A W vs xs → At G A W (.ref a) (.lst 0 xs)
  | lsN {n : Nat} {a : Addr} {vs xs} : W.iot[n]? = some a → W.H a = some (.lst vs) → Ats G A W vs xs → At G A W (.ref a) (.lst (n + 1) xs)
  | tup {a vs xs} : W.H a = some (.tup vs) → ¬ A a → Ats G A W vs xs → At G A W (.ref a) (.tup xs)
  | dK {a kvs xs} : Rd W.H a (.dK kvs) → ¬ A a → kvs.map Prod.fst = xs.map Prod.fst → Ats G A W (kvs.map Prod.snd) (xs.map Prod.snd) → At G A W (.ref a) (.dK xs)
  | dT {a kvs xs} : Rd W.H a (.dT kvs) → ¬ A a → kvs.map Prod.fst = xs.map Prod.fst → Ats G A W (kvs.map Prod.snd) (xs.map Prod.snd) → At G A W (.ref a) (.dT xs)
  | obj {a dx fs c ds} : c ∈ G.cl → W.H a = some (.ins (G.kap c) dx fs) → ¬ A a → fs.map Prod.fst = G.nm c → Ats G A W (fs.map Prod.snd) ds → At G A W (.ref a) (.obj c ds)
  | fn {g} : PySem.W.typeIn G.K (.ref (G.gam g)) = some (.type "function") → At G A W (.ref (G.gam g)) (.fn g)
  | stm : At G A W (.ref G.st) .stm
inductive Ats (G : Gb) (A : Addr → Prop) (W : Wd) : List V → List D → Prop
  | nil : Ats G A W [] []
  | cons {v d vs ds} : At G A W v d → Ats G A W vs ds → Ats G A W (v :: vs) (d :: ds)
end

/-- a dict's contents -/
def DictO (u : HO) : Prop := (∃ kvs, u = .dK kvs) ∨ ∃ kvs, u = .dT kvs
def core : HO → HO
  | .frz _ u => u
  | o => o
/-- what an object that is not ours may become: itself; a dict may be locked and let free -/
def Kp (o : HO) (x : Option HO) : Prop := ∃ o', x = some o' ∧ (o' = o ∨ (DictO (core o) ∧ core o' = core o))
theorem Kp.refl (o : HO) : Kp o (some o) := ⟨o, rfl, .inl rfl⟩
theorem Kp.trans {o : HO} {H1 H2 : Hp} {a : Addr} (h1 : Kp o (H1 a)) (h2 : ∀ o', H1 a = some o' → Kp o' (H2 a)) : Kp o (H2 a) := by
  obtain ⟨o1, e1, c1⟩ := h1
  obtain ⟨o2, e2, c2⟩ := h2 o1 e1
  refine ⟨o2, e2, ?_⟩
  rcases c1 with rfl | ⟨d1, c1⟩
  · exact c2
  · rcases c2 with rfl | ⟨d2, c2⟩
    · exact .inr ⟨d1, c1⟩
    · exact .inr ⟨d1, c2.trans c1⟩
theorem Kp.exact {o : HO} {x : Option HO} (h : Kp o x) (n : ¬ DictO (core o)) : x = some o := by
  obtain ⟨o', e, c⟩ := h
  rcases c with rfl | ⟨d, _⟩
  · exact e
  · exact absurd d n
theorem core_dict {u : HO} (d : DictO u) : core u = u := by
  rcases d with ⟨_, rfl⟩ | ⟨_, rfl⟩ <;> rfl
theorem Rd.kp {H H' : Hp} {a : Addr} {u : HO} (d : DictO u) (r : Rd H a u) (k : ∀ o, H a = some o → Kp o (H' a)) : Rd H' a u := by
  have key : ∀ o, H a = some o → core o = u → Rd H' a u := fun o e ce => by
    obtain ⟨o', e', c⟩ := k o e
    have ce' : core o' = u := by
      rcases c with rfl | ⟨_, c⟩
      · exact ce
      · exact c.trans ce
    cases o' with
    | frz ob w =>
      have : w = u := ce'
      subst this
      exact .inr ⟨ob, e'⟩
    | _ =>
      refine .inl ?_
      rw [e', ← ce']
      rfl
  rcases r with e | ⟨ob, e⟩
  · exact key _ e (core_dict d)
  · exact key _ e rfl
theorem nd_lst {xs : List V} : ¬ DictO (core (.lst xs)) := fun h => by rcases h with ⟨_, h⟩ | ⟨_, h⟩ <;> cases h
theorem nd_tup {xs : List V} : ¬ DictO (core (.tup xs)) := fun h => by rcases h with ⟨_, h⟩ | ⟨_, h⟩ <;> cases h
theorem nd_ins {C dx : Addr} {fs : List (Str × V)} : ¬ DictO (core (.ins C dx fs)) := fun h => by rcases h with ⟨_, h⟩ | ⟨_, h⟩ <;> cases h

/-- a step: what is not ours stays, and does not become ours; named lists stay -/
structure Stp (A : Addr → Prop) (W : Wd) (A' : Addr → Prop) (W' : Wd) : Prop where
  keep : ∀ a o, W.H a = some o → ¬ A a → (∀ ps, o ≠ .tbl ps) → Kp o (W'.H a) ∧ ¬ A' a
  nam : ∀ (n : Nat) (a : Addr), W.iot[n]? = some a → W'.iot[n]? = some a ∧ ∀ vs, W.H a = some (.lst vs) → W'.H a = some (.lst vs)
theorem Stp.refl (A : Addr → Prop) (W : Wd) : Stp A W A W := ⟨fun a o e n _ => ⟨e ▸ Kp.refl o, n⟩, fun n a e => ⟨e, fun _ h => h⟩⟩
theorem core_tbl {o o' : HO} (h : o' = o ∨ (DictO (core o) ∧ core o' = core o)) (n : ∀ ps, o ≠ .tbl ps) : ∀ ps, o' ≠ .tbl ps := fun ps e => by
  rcases h with rfl | ⟨d, c⟩
  · exact n ps e
  · rw [e] at c
    rw [← c] at d
    rcases d with ⟨_, d⟩ | ⟨_, d⟩ <;> cases d
theorem Stp.trans {A A1 A2 : Addr → Prop} {W W1 W2 : Wd} (h1 : Stp A W A1 W1) (h2 : Stp A1 W1 A2 W2) : Stp A W A2 W2 where
  keep := fun a o e n t => by
    obtain ⟨k1, n1⟩ := h1.keep a o e n t
    obtain ⟨o1, e1, c1⟩ := k1
    obtain ⟨k2, n2⟩ := h2.keep a o1 e1 n1 (core_tbl c1 t)
    exact ⟨Kp.trans (H1 := W1.H) (H2 := W2.H) ⟨o1, e1, c1⟩ (fun o' e' => by rw [e1] at e'; cases e'; exact k2), n2⟩
  nam := fun n a e => ⟨(h2.nam n a (h1.nam n a e).1).1, fun vs h => (h2.nam n a (h1.nam n a e).1).2 vs ((h1.nam n a e).2 vs h)⟩
section
variable {G : Gb} {A A' : Addr → Prop} {W W' : Wd}
mutual
theorem At.stp {v : V} {d : D} (s : Stp A W A' W') : At G A W v d → At G A' W' v d
  | .non => .non
  | .bl => .bl
  | .int => .int
  | .str => .str
  | .lst e n h => .lst ((s.keep _ _ e n (fun _ z => nomatch z)).1.exact nd_lst) (s.keep _ _ e n (fun _ z => nomatch z)).2 (Ats.stp s h)
  | .lsN e1 e2 h => .lsN (s.nam _ _ e1).1 ((s.nam _ _ e1).2 _ e2) (Ats.stp s h)
  | .tup e n h => .tup ((s.keep _ _ e n (fun _ z => nomatch z)).1.exact nd_tup) (s.keep _ _ e n (fun _ z => nomatch z)).2 (Ats.stp s h)
  | .dK e n c h => .dK (Rd.kp (.inl ⟨_, rfl⟩) e fun o eo => (s.keep _ o eo n (by rcases e with e | ⟨ob, e⟩ <;> (rw [e] at eo; cases eo; intro _ z; cases z))).1)
      (by rcases e with e | ⟨ob, e⟩ <;> exact (s.keep _ _ e n (fun _ z => nomatch z)).2) c (Ats.stp s h)
  | .dT e n c h => .dT (Rd.kp (.inr ⟨_, rfl⟩) e fun o eo => (s.keep _ o eo n (by rcases e with e | ⟨ob, e⟩ <;> (rw [e] at eo; cases eo; intro _ z; cases z))).1)
      (by rcases e with e | ⟨ob, e⟩ <;> exact (s.keep _ _ e n (fun _ z => nomatch z)).2) c (Ats.stp s h)
  | .obj z e n c h => .obj z ((s.keep _ _ e n (fun _ z => nomatch z)).1.exact nd_ins) (s.keep _ _ e n (fun _ z => nomatch z)).2 c (Ats.stp s h)
  | .fn h => .fn h
  | .stm => .stm
theorem Ats.stp {vs : List V} {ds : List D} (s : Stp A W A' W') : Ats G A W vs ds → Ats G A' W' vs ds
  | .nil => .nil
  | .cons h t => .cons (At.stp s h) (Ats.stp s t)
end
/-- less is ours -/
theorem Stp.less (h : ∀ a, A' a → A a) : Stp A W A' W := ⟨fun a o e n _ => ⟨e ▸ Kp.refl o, fun z => n (h a z)⟩, fun n a e => ⟨e, fun _ h => h⟩⟩
/-- a new address becomes ours -/
theorem Stp.more {p : Addr} (n : W.H p = none) : Stp A W (fun a => A a ∨ a = p) W := ⟨fun a o e na _ => ⟨e ▸ Kp.refl o, fun z => by
  rcases z with z | z
  · exact na z
  · subst z; rw [n] at e; cases e⟩, fun n a e => ⟨e, fun _ h => h⟩⟩
/-- nothing stands there, but perhaps a table -/
def Non (H : Hp) (p : Addr) : Prop := ∀ o, H p = some o → ∃ ps, o = .tbl ps
theorem Non.of {H : Hp} {p : Addr} (n : H p = none) : Non H p := fun o e => by rw [n] at e; cases e
theorem Non.ne {H : Hp} {p x : Addr} {u : HO} (n : Non H p) (e : H x = some u) (t : ∀ ps, u ≠ .tbl ps) : x ≠ p := fun z => by
  subst z
  obtain ⟨ps, h⟩ := n u e
  exact t ps h
theorem Stp.moreN {p : Addr} (n : Non W.H p) : Stp A W (fun a => A a ∨ a = p) W := ⟨fun a o e na t => ⟨e ▸ Kp.refl o, fun z => by
  rcases z with z | z
  · exact na z
  · exact n.ne e t z⟩, fun n a e => ⟨e, fun _ h => h⟩⟩
/-- a new object is laid -/
theorem Stp.lay {p : Addr} {o : HO} (n : W.H p = none) : Stp A W A ⟨W.iot, upd W.H p o⟩ := ⟨fun a u e na _ => ⟨by
  show Kp u (upd W.H p o a)
  rw [upd_ne (ne_of_none e n), e]
  exact Kp.refl u, na⟩, fun n' a e => ⟨e, fun vs h => by
  show upd W.H p o a = _
  rw [upd_ne (ne_of_none h n)]
  exact h⟩⟩
theorem Ats.length {vs : List V} {ds : List D} : Ats G A W vs ds → vs.length = ds.length
  | .nil => rfl
  | .cons _ t => congrArg (· + 1) (Ats.length t)
theorem Ats.get {vs : List V} {ds : List D} : ∀ {i : Nat} {d : D}, Ats G A W vs ds → ds[i]? = some d → ∃ v, vs[i]? = some v ∧ At G A W v d
  | _, _, .nil, e => by simp at e
  | 0, _, .cons h _, e => by simp at e; subst e; exact ⟨_, rfl, h⟩
  | i + 1, d, .cons _ t, e => by
    obtain ⟨v, h1, h2⟩ := Ats.get (i := i) (d := d) t (by simpa using e)
    exact ⟨v, by simpa using h1, h2⟩
theorem Ats.getV {vs : List V} {ds : List D} : ∀ {i : Nat} {v : V}, Ats G A W vs ds → vs[i]? = some v → ∃ d, ds[i]? = some d ∧ At G A W v d
  | _, _, .nil, e => by simp at e
  | 0, _, .cons h _, e => by simp at e; subst e; exact ⟨_, rfl, h⟩
  | i + 1, d, .cons _ t, e => by
    obtain ⟨v, h1, h2⟩ := Ats.getV (i := i) (v := d) t (by simpa using e)
    exact ⟨v, by simpa using h1, h2⟩
theorem Ats.append {vs ws : List V} {ds es : List D} : Ats G A W vs ds → Ats G A W ws es → Ats G A W (vs ++ ws) (ds ++ es)
  | .nil, h => h
  | .cons h t, k => .cons h (Ats.append t k)
theorem Ats.take {vs : List V} {ds : List D} : ∀ (n : Nat), Ats G A W vs ds → Ats G A W (vs.take n) (ds.take n)
  | 0, _ => by simpa using .nil
  | _ + 1, .nil => .nil
  | n + 1, .cons h t => .cons h (Ats.take n t)
theorem Ats.drop {vs : List V} {ds : List D} : ∀ (n : Nat), Ats G A W vs ds → Ats G A W (vs.drop n) (ds.drop n)
  | 0, h => h
  | _ + 1, .nil => .nil
  | n + 1, .cons _ t => Ats.drop n t
theorem Ats.set {v : V} {d : D} (h : At G A W v d) {vs : List V} {ds : List D} : ∀ (i : Nat), Ats G A W vs ds → Ats G A W (vs.set i v) (ds.set i d)
  | _, .nil => .nil
  | 0, .cons _ t => .cons h t
  | i + 1, .cons q t => .cons q (Ats.set h i t)
theorem Ats.eraseIdx {vs : List V} {ds : List D} : ∀ (i : Nat), Ats G A W vs ds → Ats G A W (vs.eraseIdx i) (ds.eraseIdx i)
  | _, .nil => .nil
  | 0, .cons _ t => t
  | i + 1, .cons q t => .cons q (Ats.eraseIdx i t)
theorem Ats.dropLast {vs : List V} {ds : List D} (h : Ats G A W vs ds) : Ats G A W vs.dropLast ds.dropLast := by
  rw [List.dropLast_eq_take, List.dropLast_eq_take, h.length]
  exact h.take _
theorem Ats.reverse {vs : List V} {ds : List D} : Ats G A W vs ds → Ats G A W vs.reverse ds.reverse
  | .nil => .nil
  | .cons h t => by
    rw [List.reverse_cons, List.reverse_cons]
    exact (Ats.reverse t).append (.cons h .nil)
end
end Q
/-! Q layer, part B: the small language and what it means over data. -/
namespace Q
open PySem L2

inductive Op2 where | add | sub | mul | mod | fdiv | pow
  deriving DecidableEq
inductive Cm where | lt | le | gt | ge | eq | ne | is_ | isnot | in_ | notin
  deriving DecidableEq
inductive Ty where | int | bool | str | list | tuple | dict | cls (c : Nat)
  deriving DecidableEq
inductive Bi where | len | all | any | sum | list | tuple | abs | int | min | max | min2 | max2 | bool
  deriving DecidableEq
/-- targets -/
inductive Tg where
  | nm (i : Nat) | tp (ts : Tg) | nil | cons (t ts : Tg)
  deriving DecidableEq
/-- expressions, their lists (nil, cons), what is walked (it..) -/
inductive X where
  | var (i : Nat) | bor (i : Nat) | int (n : Int) | str (s : Str) | bl (b : Bool) | non | glo (g : Nat)
  | neg (a : X) | bin (o : Op2) (a b : X) | cmp (o : Cm) (a b : X) | cmp2 (o p : Cm) (a b c : X)
  | boo (con : Bool) (xs : X) | not_ (a : X) | ite (c a b : X)
  | idx (a b : X) | slc (a lo hi : X)
  | lst (xs : X) | tup (xs : X)
  | call (g : Nat) (xs : X) | bi (b : Bi) (xs : X) | ist (a : X) (ts : List Ty) (one : Bool)
  | fld (c f : Nat) (a : X)
  | comp (t : Tg) (it cond elt : X)
  | nev | pri (p : Nat) (xs : X) | cal (i : Nat) (xs : X) | callL (g : Nat) (np : Nat) (l : X) | callM (g : Nat) (a : X) (np : Nat) (l : X) | mk (c g : Nat) (xs : X) | meth (c g : Nat) (a xs : X)
  | itl (a : X) | itr (a : X) | itr2 (a b : X) | itz (a b : X) | ite_ (a : X)
  | inO (neg : Bool) (a : X) (i : Nat)
  | calV (gs : List Nat) (i : Nat) (xs : X)
  | callF (g : Nat) (xs : X) | priF (p : Nat) (xs : X) | dcomp (t : Tg) (it cond k v : X)
  | dix (a b : X) | dge1 (a b : X) | dge2 (a b z : X) | din (neg : Bool) (a b : X)
  | nil | cons (a as : X)
/-- return (s, e.f), at an exception of the class c; f: none for None, no s: the field alone -/
structure Hd where
  c : Nat
  i : Option Nat
  tup : Bool
  s : Option Str
  f : Option Nat
/-- statements -/
inductive S where
  | nl | sq (s r : S)
  | asg (i : Nat) (x : X) | asgO (i : Nat) (x : X) | asgT (t : Tg) (x : X) | par (ts : List (Nat × Bool)) (xs : X)
  | app (i : Nat) (x : X) | ext (i : Nat) (x : X) | seti (i : Nat) (k x : X)
  | appP (i j : Nat) (k : X) | asgP (t : Tg) (j : Nat) | asgPA (t : Tg) (j : Nat) (k : X)
  | exp (x : X) | ret (x : X) | retN
  | iff (c : X) (a b : S) | for_ (t : Tg) (it : X) (body : S) | whl (c : X) (body : S) | brk | cnt
  | rai (c : Nat) (xs : X)
  | asgD (i : Nat) (t : Bool) | setD (i : Nat) (k x : X) | frzD (i : Nat)
  | hld (i k : Nat) (b : S) (x : X)
  | retO (i : Nat) | asgX (i : Nat) (x : X)
  | frz (i : Nat) | pas | nev | slf (c f : Nat) (x : X) | tri (b : S) (hs : List Hd)

/-- what a slot holds: nothing known, a datum, a list of our own -/
inductive Slot where
  | un | val (d : D) | own (xs : List D) | clo (g : Nat) (k : Key) | slf (c : Nat) (a : PySem.Addr) (ds : List D) | dic (a : PySem.Addr) (d : D)
/-- where what may change stands -/
def Slot.ad : Slot → Option PySem.Addr
  | .slf _ a _ => some a
  | .dic a _ => some a
  | _ => none
/-- slots; n: how often the stream has been asked, at most -/
structure Env where
  sl : List Slot
  n : Nat
structure Exc where
  c : Nat
  xs : List D

/-! ### data -/
mutual
def D.py : D → PyData
  | .non => .none
  | .bl b => .bool b
  | .int i => .int i
  | .str s => .str s
  | .lst _ xs => .list (D.pys xs)
  | .tup xs => .tuple (D.pys xs)
  | .dK _ => .dict []
  | .dT _ => .dict []
  | .obj _ _ => .dict []
  | .fn _ => .dict []
  | .stm => .dict []
def D.pys : List D → List PyData
  | [] => []
  | x :: xs => x.py :: D.pys xs
end
/-- plain data, nested n deep at most -/
def D.ok : Nat → D → Bool
  | _, .non => true
  | _, .bl _ => true
  | _, .int _ => true
  | _, .str s => PySem.PyData.strOk s
  | n + 1, .lst _ xs => xs.all (D.ok n)
  | n + 1, .tup xs => xs.all (D.ok n)
  | _, _ => false
def deq (x y : D) : Bool := PyData.eqv x.py y.py
def D.isT : Ty → D → Bool
  | .int, .int _ => true
  | .int, .bl _ => true
  | .bool, .bl _ => true
  | .str, .str _ => true
  | .list, .lst _ _ => true
  | .tuple, .tup _ => true
  | .dict, .dK _ => true
  | .dict, .dT _ => true
  | .cls c, .obj k _ => c == k
  | _, _ => false
def D.isD : D → Bool
  | .dK _ => true
  | .dT _ => true
  | _ => false
/-- a built-in type -/
def Ty.blt : Ty → Bool
  | .cls _ => false
  | _ => true
/-- isinstance; not of defs, the stream -/
def istW (d : D) (ts : List Ty) (Q : Bool → Prop) : Prop := match d with
  | .fn g => ts.all Ty.blt = true ∧ Q (ts.any fun t => D.isT t (.fn g))
  | .stm => False
  | .dT _ => False
  | d => Q (ts.any fun t => d.isT t)
def D.seq : D → Option (List D)
  | .lst _ xs => some xs
  | .tup xs => some xs
  | _ => none
def intsOf : List D → Option (List Int)
  | [] => some []
  | .int i :: r => (intsOf r).map (i :: ·)
  | _ => none
def blsOf : List D → Option (List Bool)
  | [] => some []
  | .bl i :: r => (blsOf r).map (i :: ·)
  | _ => none
def sizeMax : Nat := 1000000
/-- a's truth -/
def truW (d : D) (Q : Bool → Prop) : Prop := match d with
  | .non => Q false
  | .bl b => Q b
  | .int i => Q (i != 0)
  | .lst _ xs => Q (!xs.isEmpty)
  | .tup xs => Q (!xs.isEmpty)
  | _ => False
def mulOk (i j : Int) : Prop := CMul i j ∨ CMulW i j
def fdivOk (j : Int) : Prop := 0 < j ∧ (j < 1073741824 ∨ j.natAbs.log2 < 9000)
def binW (o : Op2) (x y : D) (Q : D → Prop) : Prop := match o, x, y with
  | .add, .int i, .int j => Q (.int (i + j))
  | .add, .lst _ xs, .lst _ ys => xs.length + ys.length ≤ sizeMax ∧ Q (.lst 0 (xs ++ ys))
  | .sub, .int i, .int j => Q (.int (i - j))
  | .mul, .int i, .int j => mulOk i j ∧ Q (.int (i * j))
  | .mul, .lst _ xs, .int j => ∃ m : Nat, j = m ∧ m < 2 ^ 62 ∧ xs.length * m ≤ sizeMax ∧ Q (.lst 0 (List.replicate m xs).flatten)
  | .mod, .int i, .int j => 0 < j ∧ Q (.int (i % j))
  | .fdiv, .int i, .int j => fdivOk j ∧ Q (.int (i / j))
  | .pow, .int i, .int j => CPow i j ∧ Q (.int (i ^ j.toNat))
  | _, _, _ => False
def inAny (x : D) (ys : List D) : Bool := ys.any fun y => deq y x
def cmpW (o : Cm) (x y : D) (Q : Bool → Prop) : Prop := match o with
  | .eq => (match x, y with | .str a, .str b => Q (decide (a = b)) | x, y => x.ok 60 = true ∧ y.ok 60 = true ∧ Q (deq x y))
  | .ne => (match x, y with | .str a, .str b => Q (!decide (a = b)) | x, y => x.ok 60 = true ∧ y.ok 60 = true ∧ Q (!deq x y))
  | .lt => (match x, y with | .int i, .int j => Q (decide (i < j)) | _, _ => False)
  | .le => (match x, y with | .int i, .int j => Q (decide (i ≤ j)) | _, _ => False)
  | .gt => (match x, y with | .int i, .int j => Q (decide (j < i)) | _, _ => False)
  | .ge => (match x, y with | .int i, .int j => Q (decide (j ≤ i)) | _, _ => False)
  | .is_ => (match y with | .non => (match x with | .non => Q true | _ => Q false) | _ => False)
  | .isnot => (match y with | .non => (match x with | .non => Q false | _ => Q true) | _ => False)
  | .in_ => x.ok 60 = true ∧ (match y with | .lst _ ys => ys.all (D.ok 59) = true ∧ Q (inAny x ys) | .tup ys => ys.all (D.ok 59) = true ∧ Q (inAny x ys) | _ => False)
  | .notin => x.ok 60 = true ∧ (match y with | .lst _ ys => ys.all (D.ok 59) = true ∧ Q (!inAny x ys) | .tup ys => ys.all (D.ok 59) = true ∧ Q (!inAny x ys) | _ => False)
def idxW (x y : D) (Q : D → Prop) : Prop := match x, y with
  | .lst _ xs, .int i => ∃ d, atI xs i = some d ∧ Q d
  | .tup xs, .int i => ∃ d, atI xs i = some d ∧ Q d
  | _, _ => False
def cutD (xs : List D) (lo hi : Option Int) : List D := (xs.drop (HT.sIx xs.length 0 lo)).take (HT.sIx xs.length xs.length hi - HT.sIx xs.length 0 lo)
def slcW (x : D) (lo hi : Option Int) (Q : D → Prop) : Prop := match x with
  | .lst _ xs => Q (.lst 0 (cutD xs lo hi))
  | .tup xs => Q (.tup (cutD xs lo hi))
  | _ => False
def biW (b : Bi) (xs : List D) (Q : D → Prop) : Prop := match b, xs with
  | .len, [.lst _ ys] => Q (.int ys.length)
  | .len, [.tup ys] => Q (.int ys.length)
  | .all, [.lst _ ys] => ∃ bs, blsOf ys = some bs ∧ Q (.bl (bs.all id))
  | .any, [.lst _ ys] => ∃ bs, blsOf ys = some bs ∧ Q (.bl (bs.any id))
  | .sum, [.lst _ ys] => ∃ ns, intsOf ys = some ns ∧ Q (.int ns.sum)
  | .list, [.lst _ ys] => Q (.lst 0 ys)
  | .list, [.tup ys] => Q (.lst 0 ys)
  | .tuple, [.lst _ ys] => Q (.tup ys)
  | .tuple, [.tup ys] => Q (.tup ys)
  | .abs, [.int i] => Q (.int (if i < 0 then -i else i))
  | .int, [.int i] => Q (.int i)
  | .int, [.bl b] => Q (.int (if b then 1 else 0))
  | .max2, [.int i, .int j] => Q (.int (if j > i then j else i))
  | .min2, [.int i, .int j] => Q (.int (if j < i then j else i))
  | _, _ => False

/-- a dict's key -/
def kyOf : D → Option L2.Key
  | .int i => some (.inl i)
  | .str s => some (.inr s)
  | _ => none
def kysOf : List D → Option (List L2.Key)
  | [] => some []
  | d :: r => (match kyOf d, kysOf r with | some k, some ks => some (k :: ks) | _, _ => none)
def getK {kap : Type} [DecidableEq kap] (kvs : List (kap × D)) (k : kap) : Option D := (kvs.find? fun kv => decide (kv.1 = k)).map (·.2)
def setK {kap : Type} [DecidableEq kap] (kvs : List (kap × D)) (k : kap) (d : D) : List (kap × D) :=
  if (kvs.any fun kv => decide (kv.1 = k)) = true then kvs.map (fun kv => if kv.1 = k then (kv.1, d) else kv) else kvs ++ [(k, d)]
/-- what the dict u holds at k -/
def lkW (u k : D) (Q : Option D → Prop) : Prop := match u with
  | .dK kvs => ∃ key, kyOf k = some key ∧ Q (getK kvs key)
  | .dT kvs => (match k with | .tup ds => ∃ ks, kysOf ds = some ks ∧ Q (getK kvs ks) | _ => False)
  | _ => False
def ptW (u k v : D) (Q : D → Prop) : Prop := match u with
  | .dK kvs => ∃ key, kyOf k = some key ∧ kvs.length < sizeMax ∧ Q (.dK (setK kvs key v))
  | .dT kvs => (match k with | .tup ds => ∃ ks, kysOf ds = some ks ∧ kvs.length < sizeMax ∧ Q (.dT (setK kvs ks v)) | _ => False)
  | _ => False
/-! ### environments -/
abbrev Sl := List Slot
def lookV (ρ : Sl) (i : Nat) (Q : D → Prop) : Prop := match ρ[i]? with
  | some (.val d) => Q d
  | _ => False
def lookB (ρ : Sl) (i : Nat) (Q : D → Prop) : Prop := match ρ[i]? with
  | some (.val d) => Q d
  | some (.own xs) => Q (.lst 0 xs)
  | some (.dic _ u) => Q u
  | _ => False
def lookO (ρ : Sl) (i : Nat) (Q : List D → Prop) : Prop := match ρ[i]? with
  | some (.own xs) => Q xs
  | _ => False
def lookD (ρ : Sl) (i : Nat) (Q : PySem.Addr → D → Prop) : Prop := match ρ[i]? with
  | some (.dic a u) => Q a u
  | _ => False
/-- nothing of ours that may change stands at a -/
def noAd (sl : Sl) (a : PySem.Addr) : Prop := ∀ z ∈ sl, z.ad ≠ some a
mutual
def wTg : Tg → D → Sl → (Sl → Prop) → Prop
  | .nm i, d, ρ, k => k (ρ.set i (.val d))
  | .tp ts, d, ρ, k => (match d with | .tup ds => wTgs ts ds ρ k | .lst _ ds => wTgs ts ds ρ k | _ => False)
  | _, _, _, _ => False
termination_by structural t => t
def wTgs : Tg → List D → Sl → (Sl → Prop) → Prop
  | .nil, [], ρ, k => k ρ
  | .cons t ts, d :: ds, ρ, k => wTg t d ρ fun ρ => wTgs ts ds ρ k
  | _, _, _, _ => False
termination_by structural t => t
end
def Tg.slots : Tg → List Nat
  | .nm i => [i]
  | .tp ts => ts.slots
  | .nil => []
  | .cons t ts => t.slots ++ ts.slots
def wipeS (ρ : Sl) : List Nat → Sl
  | [] => ρ
  | v :: vs => (wipeS ρ vs).set v .un
/-- a comprehension's loop -/
def compL (step : D → Nat → (Option D → Nat → Prop) → Prop) : List D → List D → Nat → (List D → Nat → Prop) → Prop
  | [], acc, n, k => k acc n
  | d :: ds, acc, n, k => step d n fun r n => (match r with
    | some e => acc.length < sizeMax ∧ compL step ds (acc ++ [e]) n k
    | none => compL step ds acc n k)
/-- a dict comprehension's loop -/
def dcompL (step : D → Nat → (Option (L2.Key × D) → Nat → Prop) → Prop) : List D → List (L2.Key × D) → Nat → (List (L2.Key × D) → Nat → Prop) → Prop
  | [], acc, n, k => k acc n
  | d :: ds, acc, n, k => step d n fun r n => (match r with
    | some e => acc.length < sizeMax ∧ dcompL step ds (setK acc e.1 e.2) n k
    | none => dcompL step ds acc n k)
/-- a for's loop -/
def forL (step : D → Env → (Env → Prop) → Prop) : List D → Env → (Env → Prop) → Prop
  | [], ρ, k => k ρ
  | d :: ds, ρ, k => step d ρ fun ρ => forL step ds ρ k
def whlL (test : Env → (Bool → Env → Prop) → Prop) (body : Env → (Env → Prop) → Prop) : Nat → Env → (Env → Prop) → Prop
  | 0, _, _ => False
  | m + 1, ρ, k => test ρ fun b ρ => if b = true then body ρ fun ρ => whlL test body m ρ k else k ρ
def rangeD (lo : Int) (n : Nat) : List D := (List.range n).map fun (i : Nat) => .int (lo + i)
def enumD (xs : List D) : List D := (List.range xs.length).map fun (i : Nat) => .tup [.int i, xs.getD i .non]
def zipD (xs ys : List D) : List D := (xs.zip ys).map fun p => .tup [p.1, p.2]

/-! ### defs -/
abbrev DSp := List D → Nat → (D → Nat → Prop) → (Exc → Nat → Prop) → Prop
structure Fn where
  name : Str
  ps : List Str
  sp : DSp
  hsp : DSp → DSp := fun _ _ _ _ _ => False
  key : Option Key := none
  fr : Bool := false

section
variable (Phy : List Fn)
def callW (g : Nat) (ds : List D) (n : Nat) (Q : D → Nat → Prop) (E : Exc → Nat → Prop) : Prop := match Phy[g]? with
  | some F => ds.length = F.ps.length ∧ F.sp ds n Q E
  | none => False
def callFW (g : Nat) (ds : List D) (n : Nat) (Q : D → Nat → Prop) (E : Exc → Nat → Prop) : Prop := match Phy[g]? with
  | some F => F.fr = true ∧ (ds.length = F.ps.length ∧ F.sp ds n Q E)
  | none => False
def calW (ρ : Sl) (i : Nat) (Q : Fn → Prop) : Prop := match ρ[i]? with
  | some (.clo g k) => (match Phy[g]? with | some F => F.key = some k ∧ Q F | none => False)
  | _ => False
def hofW (g : Nat) (L : DSp) (ds : List D) (n : Nat) (Q : D → Nat → Prop) (E : Exc → Nat → Prop) : Prop := match Phy[g]? with
  | some F => ds.length + 1 = F.ps.length ∧ F.hsp L ds n Q E
  | none => False
def mkW (g : Nat) (ds : List D) (n : Nat) (Q : D → Nat → Prop) (E : Exc → Nat → Prop) : Prop := match Phy[g]? with
  | some F => ds.length + 1 = F.ps.length ∧ F.sp ds n Q E
  | none => False
def isObj (c : Nat) : D → Prop
  | .obj k _ => k = c
  | _ => False
abbrev Exn := Exc → Nat → Prop
/-- what an expression means: as a value, as a test, as a list of arguments, as operands of and | or (as values, as tests), as a slice's end, as a thing walked -/
structure Sm where
  v : Exn → Sl → Nat → (D → Nat → Prop) → Prop
  t : Exn → Sl → Nat → (Bool → Nat → Prop) → Prop
  a : Exn → Sl → Nat → (List D → Nat → Prop) → Prop
  b : Bool → Exn → Sl → Nat → (D → Nat → Prop) → Prop
  bt : Bool → Exn → Sl → Nat → (Bool → Nat → Prop) → Prop
  o : Exn → Sl → Nat → (Option Int → Nat → Prop) → Prop
  i : Exn → Sl → Nat → (List D → Nat → Prop) → Prop
def intW (d : D) (Q : Int → Prop) : Prop := match d with
  | .int i => Q i
  | _ => False
def blW (d : D) (Q : Bool → Prop) : Prop := match d with
  | .bl b => Q b
  | _ => False
def objW (c f : Nat) (d : D) (Q : D → Prop) : Prop := match d with
  | .obj k ds => k = c ∧ ∃ d, ds[f]? = some d ∧ Q d
  | _ => False
def seqW (d : D) (Q : List D → Prop) : Prop := match d with
  | .lst _ xs => Q xs
  | .tup xs => Q xs
  | _ => False
def lstW (d : D) (Q : List D → Prop) : Prop := match d with
  | .lst _ xs => Q xs
  | _ => False
def zipW (d e : D) (Q : List D → Prop) : Prop := match d, e with
  | .lst _ xs, .lst _ ys => Q (zipD xs ys)
  | .tup xs, .tup ys => Q (zipD xs ys)
  | _, _ => False
def ofV (v : Exn → Sl → Nat → (D → Nat → Prop) → Prop) : Sm where
  v := v
  t := fun E ρ n Q => v E ρ n fun d n => truW d fun b => Q b n
  a := fun _ _ _ _ => False
  b := fun _ _ _ _ _ => False
  bt := fun _ _ _ _ _ => False
  o := fun E ρ n Q => v E ρ n fun d n => intW d fun i => Q (some i) n
  i := fun _ _ _ _ => False
def ofI (i : Exn → Sl → Nat → (List D → Nat → Prop) → Prop) : Sm where
  v := fun _ _ _ _ => False
  t := fun _ _ _ _ => False
  a := fun _ _ _ _ => False
  b := fun _ _ _ _ _ => False
  bt := fun _ _ _ _ _ => False
  o := fun _ _ _ _ => False
  i := i
def X.isNil : X → Bool
  | .nil => true
  | _ => false
/-- an expression's weakest preconditions; E: what is wanted of an exception -/
def sem : X → Sm
  | .var i => ofV fun _ ρ n Q => lookV ρ i fun d => Q d n
  | .bor i => ofV fun _ ρ n Q => lookB ρ i fun d => Q d n
  | .int m => ofV fun _ _ n Q => Q (.int m) n
  | .str s => ofV fun _ _ n Q => Q (.str s) n
  | .bl b => ofV fun _ _ n Q => Q (.bl b) n
  | .non => ofV fun _ _ n Q => Q .non n
  | .glo g => ofV fun _ _ n Q => Q (.fn g) n
  | .neg a => ofV fun E ρ n Q => (sem a).v E ρ n fun x n => intW x fun i => Q (.int (-i)) n
  | .bin o a b => ofV fun E ρ n Q => (sem a).v E ρ n fun x n => (sem b).v E ρ n fun y n => binW o x y fun d => Q d n
  | .cmp o a b => ofV fun E ρ n Q => (sem a).v E ρ n fun x n => (sem b).v E ρ n fun y n => cmpW o x y fun d => Q (.bl d) n
  | .cmp2 o p a b c => ofV fun E ρ n Q => (sem a).v E ρ n fun x n => (sem b).v E ρ n fun y n => cmpW o x y fun d => if d = true then (sem c).v E ρ n fun z n => cmpW p y z fun d => Q (.bl d) n else Q (.bl false) n
  | .boo con xs => { ofV (fun E ρ n Q => (sem xs).b con E ρ n Q) with t := fun E ρ n Q => (sem xs).bt con E ρ n Q }
  | .not_ a => { ofV (fun E ρ n Q => (sem a).v E ρ n fun x n => blW x fun b => Q (.bl (!b)) n) with t := fun E ρ n Q => (sem a).t E ρ n fun b n => Q (!b) n }
  | .ite c a b => ofV fun E ρ n Q => (sem c).t E ρ n fun t n => if t = true then (sem a).v E ρ n Q else (sem b).v E ρ n Q
  | .idx a b => ofV fun E ρ n Q => (sem a).v E ρ n fun x n => (sem b).v E ρ n fun y n => idxW x y fun d => Q d n
  | .slc a lo hi => ofV fun E ρ n Q => (sem a).v E ρ n fun x n => (sem lo).o E ρ n fun l n => (sem hi).o E ρ n fun h n => slcW x l h fun d => Q d n
  | .lst xs => ofV fun E ρ n Q => (sem xs).a E ρ n fun ds n => ds.length ≤ sizeMax ∧ Q (.lst 0 ds) n
  | .tup xs => ofV fun E ρ n Q => (sem xs).a E ρ n fun ds n => ds.length ≤ sizeMax ∧ Q (.tup ds) n
  | .call g xs => ofV fun E ρ n Q => (sem xs).a E ρ n fun ds n => callW Phy g ds n Q E
  | .bi b xs => ofV fun E ρ n Q => (sem xs).a E ρ n fun ds n => biW b ds fun d => Q d n
  | .ist a ts _ => ofV fun E ρ n Q => (sem a).v E ρ n fun x n => istW x ts fun b => Q (.bl b) n
  | .fld c f a => ofV fun E ρ n Q => (sem a).v E ρ n fun x n => objW c f x fun d => Q d n
  | .comp t it cond elt => ofV fun E ρ n Q => (sem it).i E ρ n fun xs n =>
      compL (fun x n k => wTg t x (wipeS ρ t.slots) fun ρ => (sem cond).t (fun _ _ => False) ρ n fun b n => if b = true then (sem elt).v (fun _ _ => False) ρ n fun d n => k (some d) n else k none n) xs [] n fun ds n => Q (.lst 0 ds) n
  | .nev => ofI fun _ _ _ _ => False
  | .pri p xs => ofV fun E ρ n Q => (sem xs).a E ρ n fun ds n => callW Phy p ds n Q E
  | .cal i xs => ofV fun E ρ n Q => calW Phy ρ i fun F => (sem xs).a E ρ n fun ds n => F.sp ds n Q E
  | .callL g np l => ofV fun E ρ n Q => hofW Phy g (fun es n Q E => es.length = np ∧ (sem l).v E (ρ ++ es.map Slot.val) n Q) [] n Q E
  | .callM g a np l => ofV fun E ρ n Q => (sem a).v E ρ n fun x n => hofW Phy g (fun es n Q E => es.length = np ∧ (sem l).v E (ρ ++ es.map Slot.val) n Q) [x] n Q E
  | .mk c g xs => ofV fun E ρ n Q => (sem xs).a E ρ n fun ds n => mkW Phy g ds n Q E
  | .meth c g a xs => ofV fun E ρ n Q => (sem a).v E ρ n fun x n => isObj c x ∧ (sem xs).a E ρ n fun ds n => callW Phy g (x :: ds) n Q E
  | .itl a => ofI fun E ρ n Q => (sem a).v E ρ n fun d n => seqW d fun xs => Q xs n
  | .itr a => ofI fun E ρ n Q => (sem a).v E ρ n fun d n => intW d fun j => -(2 ^ 62) ≤ j ∧ j < 2 ^ 62 ∧ Q (rangeD 0 j.toNat) n
  | .itr2 a b => ofI fun E ρ n Q => (sem a).v E ρ n fun x n => (sem b).v E ρ n fun y n => intW x fun i => intW y fun j => (-(2 ^ 62) ≤ i ∧ i < 2 ^ 62 ∧ -(2 ^ 62) ≤ j ∧ j < 2 ^ 62) ∧ Q (rangeD i (j - i).toNat) n
  | .itz a b => ofI fun E ρ n Q => (sem a).v E ρ n fun x n => (sem b).v E ρ n fun y n => zipW x y fun xs => Q xs n
  | .ite_ a => ofI fun E ρ n Q => (sem a).v E ρ n fun d n => seqW d fun xs => Q (enumD xs) n
  | .inO neg a i => ofV fun E ρ n Q => (sem a).v E ρ n fun x n => lookD ρ i fun _ u => lkW u x fun r => Q (.bl (if neg = true then !r.isSome else r.isSome)) n
  | .calV gs i xs => ofV fun E ρ n Q => lookV ρ i fun d => ∃ g, g ∈ gs ∧ d = .fn g ∧ (sem xs).a E ρ n fun ds n => callW Phy g ds n Q E
  | .callF g xs => ofV fun E ρ n Q => (sem xs).a E ρ n fun ds n => callFW Phy g ds n Q E
  | .priF p xs => ofV fun E ρ n Q => (sem xs).a E ρ n fun ds n => callW Phy p ds n Q E
  | .dcomp t it cond kx vx => ofV fun E ρ n Q => (sem it).i E ρ n fun xs n =>
      dcompL (fun x n k => wTg t x (wipeS ρ t.slots) fun ρ => (sem cond).t (fun _ _ => False) ρ n fun b n => if b = true then (sem kx).v (fun _ _ => False) ρ n fun y n => (sem vx).v (fun _ _ => False) ρ n fun d n => ∃ key, kyOf y = some key ∧ k (some (key, d)) n else k none n) xs [] n fun kvs n => Q (.dK kvs) n
  | .dix a b => ofV fun E ρ n Q => (sem a).v E ρ n fun x n => (sem b).v E ρ n fun y n => lkW x y fun r => ∃ d, r = some d ∧ Q d n
  | .dge1 a b => ofV fun E ρ n Q => (sem a).v E ρ n fun x n => x.isD = true ∧ (sem b).v E ρ n fun y n => lkW x y fun r => Q (r.getD .non) n
  | .dge2 a b z => ofV fun E ρ n Q => (sem a).v E ρ n fun x n => x.isD = true ∧ (sem b).v E ρ n fun y n => (sem z).v E ρ n fun d n => lkW x y fun r => Q (r.getD d) n
  | .din neg a b => ofV fun E ρ n Q => (sem a).v E ρ n fun x n => (sem b).v E ρ n fun y n => lkW y x fun r => Q (.bl (if neg = true then !r.isSome else r.isSome)) n
  | .nil => { ofI (fun _ _ _ _ => False) with a := fun _ _ n Q => Q [] n, o := fun _ _ n Q => Q none n }
  | .cons a r => { ofI (fun _ _ _ _ => False) with
      a := fun E ρ n Q => (sem a).v E ρ n fun x n => (sem r).a E ρ n fun xs n => Q (x :: xs) n
      b := fun con E ρ n Q => if r.isNil = true then (sem a).v E ρ n Q else (sem a).v E ρ n fun x n => blW x fun b => if b = con then (sem r).b con E ρ n Q else Q (.bl b) n
      bt := fun con E ρ n Q => if r.isNil = true then (sem a).t E ρ n Q else (sem a).t E ρ n fun b n => if b = con then (sem r).bt con E ρ n Q else Q b n }
termination_by structural x => x
abbrev wX (E : Exn) (x : X) (ρ : Sl) (n : Nat) (Q : D → Nat → Prop) : Prop := (sem Phy x).v E ρ n Q
abbrev wT (E : Exn) (x : X) (ρ : Sl) (n : Nat) (Q : Bool → Nat → Prop) : Prop := (sem Phy x).t E ρ n Q
abbrev wA (E : Exn) (x : X) (ρ : Sl) (n : Nat) (Q : List D → Nat → Prop) : Prop := (sem Phy x).a E ρ n Q
abbrev wO (E : Exn) (x : X) (ρ : Sl) (n : Nat) (Q : Option Int → Nat → Prop) : Prop := (sem Phy x).o E ρ n Q
abbrev wI (E : Exn) (x : X) (ρ : Sl) (n : Nat) (Q : List D → Nat → Prop) : Prop := (sem Phy x).i E ρ n Q

mutual
def D.sub (m : Nat) (ys : List D) : D → D
  | .lst n xs => if n = m + 1 then .lst 0 ys else .lst n (D.subs m ys xs)
  | .tup xs => .tup (D.subs m ys xs)
  | .dK kvs => .dK (D.subK m ys kvs)
  | .dT kvs => .dT (D.subT m ys kvs)
  | .obj c fs => .obj c (D.subs m ys fs)
  | d => d
termination_by structural d => d
def D.subs (m : Nat) (ys : List D) : List D → List D
  | [] => []
  | d :: ds => D.sub m ys d :: D.subs m ys ds
termination_by structural d => d
def D.subK (m : Nat) (ys : List D) : List (L2.Key × D) → List (L2.Key × D)
  | [] => []
  | q :: ds => D.subK1 m ys q :: D.subK m ys ds
termination_by structural d => d
def D.subK1 (m : Nat) (ys : List D) : L2.Key × D → L2.Key × D
  | (k, d) => (k, D.sub m ys d)
termination_by structural d => d
def D.subT (m : Nat) (ys : List D) : List (List L2.Key × D) → List (List L2.Key × D)
  | [] => []
  | q :: ds => D.subT1 m ys q :: D.subT m ys ds
termination_by structural d => d
def D.subT1 (m : Nat) (ys : List D) : List L2.Key × D → List L2.Key × D
  | (k, d) => (k, D.sub m ys d)
termination_by structural d => d
end
def Slot.sub (m : Nat) (ys : List D) : Slot → Slot
  | .val d => .val (d.sub m ys)
  | .own xs => .own (D.subs m ys xs)
  | .slf c a ds => .slf c a (D.subs m ys ds)
  | .dic a d => .dic a (d.sub m ys)
  | s => s
def D.atom : D → Bool
  | .non => true
  | .bl _ => true
  | .int _ => true
  | .str _ => true
  | _ => false
def Slot.noC : Slot → Bool
  | .clo _ _ => false
  | _ => true
structure Nd where
  nx : Env → Prop
  rt : D → Nat → Prop
  bk : Env → Prop := fun _ => False
  ct : Env → Prop := fun _ => False
/-- the slots of a, b = .. -/
def wPar : List (Nat × Bool) → List D → Sl → (Sl → Prop) → Prop
  | [], [], ρ, k => k ρ
  | (i, false) :: ts, d :: ds, ρ, k => wPar ts ds (ρ.set i (.val d)) k
  | (i, true) :: ts, .lst 0 xs :: ds, ρ, k => wPar ts ds (ρ.set i (.own xs)) k
  | (i, true) :: ts, .dK kvs :: ds, ρ, k => ∀ a, noAd ρ a → wPar ts ds (ρ.set i (.dic a (.dK kvs))) k
  | _, _, _, _ => False
/-- what a clause returns -/
def Hd.tell (h : Hd) (d : D) : D :=
  let ds : List D := match h.s with | some s => [.str s, d] | none => [d]
  if h.tup = true then .tup ds else .lst 0 ds
def Hd.out (h : Hd) (xs : List D) (Q : D → Prop) : Prop := match h.f with
  | some f => ∃ d, xs[f]? = some d ∧ Q (h.tell d)
  | none => Q (h.tell .non)
/-- the clauses that stand behind a try -/
def Hd.fits (h : Hd) (L : Nat) : Prop := match h.i with
  | some i => i < L
  | none => h.f = none
def hdW (L : Nat) : List Hd → Exc → (D → Prop) → Prop → Prop
  | [], _, _, out => out
  | h :: hs, e, Q, out => if e.c = h.c then h.fits L ∧ h.out e.xs Q else hdW L hs e Q out
def slfW (c f : Nat) (d : D) (ρ : Sl) (Q : Sl → Prop) : Prop := match ρ[(0 : Nat)]? with
  | some (.slf c' a ds) => c' = c ∧ ds.length = f ∧ noAd (ρ.set 0 .un) a ∧ Q (ρ.set 0 (.slf c a (ds ++ [d])))
  | _ => False
/-- a statement's -/
def wS : S → (Exc → Env → Prop) → Env → Nd → Prop
  | .nl, E, ρ, K => K.nx ρ
  | .sq s r, E, ρ, K => wS s E ρ { K with nx := fun ρ => wS r E ρ K }
  | .asg i x, E, ρ, K => wX Phy (fun e n => E e ⟨ρ.sl, n⟩) x ρ.sl ρ.n fun d n => K.nx ⟨ρ.sl.set i (.val d), n⟩
  | .asgO i x, E, ρ, K => wX Phy (fun e n => E e ⟨ρ.sl, n⟩) x ρ.sl ρ.n fun d n => (match d with | .lst 0 xs => K.nx ⟨ρ.sl.set i (.own xs), n⟩ | _ => False)
  | .asgT t x, E, ρ, K => wX Phy (fun e n => E e ⟨ρ.sl, n⟩) x ρ.sl ρ.n fun d n => wTg t d ρ.sl fun sl => K.nx ⟨sl, n⟩
  | .par ts xs, E, ρ, K => wA Phy (fun e n => E e ⟨ρ.sl, n⟩) xs ρ.sl ρ.n fun ds n => wPar ts ds ρ.sl fun sl => K.nx ⟨sl, n⟩
  | .app i x, E, ρ, K => lookO ρ.sl i fun xs => wX Phy (fun e n => E e ⟨ρ.sl, n⟩) x ρ.sl ρ.n fun d n => xs.length < sizeMax ∧ K.nx ⟨ρ.sl.set i (.own (xs ++ [d])), n⟩
  | .ext i x, E, ρ, K => lookO ρ.sl i fun xs => wX Phy (fun e n => E e ⟨ρ.sl, n⟩) x ρ.sl ρ.n fun d n => lstW d fun ys => xs.length + ys.length ≤ sizeMax ∧ K.nx ⟨ρ.sl.set i (.own (xs ++ ys)), n⟩
  | .seti i k x, E, ρ, K => wX Phy (fun e n => E e ⟨ρ.sl, n⟩) x ρ.sl ρ.n fun d n => lookO ρ.sl i fun xs => wX Phy (fun e n => E e ⟨ρ.sl, n⟩) k ρ.sl n fun j n => intW j fun j => ∃ m, ixN xs.length j = some m ∧ K.nx ⟨ρ.sl.set i (.own (xs.set m d)), n⟩
  | .appP i j k, E, ρ, K => lookO ρ.sl i fun xs => lookO ρ.sl j fun ys => wX Phy (fun e n => E e ⟨ρ.sl, n⟩) k ρ.sl ρ.n fun x n => intW x fun k => ∃ (m : Nat) (d : D), i ≠ j ∧ k = m ∧ m < 2 ^ 62 ∧ ys[m]? = some d ∧ xs.length < sizeMax ∧ K.nx ⟨(ρ.sl.set j (.own (ys.eraseIdx m))).set i (.own (xs ++ [d])), n⟩
  | .asgP t j, E, ρ, K => lookO ρ.sl j fun ys => ∃ d, ys.getLast? = some d ∧ wTg t d (ρ.sl.set j (.own ys.dropLast)) fun sl => K.nx ⟨sl, ρ.n⟩
  | .asgPA t j k, E, ρ, K => lookO ρ.sl j fun ys => wX Phy (fun e n => E e ⟨ρ.sl, n⟩) k ρ.sl ρ.n fun x n => intW x fun k => ∃ (m : Nat) (d : D), k = m ∧ m < 2 ^ 62 ∧ ys[m]? = some d ∧ wTg t d (ρ.sl.set j (.own (ys.eraseIdx m))) fun sl => K.nx ⟨sl, n⟩
  | .exp x, E, ρ, K => wX Phy (fun e n => E e ⟨ρ.sl, n⟩) x ρ.sl ρ.n fun _ n => K.nx ⟨ρ.sl, n⟩
  | .ret x, E, ρ, K => wX Phy (fun e n => E e ⟨ρ.sl, n⟩) x ρ.sl ρ.n fun d n => K.rt d n
  | .retN, E, ρ, K => K.rt .non ρ.n
  | .iff c a b, E, ρ, K => wT Phy (fun e n => E e ⟨ρ.sl, n⟩) c ρ.sl ρ.n fun t n => if t = true then wS a E ⟨ρ.sl, n⟩ K else wS b E ⟨ρ.sl, n⟩ K
  | .for_ t it body, E, ρ, K => wI Phy (fun e n => E e ⟨ρ.sl, n⟩) it ρ.sl ρ.n fun xs n => forL (fun x ρ k => wTg t x ρ.sl fun sl => wS body E ⟨sl, ρ.n⟩ { K with nx := k, ct := k, bk := K.nx }) xs ⟨ρ.sl, n⟩ K.nx
  | .whl c body, E, ρ, K => ∃ m, whlL (fun ρ k => wT Phy (fun e n => E e ⟨ρ.sl, n⟩) c ρ.sl ρ.n fun b n => k b ⟨ρ.sl, n⟩) (fun ρ k => wS body E ρ { K with nx := k, ct := k, bk := K.nx }) m ρ K.nx
  | .brk, E, ρ, K => K.bk ρ
  | .cnt, E, ρ, K => K.ct ρ
  | .rai c xs, E, ρ, K => wA Phy (fun e n => E e ⟨ρ.sl, n⟩) xs ρ.sl ρ.n fun ds n => E ⟨c, ds⟩ ⟨ρ.sl, n⟩
  | .asgD i t, E, ρ, K => ∀ p, noAd ρ.sl p → K.nx ⟨ρ.sl.set i (.dic p (if t = true then .dT [] else .dK [])), ρ.n⟩
  | .setD i k x, E, ρ, K => wX Phy (fun e n => E e ⟨ρ.sl, n⟩) x ρ.sl ρ.n fun d n => lookD ρ.sl i fun p u => wX Phy (fun e n => E e ⟨ρ.sl, n⟩) k ρ.sl n fun key n => ptW u key d fun u' => noAd (ρ.sl.set i .un) p ∧ K.nx ⟨ρ.sl.set i (.dic p u'), n⟩
  | .frzD i, E, ρ, K => lookD ρ.sl i fun p u => noAd (ρ.sl.set i .un) p ∧ K.nx ⟨ρ.sl.set i (.val u), ρ.n⟩
  | .hld i k b x, E, ρ, K => lookO ρ.sl i fun xs => ρ.sl.all Slot.noC = true ∧ ∀ m, wS b (fun _ _ => False) ⟨ρ.sl.set i (.val (.lst (m + 1) xs)), ρ.n⟩ { nx := fun ρ' => ∃ ys, ρ'.sl[i]? = some (.val (.lst (m + 1) ys)) ∧ ρ'.sl.all Slot.noC = true ∧ wX Phy (fun _ _ => False) x ρ'.sl ρ'.n fun d n => ys.length < sizeMax ∧ (∀ y ∈ ys ++ [d], y.atom = true) ∧ K.nx ⟨ρ'.sl.map (Slot.sub m (ys ++ [d])), n⟩, rt := fun d n => d.atom = true ∧ K.rt d n }
  | .retO i, E, ρ, K => lookO ρ.sl i fun xs => K.rt (.lst 0 xs) ρ.n
  | .asgX i x, E, ρ, K => wX Phy (fun e n => E e ⟨ρ.sl, n⟩) x ρ.sl ρ.n fun d n => (match d with | .dK kvs => ∀ a, noAd ρ.sl a → K.nx ⟨ρ.sl.set i (.dic a (.dK kvs)), n⟩ | _ => False)
  | .frz i, E, ρ, K => lookO ρ.sl i fun xs => K.nx ⟨ρ.sl.set i (.val (.lst 0 xs)), ρ.n⟩
  | .pas, E, ρ, K => K.nx ρ
  | .nev, E, _, _ => False
  | .slf c f x, E, ρ, K => wX Phy (fun e n => E e ⟨ρ.sl, n⟩) x ρ.sl ρ.n fun d n => slfW c f d ρ.sl fun sl => K.nx ⟨sl, n⟩
  | .tri b hs, E, ρ, K => wS b (fun e ρ' => hdW ρ'.sl.length hs e (fun d => K.rt d ρ'.n) (E e ρ')) ρ K
termination_by structural s => s
end
end Q
/-! Q layer, part C: worlds, readings over data. -/
namespace Q
open PySem PySem.Spec L2

structure Pm where
  G : Gb
  Phy : List Fn
  k : Nat
  bs : List Str
  fd : Nat → FuncData
  nf : Nat
  np : Nat
  cal : Bool
  lm : Bool
  gd : Bool
  x : Nat
  hf : Nat → Bool
  ini : Nat → Option Nat
  mth : Nat → Str → Option Nat
  fr : Bool := false
  mx : List (Str × String) := []

abbrev Pm.off (M : Pm) : Pm := { M with cal := false, lm := false }
/-- the stream: its cells, the number left, how often it was asked, its mix -/
def Strm (G : Gb) (n : Nat) (H : Hp) : Prop := ∃ (xs : List Int) (c h : Int) (m : Nat), m ≤ n ∧ 0 ≤ c ∧ 0 ≤ h ∧ h < 2147483647 ∧ xs.length ≤ sizeMax ∧
  H G.st = some (.lst [.ref G.inn, .int c, .int m, .int h]) ∧ H G.inn = some (.lst (xs.map V.int)) ∧ G.st ≠ G.inn
theorem Strm.up {G : Gb} {n n' : Nat} {H : Hp} (s : Strm G n H) (h : n ≤ n') : Strm G n' H := by
  obtain ⟨xs, c, h', m, e, r⟩ := s
  exact ⟨xs, c, h', m, Nat.le_trans e h, r⟩
def NTbl (o : HO) : Prop := ∀ ps, o ≠ .tbl ps
/-- what a run leaves of what stood: ours exactly, all else but the stream and tables as it was -/
structure ExtS (G : Gb) (A : Addr → Prop) (H H' : Hp) : Prop where
  there : ∀ a o, H a = some o → NTbl o → ∃ o', H' a = some o' ∧ NTbl o'
  keep : ∀ a o, H a = some o → a ≠ G.st → a ≠ G.inn → NTbl o → (A a → H' a = some o) ∧ Kp o (H' a)
theorem ExtS.refl {G : Gb} {A : Addr → Prop} {H : Hp} : ExtS G A H H := ⟨fun _ o e t => ⟨o, e, t⟩, fun a o e _ _ _ => ⟨fun _ => e, e ▸ Kp.refl o⟩⟩
theorem ExtS.trans {G : Gb} {A A' : Addr → Prop} {H H1 H2 : Hp} (h1 : ExtS G A H H1) (h2 : ExtS G A' H1 H2) (s : ∀ a, A a → A' a) : ExtS G A H H2 := by
  refine ⟨fun a o e t => ?_, fun a o e n1 n2 t => ?_⟩
  · obtain ⟨o1, e1, t1⟩ := h1.there a o e t
    exact h2.there a o1 e1 t1
  obtain ⟨x1, k1⟩ := h1.keep a o e n1 n2 t
  refine ⟨fun ha => (h2.keep a o (x1 ha) n1 n2 t).1 (s a ha), ?_⟩
  obtain ⟨o1, e1, c1⟩ := k1
  exact Kp.trans (H1 := H1) ⟨o1, e1, c1⟩ fun o' e' => by
    rw [e1] at e'
    cases e'
    exact (h2.keep a o1 e1 n1 n2 (core_tbl c1 t)).2
theorem ExtS.lay {G : Gb} {A : Addr → Prop} {H : Hp} {p : Addr} {o : HO} (n : H p = none) : ExtS G A H (upd H p o) := by
  have k : ∀ a u, H a = some u → upd H p o a = some u := fun a u e => by rw [upd_ne (ne_of_none e n)]; exact e
  exact ⟨fun a u e t => ⟨u, k a u e, t⟩, fun a u e _ _ _ => ⟨fun _ => k a u e, (k a u e) ▸ Kp.refl u⟩⟩
theorem ExtS.back {G : Gb} {A : Addr → Prop} {H H' : Hp} {p : Addr} (h : ExtS G A H H') (n : Non H' p) : Non H p := fun o e => by
  refine Classical.byContradiction fun q => ?_
  obtain ⟨o', e', t'⟩ := h.there p o e fun ps z => q ⟨ps, z⟩
  obtain ⟨ps, z⟩ := n o' e'
  exact t' ps z
/-- the entry of a run -/
structure Bas (G : Gb) (A : Addr → Prop) (W : Wd) : Prop where
  st : A G.st
  inn : A G.inn
  ain : ∀ a, A a → ∃ o, W.H a = some o ∧ NTbl o
  nam : ∀ (n : Nat) (a : Addr), W.iot[n]? = some a → A a ∧ a ≠ G.st ∧ a ≠ G.inn
/-- a step of a run -/
structure Ste (G : Gb) (A : Addr → Prop) (W W' : Wd) (n' : Nat) : Prop where
  iot : W'.iot = W.iot
  ext : ExtS G A W.H W'.H
  strm : Strm G n' W'.H
  tabs : LamX.Tabs G.T W'.H
section
variable {G : Gb} {A A' : Addr → Prop} {W W1 W2 : Wd} {n n1 n2 : Nat}
theorem Ste.trans (h1 : Ste G A W W1 n1) (h2 : Ste G A W1 W2 n2) : Ste G A W W2 n2 := ⟨h2.iot.trans h1.iot, h1.ext.trans h2.ext fun _ h => h, h2.strm, h2.tabs⟩
theorem Ste.up (h : Ste G A W W1 n1) (u : n1 ≤ n2) : Ste G A W W1 n2 := ⟨h.iot, h.ext, h.strm.up u, h.tabs⟩
theorem Bas.stp (b : Bas G A W) (h : Ste G A W W1 n1) : Stp A W A W1 where
  keep := fun a o e n t => ⟨(h.ext.keep a o e (fun z => n (z ▸ b.st)) (fun z => n (z ▸ b.inn)) t).2, n⟩
  nam := fun n a e => ⟨by rw [h.iot]; exact e, fun vs q => by
    obtain ⟨x1, x2, x3⟩ := b.nam n a e
    exact (h.ext.keep a _ q x2 x3 (fun _ z => nomatch z)).1 x1⟩
theorem Strm.there (s : Strm G n W.H) : (∃ o, W.H G.st = some o ∧ NTbl o) ∧ ∃ o, W.H G.inn = some o ∧ NTbl o := by
  obtain ⟨xs, c, h, m, _, _, _, _, _, e1, e2, _⟩ := s
  exact ⟨⟨_, e1, fun _ z => nomatch z⟩, ⟨_, e2, fun _ z => nomatch z⟩⟩
theorem Bas.ste (b : Bas G A W) (h : Ste G A W W1 n1) : Bas G A W1 := by
  refine ⟨b.st, b.inn, fun a ha => ?_, fun n a e => b.nam n a (by rw [← h.iot]; exact e)⟩
  obtain ⟨o, e, t⟩ := b.ain a ha
  by_cases h1 : a = G.st
  · subst h1; exact h.strm.there.1
  · by_cases h2 : a = G.inn
    · subst h2; exact h.strm.there.2
    · exact ⟨o, (h.ext.keep a o e h1 h2 t).1 ha, t⟩
theorem Ste.refl (s : Strm G n W.H) (t : LamX.Tabs G.T W.H) : Ste G A W W n := ⟨rfl, .refl, s, t⟩
theorem Strm.lay {H : Hp} {p : Addr} {o : HO} (s : Strm G n H) (e : H p = none) : Strm G n (upd H p o) := by
  obtain ⟨xs, c, h, m, z1, z2, z3, z4, zl, e1, e2, z5⟩ := s
  exact ⟨xs, c, h, m, z1, z2, z3, z4, zl, by rw [upd_ne (ne_of_none e1 e)]; exact e1, by rw [upd_ne (ne_of_none e2 e)]; exact e2, z5⟩
theorem ext_new {H : Hp} {p : Addr} {o : HO} (e : H p = none) : ∀ b u, H b = some u → upd H p o b = some u := fun b u q => by rw [upd_ne (ne_of_none q e)]; exact q
theorem Ste.lay {p : Addr} {o : HO} (s : Strm G n W.H) (t : LamX.Tabs G.T W.H) (e : W.H p = none) : Ste G A W ⟨W.iot, upd W.H p o⟩ n :=
  ⟨rfl, .lay e, s.lay e, t.ext (ext_new e)⟩
end

/-- what of ours may change: an instance that is being made, a dict -/
def MutO (o : HO) : Prop := (∃ C dx fs, o = .ins C dx fs) ∨ DictO o
theorem MutO.ntbl {o : HO} (h : MutO o) : NTbl o := fun ps e => by
  rcases h with ⟨_, _, _, h⟩ | ⟨_, h⟩ | ⟨_, h⟩ <;> (rw [h] at e; cases e)
theorem MutO.nlst {o : HO} (h : MutO o) (vs : List V) : o ≠ .lst vs := fun e => by
  rcases h with ⟨_, _, _, h⟩ | ⟨_, h⟩ | ⟨_, h⟩ <;> (rw [h] at e; cases e)
def Mean (G : Gb) (A : Addr → Prop) (W : Wd) (o : HO) : Slot → Prop
  | .slf c _ ds => ∃ (dx : Addr) (fs : List (Str × V)), o = .ins (G.kap c) dx fs ∧ fs.map Prod.fst = (G.nm c).take ds.length ∧ ds.length ≤ (G.nm c).length ∧ Ats G A W (fs.map Prod.snd) ds ∧ c ∈ G.cl
  | .dic _ (.dK xs) => ∃ kvs, o = .dK kvs ∧ kvs.map Prod.fst = xs.map Prod.fst ∧ Ats G A W (kvs.map Prod.snd) (xs.map Prod.snd)
  | .dic _ (.dT xs) => ∃ kvs, o = .dT kvs ∧ kvs.map Prod.fst = xs.map Prod.fst ∧ Ats G A W (kvs.map Prod.snd) (xs.map Prod.snd)
  | _ => False
theorem Mean.stp {G : Gb} {A A' : Addr → Prop} {W W' : Wd} {o : HO} {z : Slot} (h : Mean G A W o z) (s : Stp A W A' W') : Mean G A' W' o z := by
  cases z with
  | slf c a ds =>
    obtain ⟨dx, fs, e1, e2, e3, e4, e5⟩ := h
    exact ⟨dx, fs, e1, e2, e3, e4.stp s, e5⟩
  | dic a d =>
    cases d with
    | dK xs =>
      obtain ⟨kvs, e1, e2, e3⟩ := h
      exact ⟨kvs, e1, e2, e3.stp s⟩
    | dT xs =>
      obtain ⟨kvs, e1, e2, e3⟩ := h
      exact ⟨kvs, e1, e2, e3.stp s⟩
    | _ => exact h.elim
  | _ => exact h.elim
theorem Mean.mut {G : Gb} {A : Addr → Prop} {W : Wd} {o : HO} {z : Slot} (h : Mean G A W o z) : MutO o := by
  cases z with
  | slf c a ds =>
    obtain ⟨dx, fs, e1, _⟩ := h
    exact .inl ⟨_, _, _, e1⟩
  | dic a d =>
    cases d with
    | dK xs =>
      obtain ⟨kvs, e1, _⟩ := h
      exact .inr (.inl ⟨_, e1⟩)
    | dT xs =>
      obtain ⟨kvs, e1, _⟩ := h
      exact .inr (.inr ⟨_, e1⟩)
    | _ => exact h.elim
  | _ => exact h.elim
def MutAt (G : Gb) (A₀ A : Addr → Prop) (W : Wd) (v : Option (Option V)) (z : Slot) (p : Addr) : Prop := ∃ o, v = some (some (.ref p)) ∧ A p ∧ ¬ A₀ p ∧ W.H p = some o ∧ Mean G A W o z
theorem MutAt.stp {G : Gb} {A₀ A A' : Addr → Prop} {W W' : Wd} {v : Option (Option V)} {z : Slot} {p : Addr} (h : MutAt G A₀ A W v z p) (st : Stp A W A' W')
    (k : ∀ p o, A p → ¬ A₀ p → W.H p = some o → MutO o → A' p ∧ W'.H p = some o) : MutAt G A₀ A' W' v z p := by
  obtain ⟨o, e1, e2, e3, e4, e5⟩ := h
  obtain ⟨k1, k2⟩ := k p _ e2 e3 e4 e5.mut
  exact ⟨o, e1, k1, e3, k2, e5.stp st⟩
theorem ad_ne {z s : Slot} {p : Addr} (hz : z.ad = some p) (hs : s.ad = none) : z ≠ s := fun e => by
  rw [e, hs] at hz
  cases hz
theorem set_other {α : Type} {sl : List α} {i j : Nat} {s t : α} (e : (sl.set i s)[j]? = some t) (h : t ≠ s) : i ≠ j ∧ sl[j]? = some t := by
  rw [List.getElem?_set] at e
  by_cases hj : i = j
  · subst hj
    rw [if_pos rfl] at e
    split at e
    · exact absurd (Option.some.inj e).symm h
    · cases e
  · rw [if_neg hj] at e
    exact ⟨hj, e⟩
/-- the state of a run: the slots σ, the world W, by the environment ρ; A: the lists that are ours or our callers' -/
structure Rep (G : Gb) (A₀ : Addr → Prop) (W₀ : Wd) (A : Addr → Prop) (σ : St) (W : Wd) (ρ : Env) : Prop where
  b0 : Bas G A₀ W₀
  len : σ.length = ρ.sl.length
  strm : Strm G ρ.n W.H
  tabs : LamX.Tabs G.T W.H
  ain : ∀ a, A a → ∃ o, W.H a = some o ∧ NTbl o
  aup : ∀ a, A₀ a → A a
  aold : ∀ a, A a → A₀ a ∨ Non W₀.H a
  ext : ExtS G A₀ W₀.H W.H
  iot : W.iot = W₀.iot
  val : ∀ (i : Nat) (d : D), ρ.sl[i]? = some (.val d) → ∃ v, σ[i]? = some (some v) ∧ At G A W v d
  own : ∀ (i : Nat) (xs : List D), ρ.sl[i]? = some (.own xs) → ∃ a vs, σ[i]? = some (some (.ref a)) ∧ A a ∧ ¬ A₀ a ∧ W.H a = some (.lst vs) ∧ Ats G A W vs xs
  sep : ∀ (i j : Nat) (a : Addr) (xs ys : List D), ρ.sl[i]? = some (.own xs) → ρ.sl[j]? = some (.own ys) → σ[i]? = some (some (.ref a)) → σ[j]? = some (some (.ref a)) → i = j
  clo : ∀ (i g : Nat) (k : Key), ρ.sl[i]? = some (.clo g k) → σ[i]? = some (some (.ref k.a)) ∧ k.A = A₀ ∧ k.W = W₀
  slf : ∀ (i : Nat) (z : Slot) (p : Addr), ρ.sl[i]? = some z → z.ad = some p → MutAt G A₀ A W (σ[i]?) z p
section
variable {G : Gb} {A₀ A A' : Addr → Prop} {W₀ W W1 W2 : Wd} {σ : St} {ρ : Env} {sl : Sl} {n n1 n2 : Nat}
theorem Rep.bas (R : Rep G A₀ W₀ A σ W ρ) : Bas G A W := ⟨R.aup _ R.b0.st, R.aup _ R.b0.inn, R.ain, fun n a e => by
  obtain ⟨x, y⟩ := R.b0.nam n a (by rw [← R.iot]; exact e)
  exact ⟨R.aup _ x, y⟩⟩
theorem Rep.refl (R : Rep G A₀ W₀ A σ W ⟨sl, n⟩) : Ste G A W W n := .refl R.strm R.tabs
theorem Rep.ste (R : Rep G A₀ W₀ A σ W ⟨sl, n⟩) (h : Ste G A W W1 n1) : Rep G A₀ W₀ A σ W1 ⟨sl, n1⟩ := by
  have s := R.bas.stp h
  refine ⟨R.b0, R.len, h.strm, h.tabs, (R.bas.ste h).ain, R.aup, R.aold, R.ext.trans h.ext R.aup, h.iot.trans R.iot, fun i d e => ?_, fun i xs e => ?_, R.sep, R.clo, fun i z p e hz => ?_⟩
  · obtain ⟨v, e1, x⟩ := R.val i d e
    exact ⟨v, e1, x.stp s⟩
  · obtain ⟨a, vs, e1, e2, e3, e4, x⟩ := R.own i xs e
    refine ⟨a, vs, e1, e2, e3, (h.ext.keep a _ e4 (fun z => e3 (z ▸ R.b0.st)) (fun z => e3 (z ▸ R.b0.inn)) (fun _ z => nomatch z)).1 e2, x.stp s⟩
  · exact (R.slf i z p e hz).stp s fun q o h1 h2 h3 h4 => ⟨h1, (h.ext.keep q _ h3 (fun z => h2 (z ▸ R.b0.st)) (fun z => h2 (z ▸ R.b0.inn)) h4.ntbl).1 h1⟩
/-- the stream was asked at most n times, so at most n' -/
theorem Rep.up (R : Rep G A₀ W₀ A σ W ⟨sl, n⟩) (u : n ≤ n1) : Rep G A₀ W₀ A σ W ⟨sl, n1⟩ := R.ste (R.refl.up u)
/-- a list that is not ours, or one of ours told, or a dict of ours -/
def AtB (G : Gb) (A : Addr → Prop) (W : Wd) (v : V) (d : D) : Prop := At G A W v d ∨ (∃ a vs xs, v = .ref a ∧ d = .lst 0 xs ∧ A a ∧ a ≠ G.st ∧ a ≠ G.inn ∧ W.H a = some (.lst vs) ∧ Ats G A W vs xs) ∨ ∃ a o, v = .ref a ∧ A a ∧ a ≠ G.st ∧ a ≠ G.inn ∧ W.H a = some o ∧ Mean G A W o (.dic a d)
theorem AtB.ste {v : V} {d : D} (h : AtB G A W v d) (b : Bas G A W) (s : Ste G A W W1 n1) : AtB G A W1 v d := by
  rcases h with h | ⟨a, vs, xs, e1, e2, e3, e4, e5, e6, x⟩ | ⟨a, o, e1, e3, e4, e5, e6, x⟩
  · exact .inl (h.stp (b.stp s))
  · exact .inr (.inl ⟨a, vs, xs, e1, e2, e3, e4, e5, (s.ext.keep a _ e6 e4 e5 (fun _ z => nomatch z)).1 e3, x.stp (b.stp s)⟩)
  · exact .inr (.inr ⟨a, o, e1, e3, e4, e5, (s.ext.keep a _ e6 e4 e5 x.mut.ntbl).1 e3, x.stp (b.stp s)⟩)
/-- a dict told: it is one -/
theorem Mean.isD {G : Gb} {A : Addr → Prop} {W : Wd} {o : HO} {a : Addr} {d : D} (h : Mean G A W o (.dic a d)) : d.isD = true := by
  cases d <;> first | rfl | exact h.elim
/-- a new list, a new dict -/
def Frs (G : Gb) (A : Addr → Prop) (W W' : Wd) (v : V) (d : D) : Prop := (∀ k xs, d = .lst k xs → ∃ p vs, v = .ref p ∧ Non W.H p ∧ W'.H p = some (.lst vs) ∧ Ats G (fun a => A a ∨ a = p) W' vs xs) ∧
  (d.isD = true → ∃ p o, v = .ref p ∧ Non W.H p ∧ W'.H p = some o ∧ Mean G (fun a => A a ∨ a = p) W' o (.dic p d))
end

/-! ### expressions' readings -/
def X.isBor : X → Bool
  | .bor _ => true
  | _ => false
/-- does it make a new list (if it makes a list) -/
def X.fresh : X → Bool
  | .lst _ => true
  | .comp _ _ _ _ => true
  | .slc _ _ _ => true
  | .bin _ _ _ => true
  | .bi .list _ => true
  | .callF _ _ => true
  | .priF _ _ => true
  | .dcomp _ _ _ _ _ => true
  | _ => false
/-- an exception as it lies -/
def ExcAt (G : Gb) (A : Addr → Prop) (W : Wd) (cls : Value) (dd : Option Addr) (e : Exc) : Prop := cls = .ref (G.kap e.c) ∧ e.c ∈ G.xc ∧
  ((e.xs = [] ∧ dd = none) ∨ ∃ d vs, dd = some d ∧ W.H d = some (.xd ((G.nm e.c).zip vs)) ∧ vs.length = (G.nm e.c).length ∧ Ats G A W vs e.xs)
/-- what is wanted of exceptions is taken -/
def XsOk (M : Pm) (Wx : WX) (A : Addr → Prop) (W : Wd) (σ : St) (E : Exc → Nat → Prop) : Prop := ∀ e W' n' cls dd, Ste M.G A W W' n' → ExcAt M.G A W' cls dd e → E e n' → Wx cls dd σ W'.H
theorem XsOk.ste {M : Pm} {Wx : WX} {A : Addr → Prop} {W W1 : Wd} {σ : St} {E : Exc → Nat → Prop} {n1 : Nat} (h : XsOk M Wx A W σ E) (s : Ste M.G A W W1 n1) : XsOk M Wx A W1 σ E :=
  fun e W' n' cls dd s' x q => h e W' n' cls dd (s.trans s') x q
/-- a reading by a weakest precondition over data -/
def Rg (M : Pm) (Wx : WX) {α β : Type} (w : (Exc → Nat → Prop) → Sl → Nat → (α → Nat → Prop) → Prop) (Rel : (Addr → Prop) → Wd → Wd → β → α → Prop) : St → Hp → (β → Hp → Prop) → Prop :=
  fun σ H Q => ∃ A₀ W₀ A W sl n E Qd, W.H = H ∧ Rep M.G A₀ W₀ A σ W ⟨sl, n⟩ ∧ XsOk M Wx A W σ E ∧ w E sl n Qd ∧ ∀ b d W' n', Ste M.G A W W' n' → Rel A W W' b d → Qd d n' → Q b W'.H
def relX (M : Pm) (x : X) (A : Addr → Prop) (W W' : Wd) (v : V) (d : D) : Prop := AtB M.G A W' v d ∧ (x.isBor = false → At M.G A W' v d) ∧ (x.fresh = true → Frs M.G A W W' v d)
def rdX (M : Pm) (Wx : WX) (x : X) : TE := Rg M Wx (fun E => wX M.Phy E x) (relX M x)
def rdT (M : Pm) (Wx : WX) (x : X) : TT := Rg M Wx (fun E => wT M.Phy E x) (fun _ _ _ b d => b = d)
def rdA (M : Pm) (Wx : WX) (x : X) : TA := Rg M Wx (fun E => wA M.Phy E x) (fun A _ W' vs ds => Ats M.G A W' vs ds)
/-- lists of arguments some of which may be ours -/
inductive AtBs (G : Gb) (A : Addr → Prop) (W : Wd) : List V → List D → Prop
  | nil : AtBs G A W [] []
  | cons {v d vs ds} : AtB G A W v d → AtBs G A W vs ds → AtBs G A W (v :: vs) (d :: ds)
def rdO (M : Pm) (Wx : WX) (x : X) : TO := Rg M Wx (fun E => wO M.Phy E x) (fun _ _ _ b d => b = d)
end Q
/-! Q layer, part d: own exception classes of one field. -/
namespace Q
open PySem PySem.Spec L2
section
variable {P : Program} {w : World} {K : PySem.W.Frag} {mg : Str → Option Value} {base : Heap}
/-- the promise of self.f = par -/
def spX (C : Addr) (f : Str) : Sp := fun vs H Q _ => ∃ (a : Addr) (v : V), vs = [.ref a, v] ∧ H a = some (exo a C none) ∧ ∀ dx, H dx = none → dx ≠ a → Q .non (upd (upd H dx (exd dx [(f, v)])) a (exo a C (some dx)))
theorem exI_ok {f par x qual : Str} {p1 p2 p3 p4 : Pos} {ps : Arguments} {sc : Scope} {dvs : List V} {kws : List (Str × V)} {fI C : Addr} {fd : FuncData} (Fu : FunD K x qual ps [.Assign [.Attribute (.Name "self" p1) f p2] (.Name par p3) p4] sc dvs kws fI fd)
    (Sc : FnScope ["self", par] ["self", par] sc) (T : OexC K C) (hno : PySem.W.findIn K (.ref C) f = some none) (l1 : sc.names.lookup ("self" : Str) = some .local) (l2 : sc.names.lookup par = some .local)
    (d1 : (par == ("__debug__" : Str)) = false) (d2 : (par == ("__classdict__" : Str)) = false) : FnOk P w K mg base (L2.CX P w) 1 fI fd ["self", par] (spX C f) := by
  refine Fu.ok Sc (fun vs H Q E h => by obtain ⟨a, v, rfl, _⟩ := h; rfl) fun cdv A outer s0 H vs Q E hr h => ?_
  obtain ⟨a, v, rfl, e, hq⟩ := h
  refine ⟨_, pss_one (ps_ost (pe_var (i := 0) rfl (.inl l1) (by decide) (by decide)) (pe_var (i := 1) rfl (.inl l2) d1 d2)), ?_⟩
  exact ⟨v, rfl, .ref a, rfl, a, C, rfl, T, hno, .inl ⟨e, fun dx n1 n2 => hq dx n1 n2⟩⟩
end
/-- what the top has left of an exception class of one field -/
structure XcF (P : Program) (w : World) (K : PySem.W.Frag) (mg : Str → Option Value) (base : Heap) (k : Nat) (C : Addr) (cn f : Str) : Prop where
  oex : OexC K C
  mgc : mg cn = some (.ref C)
  ini : ∃ (g : Addr) (fd : FuncData) (par : Str) (j : Nat), PySem.W.findIn K (.ref C) "__init__" = some (some (.ref g)) ∧ PySem.W.typeIn K (.ref g) = some (.type "function") ∧ j + 1 ≤ k ∧
    FnOk P w K mg base (L2.CX P w) j g fd ["self", par] (spX C f) ∧ Binds K fd ["self", par] []
end Q
/-! Q layer, part D: each expression of the small language does what its weakest precondition says. -/
namespace Q
open PySem PySem.Spec L2

/-- a def's promise by its meaning over data -/
def spD (M : Pm) (F : Fn) : Sp := fun vs H Q E => vs.length = F.ps.length ∧ ∃ A W ds n Qd Ed, W.H = H ∧ Bas M.G A W ∧ Strm M.G n H ∧ LamX.Tabs M.G.T H ∧ Ats M.G A W vs ds ∧ F.sp ds n Qd Ed ∧
  (∀ v d W' n', Ste M.G A W W' n' → At M.G A W' v d → (F.fr = true → Frs M.G A W W' v d) → Qd d n' → Q v W'.H) ∧ ∀ e W' n' cls dd, Ste M.G A W W' n' → ExcAt M.G A W' cls dd e → Ed e n' → E cls dd W'.H
/-- an __init__'s promise: the instance is made -/
def spI (M : Pm) (c : Nat) (F : Fn) : Sp := fun vs H Q E => vs.length = F.ps.length ∧ ∃ (p dx : Addr) (vs' : List V) (A : Addr → Prop) (W : Wd) (ds : List D) (n : Nat) (Qd : D → Nat → Prop) (Ed : Exc → Nat → Prop), vs = .ref p :: vs' ∧ W.H p = none ∧ W.H dx = none ∧ dx ≠ p ∧
  H = upd (upd W.H dx (.own p)) p (.ins (M.G.kap c) dx []) ∧ Bas M.G A W ∧ Strm M.G n W.H ∧ LamX.Tabs M.G.T W.H ∧ Ats M.G A W vs' ds ∧ F.sp ds n Qd Ed ∧
  (∀ d W' n', Ste M.G A W W' n' → At M.G A W' (.ref p) d → Qd d n' → Q .non W'.H) ∧ ∀ e W' n' cls dd, Ste M.G A W W' n' → ExcAt M.G A W' cls dd e → Ed e n' → E cls dd W'.H
def tyV (G : Gb) : Ty → Value
  | .int => .type "int"
  | .bool => .type "bool"
  | .str => .type "str"
  | .list => .type "list"
  | .tuple => .type "tuple"
  | .dict => .type "dict"
  | .cls c => .ref (G.kap c)
/-- what is known of a class -/
structure ClF (K : PySem.W.Frag) (G : Gb) (c : Nat) : Prop where
  cls : Cls K (G.kap c)
  ha : PySem.W.findIn K (.ref (G.kap c)) "__class__" = some (some (.builtin "object.__class__"))
  hn : PySem.W.specialIn K (.builtin "object.__class__") "__get__" = some (some (.builtin "getset_descriptor.__get__"))
  htk : PySem.W.takesIn K (.builtin "object.__class__") = some true
  hm : PySem.W.mroIn K (G.kap c) (.type "object") = some true
  noat : ∀ f ∈ G.nm c, NoAttr K (G.kap c) f
  nd : (G.nm c).Nodup
  kit : ∀ u : Ty, (∀ k, u = .cls k → k ∈ G.cl) → PySem.W.kitOne K (.ref (G.kap c)) (tyV G u) = some (decide (u = .cls c))
  kib : ∀ b ∈ (["NoneType", "int", "bool", "str", "list", "tuple", "dict"] : List String), PySem.W.kitOne K (.type b) (.ref (G.kap c)) = some false
def nmB (N : List Str) (sc : Scope) (i : Nat) (s : Str) : Bool := decide (N[i]? = some s) && ((match sc.names.lookup s with | some .local => true | some .cell => true | some .free => true | _ => false) && (!(s == ("__debug__" : Str)) && !(s == ("__classdict__" : Str))))
def nst : Expr → Bool
  | .Starred _ _ => false
  | _ => true
/-- what a call of the lambda reads -/
def LR (G : Gb) (key : Key) (L : DSp) (Wx : WX) (σZ : L2.St) (vs : List V) (H2 : Hp) (Q : VK) : Prop := ∃ (A2 : Addr → Prop) (W2 : Wd) (σ2 : L2.St) (sl2 : Sl) (n2 : Nat) (ds : List D) (Qd : D → Nat → Prop) (Ed : Exc → Nat → Prop), W2.H = H2 ∧
  Rep G key.A key.W A2 σ2 W2 ⟨sl2, n2⟩ ∧ Ats G A2 W2 vs ds ∧ L ds n2 Qd Ed ∧ (∀ v d W3 n3, Ste G A2 W2 W3 n3 → At G A2 W3 v d → Qd d n3 → Q v W3.H) ∧
  ∀ e W3 n3 cls dd, Ste G A2 W2 W3 n3 → ExcAt G A2 W3 cls dd e → Ed e n3 → Wx cls dd σZ W3.H
/-- in the def that got it, a call of the slot that holds it reads so -/
def LC (G : Gb) (c : Cx) (key : Key) (L : DSp) : Prop := ∀ (pn : List (Addr × Obj)) (xe : Value → Shared → Prop) (W' : WX), Takes (c.tr pn xe) W' → ∀ (i : Nat) (s : Str) (p cp : Pos) (es : List Expr) (ta : TA), nmB c.N c.env.scope i s = true →
  es.all nst = true → (es = [] → ta = tNil) → PA (c.tr pn xe) es ta → PE (c.tr pn xe) (.Call (.Name s p) es [] cp) (fun σZ HZ Q => σZ[i]? = some (some (.ref key.a)) ∧ ta σZ HZ fun vs H2 => LR G key L W' σZ vs H2 Q)
/-- a def that gets a lambda, last -/
structure HofOk (P : Program) (w : World) (K : PySem.W.Frag) (mg : Str → Option Value) (base : Heap) (G : Gb) (k : Nat) (gam : Addr) (F : Fn) : Prop where
  mgn : mg F.name = some (.ref gam)
  kp : PySem.W.keepIn K (.ref gam) = true
  ex : ∃ (x qual : Str) (params : Arguments) (bg : List Stmt) (sg : Scope) (dV kV doc pm : Value) (an : Option Addr) (cdv ct oc : Value) (od : Option Addr) (osl : Array (Option Value)) (Ng : List Str),
    K.lookup gam = some ⟨oc, od, .func (PySem.W.fnOf x qual params bg sg dV kV doc pm an cdv ct), osl⟩ ∧ PySem.W.codeIn K cdv qual = true ∧ FnScope Ng F.ps sg ∧ Binds K (PySem.W.fnOf x qual params bg sg dV kV doc pm an cdv ct) F.ps [] ∧
    ∀ (A : Around) (outer : List PySem.Env) (s : Shared) (H : Hp) (E : XK) (key : Key) (L : DSp) (vs : List V) (ds : List D) (n : Nat) (Qd : D → Nat → Prop) (Ed : Exc → Nat → Prop) (Q : VK), Room k (A.deeper (PyProof.Rows.envOfC qual sg s.heap.objs.size gam cdv)) →
      LC G (cxOf (L2.CX P w) P w K mg base Ng qual sg gam cdv A outer s H E) key L → key.W.H = H → Bas G key.A key.W → Strm G n H → LamX.Tabs G.T H → Ats G key.A key.W vs ds → ds.length + 1 = F.ps.length → F.hsp L ds n Qd Ed →
      (∀ v d W' n', Ste G key.A key.W W' n' → At G key.A W' v d → Qd d n' → Q v W'.H) → (∀ e W' n' cls dd, Ste G key.A key.W W' n' → ExcAt G key.A W' cls dd e → Ed e n' → E cls dd W'.H) →
      ∃ t, PSs (cxOf (L2.CX P w) P w K mg base Ng qual sg gam cdv A outer s H E) bg t ∧ t { nx := fun _ H' => Q .non H', rt := Q } (L2.start Ng (vs ++ [.ref key.a])) H
/-- what the top has left -/
structure Fx (P : Program) (w : World) (K : PySem.W.Frag) (mg : Str → Option Value) (base : Heap) (M : Pm) : Prop where
  KG : K = M.G.K
  bs : ∀ s ∈ M.bs, mg s = none
  fns : ∀ (g : Nat) (F : Fn), (M.Phy.take M.nf)[g]? = some F → FnOk P w K mg base (L2.CX P w) M.k (M.G.gam g) (M.fd g) F.ps (spD M F) ∧ mg F.name = some (.ref (M.G.gam g)) ∧
    PySem.W.keepIn K (.ref (M.G.gam g)) = true ∧ Binds K (M.fd g) F.ps []
  cls : ∀ c ∈ M.G.cl, ClF K M.G c
  cnm : ∀ c ∈ M.G.cl, mg (M.G.cn c) = some (.ref (M.G.kap c))
  exm : ∀ c ∈ M.G.xc, ∀ c' ∈ M.G.xc, PySem.W.exmOne K (.ref (M.G.kap c)) (.ref (M.G.kap c')) = some (decide (c = c'))
  xcn : ∀ c ∈ M.G.xc, mg (M.G.cn c) = some (.ref (M.G.kap c)) ∧ XfC K (M.G.kap c) ∧ (∀ f ∈ M.G.nm c, PySem.W.findIn K (.ref (M.G.kap c)) f = some none) ∧ (M.G.nm c).Nodup
  exc : ∀ c ∈ M.G.xc, ∀ f, M.G.nm c = [f] → XcF P w K mg base M.k (M.G.kap c) (M.G.cn c) f
  hof : ∀ (g : Nat) (F : Fn), M.hf g = true → (M.Phy.take M.np)[g]? = some F → ∃ j, j + 1 ≤ M.k ∧ HofOk P w K mg base M.G j (M.G.gam g) F
  few : ∀ c ∈ M.G.cl, (M.G.nm c).length ≤ 900
  ini : ∀ (c g : Nat) (F : Fn), c ∈ M.G.cl → M.ini c = some g → (M.Phy.take M.np)[g]? = some F → Mk K (M.G.kap c) (M.G.gam g) ∧ (∃ j, j + 1 ≤ M.k ∧ FnOk P w K mg base (L2.CX P w) j (M.G.gam g) (M.fd g) F.ps (spI M c F)) ∧ Binds K (M.fd g) F.ps []
  mth : ∀ (c : Nat) (m : Str) (g : Nat) (F : Fn), c ∈ M.G.cl → M.mth c m = some g → (M.Phy.take M.np)[g]? = some F → Meth K (M.G.kap c) m (M.G.gam g) ∧ FnOk P w K mg base (L2.CX P w) M.k (M.G.gam g) (M.fd g) F.ps (spD M F) ∧ Binds K (M.fd g) F.ps []
  mx : ∀ q ∈ M.mx, mg q.1 = some (.builtin q.2)
  fty : ∀ (g : Nat) (F : Fn), (M.Phy.take M.nf)[g]? = some F → PySem.W.typeIn K (.ref (M.G.gam g)) = some (.type "function")
theorem take_get {α : Type} {l : List α} {n i : Nat} {x : α} (h : (l.take n)[i]? = some x) : l[i]? = some x := by
  rw [List.getElem?_take] at h
  split at h
  · exact h
  · cases h
/-- where an expression stands -/
structure Good (c : Cx) (M : Pm) (Wx : WX) : Prop where
  fx : Fx c.prog c.w c.K c.mg c.base M
  calm : c.calm = true
  nd : c.N.Nodup
  room : Room (M.k + M.x) c.A
  tk : Takes c Wx
  lam : M.cal = true → ∀ (pn : List (Addr × Obj)) (xe : Value → Shared → Prop) (W' : WX), Takes (c.tr pn xe) W' → ∀ (i : Nat) (s : Str) (p cp : Pos) (es : List Expr) (xs : X), nmB c.N c.env.scope i s = true → es.all nst = true → (es = [] → xs = .nil) →
    PA (c.tr pn xe) es (rdA M W' xs) → PE (c.tr pn xe) (.Call (.Name s p) es [] cp) (rdX M W' (.cal i xs))
  lmf : M.lm = true → ∃ c0 P : Addr, c.env.code = .ref c0 ∧ LamX.TabB c.base c.mg c0 P ∧ (P, c.env.qual ++ "<lambda>") ∈ M.G.T ∧ ∀ p ∈ M.G.T, p.1 = P → p.2 = c.env.qual ++ "<lambda>"
  gd : M.gd = true → c.A.guards = some []

theorem Good.rm {c : Cx} {M : Pm} {Wx : WX} (g : Good c M Wx) : Room M.k c.A := g.room.mono (Nat.le_add_right _ _)

/-! ### checks -/
def glB (sc : Scope) (s : Str) : Bool := decide (sc.names.lookup s = some .globalImplicit) && !(s == ("__debug__" : Str))
section
variable {c : Cx} {M : Pm} {Wx : WX} {pos : Pos}
theorem PE.imp {e : Expr} {t t' : TE} (h : PE c e t) (i : ∀ σ H Q, t' σ H Q → t σ H Q) : PE c e t' := ⟨fun pins s σ H Q I q => h.run pins s σ H Q I (i σ H Q q)⟩
theorem PT.imp {e : Expr} {t t' : TT} (h : PT c e t) (i : ∀ σ H Q, t' σ H Q → t σ H Q) : PT c e t' := ⟨fun pins s σ H Q I q => h.run pins s σ H Q I (i σ H Q q)⟩
theorem PA.imp {e : List Expr} {t t' : TA} (h : PA c e t) (i : ∀ σ H Q, t' σ H Q → t σ H Q) : PA c e t' := ⟨fun pos pins s σ H Q I q => h.run pos pins s σ H Q I (i σ H Q q)⟩
theorem OpR.or {f : Value → Value → Sem Value} {r r' : R2} (h : OpR c f r) (h' : OpR c f r') : OpR c f (fun x y H Q => r x y H Q ∨ r' x y H Q) := fun pins s σ H x y v u Q I rx ry q => by
  rcases q with q | q
  · exact h pins s σ H x y v u Q I rx ry q
  · exact h' pins s σ H x y v u Q I rx ry q
theorem nm_ok {N : List Str} {sc : Scope} {i : Nat} {s : Str} (h : nmB N sc i s = true) : N[i]? = some s ∧ Vis sc s ∧ (s == ("__debug__" : Str)) = false ∧ (s == ("__classdict__" : Str)) = false := by
  unfold nmB at h
  simp only [Bool.and_eq_true, decide_eq_true_eq, Bool.not_eq_true'] at h
  obtain ⟨h1, h2, h3, h4⟩ := h
  refine ⟨h1, ?_, h3, h4⟩
  unfold Vis
  split at h2 <;> first | (rename_i e; simp [e]; done) | cases h2
theorem gl_ok {s : Str} (h : glB c.env.scope s = true) : Gl c s ∧ (s == ("__debug__" : Str)) = false := by
  unfold glB at h
  simp only [Bool.and_eq_true, decide_eq_true_eq, Bool.not_eq_true'] at h
  exact h

/-! ### leaves -/
theorem relX_leaf {x : X} {A : Addr → Prop} {W W' : Wd} {v : V} {d : D} (h : At M.G A W' v d) (f : x.fresh = false) : relX M x A W W' v d := ⟨.inl h, fun _ => h, fun z => by rw [f] at z; cases z⟩
theorem sx_var {i : Nat} {s : Str} (h : nmB c.N c.env.scope i s = true) : PE c (.Name s pos) (rdX M Wx (.var i)) := by
  obtain ⟨h1, h2, h3, h4⟩ := nm_ok h
  refine PE.imp (pe_var (i := i) h1 h2 h3 h4) fun σ H Q ⟨A₀, W₀, A, W, sl, n, E, Qd, e, R, Xs, hw, k⟩ => ?_
  subst e
  have hw : lookV sl i fun d => Qd d n := hw
  unfold lookV at hw
  split at hw
  · rename_i d e
    obtain ⟨v, e1, x⟩ := R.val i d e
    exact ⟨v, e1, k v d W n R.refl (relX_leaf x rfl) hw⟩
  · cases hw
theorem sx_bor {i : Nat} {s : Str} (h : nmB c.N c.env.scope i s = true) : PE c (.Name s pos) (rdX M Wx (.bor i)) := by
  obtain ⟨h1, h2, h3, h4⟩ := nm_ok h
  refine PE.imp (pe_var (i := i) h1 h2 h3 h4) fun σ H Q ⟨A₀, W₀, A, W, sl, n, E, Qd, e, R, Xs, hw, k⟩ => ?_
  subst e
  have hw : lookB sl i fun d => Qd d n := hw
  unfold lookB at hw
  split at hw
  · rename_i d e
    obtain ⟨v, e1, x⟩ := R.val i d e
    exact ⟨v, e1, k v d W n R.refl ⟨.inl x, fun _ => x, (fun z => nomatch z)⟩ hw⟩
  · rename_i xs e
    obtain ⟨a, vs, e1, e2, e3, e4, x⟩ := R.own i xs e
    exact ⟨_, e1, k _ _ W n R.refl ⟨.inr (.inl ⟨a, vs, xs, rfl, rfl, e2, (fun z => e3 (z ▸ R.b0.st)), (fun z => e3 (z ▸ R.b0.inn)), e4, x⟩), (fun z => nomatch z), (fun z => nomatch z)⟩ hw⟩
  · rename_i p u e
    obtain ⟨o, e1, e2, e3, e4, x⟩ := R.slf i _ p e rfl
    exact ⟨_, e1, k _ _ W n R.refl ⟨.inr (.inr ⟨p, o, rfl, e2, (fun z => e3 (z ▸ R.b0.st)), (fun z => e3 (z ▸ R.b0.inn)), e4, x⟩), (fun z => nomatch z), (fun z => nomatch z)⟩ hw⟩
  · cases hw
theorem sx_c {x : X} {e : Expr} {v : V} {d : D} (hp : PE c e (tC v)) (hx : ∀ E sl n Qd, wX M.Phy E x sl n Qd → Qd d n) (ha : ∀ A W, At M.G A W v d) (f : x.fresh = false) : PE c e (rdX M Wx x) := by
  refine PE.imp hp fun σ H Q ⟨A₀, W₀, A, W, sl, n, E, Qd, e, R, Xs, hw, k⟩ => ?_
  subst e
  exact k v d W n R.refl (relX_leaf (ha A W) f) (hx E sl n Qd hw)
theorem sx_int {m : Int} {j : Nat} : PE c (.Constant (.int m) j pos) (rdX M Wx (.int m)) := sx_c pe_int (fun _ _ _ _ h => h) (fun _ _ => .int) rfl
theorem sx_str {m : Str} {j : Nat} : PE c (.Constant (.str m) j pos) (rdX M Wx (.str m)) := sx_c pe_str (fun _ _ _ _ h => h) (fun _ _ => .str) rfl
theorem sx_bl {m : Bool} {j : Nat} : PE c (.Constant (.bool m) j pos) (rdX M Wx (.bl m)) := sx_c pe_bl (fun _ _ _ _ h => h) (fun _ _ => .bl) rfl
theorem sx_non {j : Nat} : PE c (.Constant .none j pos) (rdX M Wx .non) := sx_c pe_non (fun _ _ _ _ h => h) (fun _ _ => .non) rfl
theorem sx_glo {g : Nat} {F : Fn} (G : Good c M Wx) (hF : (M.Phy.take M.nf)[g]? = some F) (h : glB c.env.scope F.name = true) : PE c (.Name F.name pos) (rdX M Wx (.glo g)) :=
  sx_c (v := .ref (M.G.gam g)) (pe_glob (gl_ok h).1 (G.fx.fns g F hF).2.1 rfl (gl_ok h).2) (fun _ _ _ _ h => h) (fun _ _ => .fn (by rw [← G.fx.KG]; exact G.fx.fty g F hF)) rfl

/-! ### data as the library has it -/
mutual
theorem At.dp {G : Gb} {A : Addr → Prop} {W : Wd} {K : PySem.W.Frag} : ∀ {n : Nat} {v : V} {d : D}, At G A W v d → d.ok n = true → Dp K W.H v d.py
  | _, _, _, .non, _ => .non
  | _, _, _, .bl, _ => .bl _
  | _, _, _, .int, _ => .int _
  | _, _, _, .str, _ => .str _
  | 0, _, _, .lst e n h, o => by simp [D.ok] at o
  | n + 1, _, _, .lst e _ h, o => .lst (SqL.of e) (Ats.dp h (by simpa [D.ok] using o))
  | 0, _, _, .lsN _ e h, o => by simp [D.ok] at o
  | n + 1, _, _, .lsN _ e h, o => .lst (SqL.of e) (Ats.dp h (by simpa [D.ok] using o))
  | 0, _, _, .tup e n h, o => by simp [D.ok] at o
  | n + 1, _, _, .tup e _ h, o => .tup (SqT.of e) (Ats.dp h (by simpa [D.ok] using o))
  | n, _, _, .dK _ _ _ _, o => by cases n <;> simp [D.ok] at o
  | n, _, _, .dT _ _ _ _, o => by cases n <;> simp [D.ok] at o
  | n, _, _, .obj _ _ _ _ _, o => by cases n <;> simp [D.ok] at o
  | n, _, _, .fn _, o => by cases n <;> simp [D.ok] at o
  | n, _, _, .stm, o => by cases n <;> simp [D.ok] at o
theorem Ats.dp {G : Gb} {A : Addr → Prop} {W : Wd} {K : PySem.W.Frag} : ∀ {n : Nat} {vs : List V} {ds : List D}, Ats G A W vs ds → (∀ d ∈ ds, d.ok n = true) → DpAll K W.H vs (D.pys ds)
  | _, _, _, .nil, _ => .nil
  | n, _, _, .cons h t, o => .cons (At.dp (n := n) h (o _ List.mem_cons_self)) (Ats.dp (n := n) t fun d hd => o d (List.mem_cons_of_mem _ hd))
end
theorem AtB.dp {G : Gb} {A : Addr → Prop} {W : Wd} {K : PySem.W.Frag} {n : Nat} {v : V} {d : D} (h : AtB G A W v d) (o : d.ok n = true) : Dp K W.H v d.py := by
  rcases h with h | ⟨a, vs, xs, rfl, rfl, _, _, _, e, x⟩ | ⟨a, ob, _, _, _, _, _, x⟩
  · exact h.dp o
  · cases n with
    | zero => simp [D.ok] at o
    | succ n => exact .lst (SqL.of e) (Ats.dp x (by simpa [D.ok] using o))
  · exfalso
    cases d <;> first | exact x.elim | (cases n <;> simp [D.ok] at o)
theorem pys_all {p : PyData → Bool} : ∀ {xs : List D}, (∀ d ∈ xs, p d.py = true) → (D.pys xs).all p = true
  | [], _ => rfl
  | x :: xs, h => by
    rw [D.pys, List.all_cons, h x List.mem_cons_self, pys_all fun d hd => h d (List.mem_cons_of_mem _ hd)]
    rfl
theorem canLayAll0_all : ∀ {xs : List PyData}, (∀ d ∈ xs, PyData.canLay0 d = true) → PyData.canLayAll0 xs = true
  | [], _ => by simp only [PyData.canLayAll0]
  | x :: xs, h => by
    simp only [PyData.canLayAll0, h x List.mem_cons_self, canLayAll0_all fun d hd => h d (List.mem_cons_of_mem _ hd), Bool.and_self]
theorem mem_pys : ∀ {xs : List D} {p : PyData}, p ∈ D.pys xs → ∃ d ∈ xs, p = d.py
  | [], _, h => by simp [D.pys] at h
  | x :: xs, p, h => by
    rw [D.pys, List.mem_cons] at h
    rcases h with h | h
    · exact ⟨x, List.mem_cons_self, h⟩
    · obtain ⟨d, h1, h2⟩ := mem_pys h
      exact ⟨d, List.mem_cons_of_mem _ h1, h2⟩
theorem depthAll_le {k : Nat} : ∀ {xs : List PyData}, (∀ d ∈ xs, d.depth ≤ k) → PyData.depthAll xs ≤ k
  | [], _ => by simp [PyData.depthAll]
  | x :: xs, h => by
    have h1 := h x List.mem_cons_self
    have h2 := depthAll_le fun d hd => h d (List.mem_cons_of_mem _ hd)
    simp only [PyData.depthAll]
    omega
theorem ok_lay : ∀ {n : Nat} {d : D}, d.ok n = true → PyData.canLay0 d.py = true ∧ d.py.depth ≤ n + 1
  | n, .non, _ => by simp [D.py, PyData.canLay0, PyData.depth]
  | n, .bl b, _ => by simp [D.py, PyData.canLay0, PyData.depth]
  | n, .int i, _ => by simp [D.py, PyData.canLay0, PyData.depth]
  | n, .str s, h => by
    have : PyData.strOk s = true := by cases n <;> simpa [D.ok] using h
    simp [D.py, PyData.canLay0, PyData.depth, this]
  | 0, .lst k xs, h => by simp [D.ok] at h
  | n + 1, .lst k xs, h => by
    have h : ∀ d ∈ xs, d.ok n = true := by simpa [D.ok] using h
    simp only [D.py, PyData.canLay0, PyData.depth]
    refine ⟨canLayAll0_all fun p hp => ?_, ?_⟩
    · obtain ⟨d, h1, rfl⟩ := mem_pys hp
      exact (ok_lay (h d h1)).1
    · have := depthAll_le (k := n + 1) (xs := D.pys xs) fun p hp => by
        obtain ⟨d, h1, rfl⟩ := mem_pys hp
        exact (ok_lay (h d h1)).2
      omega
  | 0, .tup xs, h => by simp [D.ok] at h
  | n + 1, .tup xs, h => by
    have h : ∀ d ∈ xs, d.ok n = true := by simpa [D.ok] using h
    simp only [D.py, PyData.canLay0, PyData.depth]
    refine ⟨canLayAll0_all fun p hp => ?_, ?_⟩
    · obtain ⟨d, h1, rfl⟩ := mem_pys hp
      exact (ok_lay (h d h1)).1
    · have := depthAll_le (k := n + 1) (xs := D.pys xs) fun p hp => by
        obtain ⟨d, h1, rfl⟩ := mem_pys hp
        exact (ok_lay (h d h1)).2
      omega
  | n, .dK _, h => by cases n <;> simp [D.ok] at h
  | n, .dT _, h => by cases n <;> simp [D.ok] at h
  | n, .obj _ _, h => by cases n <;> simp [D.ok] at h
  | n, .fn _, h => by cases n <;> simp [D.ok] at h
  | n, .stm, h => by cases n <;> simp [D.ok] at h
theorem ok_shaped {n : Nat} {d : D} (h : d.ok n = true) (hn : n ≤ 62) : SeqAt.shaped d.py = true := by
  obtain ⟨h1, h2⟩ := ok_lay h
  unfold SeqAt.shaped
  rw [h1, decide_eq_true (show d.py.depth ≤ 64 by omega)]
  rfl
end
end Q
/-! Q layer, part E: operators, calls, displays. -/
namespace Q
open PySem PySem.Spec L2
section
variable {c : Cx} {M : Pm} {Wx : WX} {pos : Pos} {G : Gb} {A : Addr → Prop} {W W' W1 W2 : Wd}
theorem smax : sizeMax ≤ sizeLine := by rw [sizeLine_eq]; decide
theorem smax_lt : sizeMax < sizeLine := by rw [sizeLine_eq]; decide
theorem AtB.lst {v : V} {k : Nat} {xs : List D} (h : AtB G A W v (.lst k xs)) : ∃ a vs, v = .ref a ∧ W.H a = some (.lst vs) ∧ Ats G A W vs xs := by
  rcases h with h | ⟨a, vs, ys, rfl, e, _, _, _, h1, h2⟩ | ⟨_, _, _, _, _, _, _, x⟩
  · cases h with
    | lst h1 _ h2 => exact ⟨_, _, rfl, h1, h2⟩
    | lsN _ h1 h2 => exact ⟨_, _, rfl, h1, h2⟩
  · cases e
    exact ⟨_, _, rfl, h1, h2⟩
  · exact x.elim
theorem AtB.at {v : V} {d : D} (h : AtB G A W v d) (n : ∀ xs, d ≠ .lst 0 xs) (n2 : d.isD = false := by rfl) : At G A W v d := by
  rcases h with h | ⟨a, vs, ys, rfl, e, _⟩ | ⟨_, _, _, _, _, _, _, x⟩
  · exact h
  · exact absurd e (n ys)
  · rw [x.isD] at n2
    cases n2
theorem AtB.int {v : V} {i : Int} (h : AtB G A W v (.int i)) : v = .int i := by
  cases h.at (fun _ z => nomatch z)
  rfl
theorem AtB.str {v : V} {s : Str} (h : AtB G A W v (.str s)) : v = .str s := by
  cases h.at (fun _ z => nomatch z)
  rfl
theorem dec_str {a b : Str} : decide (V.str a = V.str b) = decide (a = b) := by
  by_cases e : a = b
  · subst e
    rw [decide_eq_true rfl, decide_eq_true rfl]
  · rw [decide_eq_false e, decide_eq_false fun z => e (by injection z)]
theorem AtB.bl {v : V} {i : Bool} (h : AtB G A W v (.bl i)) : v = .bl i := by
  cases h.at (fun _ z => nomatch z)
  rfl
theorem AtB.non {v : V} (h : AtB G A W v .non) : v = .non := by
  cases h.at (fun _ z => nomatch z)
  rfl
theorem AtB.tup {v : V} {xs : List D} (h : AtB G A W v (.tup xs)) : ∃ a vs, v = .ref a ∧ W.H a = some (.tup vs) ∧ Ats G A W vs xs := by
  cases h.at (fun _ z => nomatch z) with
  | tup h1 _ h2 => exact ⟨_, _, rfl, h1, h2⟩
/-- what is not None -/
theorem AtB.nn {v : V} {d : D} (h : AtB G A W v d) (n : d ≠ .non) : v ≠ .non := fun z => by
  subst z
  rcases h with h | ⟨a, vs, ys, e, _⟩ | ⟨_, _, e, _⟩
  · cases h
    exact n rfl
  · cases e
  · cases e

/-- a new list at p -/
theorem fresh_at {p : Addr} {vs : List V} {ds : List D} {n : Nat} (b : Bas G A W) (S : Ste G A W W1 n) (np : W1.H p = none) (h : Ats G A W1 vs ds) :
    ∃ W', W'.H = upd W1.H p (.lst vs) ∧ Ste G A W W' n ∧ At G A W' (.ref p) (.lst 0 ds) ∧ Frs G A W W' (.ref p) (.lst 0 ds) := by
  have nA : ¬ A p := fun z => by
    obtain ⟨o, e, _⟩ := (b.ste S).ain p z
    rw [np] at e
    cases e
  have s2 : Ste G A W1 ⟨W1.iot, upd W1.H p (.lst vs)⟩ n := .lay S.strm S.tabs np
  have st := (b.ste S).stp s2
  refine ⟨⟨W1.iot, upd W1.H p (.lst vs)⟩, rfl, S.trans s2, .lst upd_same nA (h.stp st), fun k xs e => ?_, fun z => nomatch z⟩
  cases e
  refine ⟨p, vs, rfl, S.ext.back (.of np), upd_same, ?_⟩
  have m : Stp A W1 (fun a => A a ∨ a = p) W1 := .more np
  exact (h.stp m).stp (Stp.lay np)
theorem tup_at {p : Addr} {vs : List V} {ds : List D} {n : Nat} (b : Bas G A W) (S : Ste G A W W1 n) (np : W1.H p = none) (h : Ats G A W1 vs ds) :
    ∃ W', W'.H = upd W1.H p (.tup vs) ∧ Ste G A W W' n ∧ At G A W' (.ref p) (.tup ds) := by
  have nA : ¬ A p := fun z => by
    obtain ⟨o, e, _⟩ := (b.ste S).ain p z
    rw [np] at e
    cases e
  have s2 : Ste G A W1 ⟨W1.iot, upd W1.H p (.tup vs)⟩ n := .lay S.strm S.tabs np
  exact ⟨⟨W1.iot, upd W1.H p (.tup vs)⟩, rfl, S.trans s2, .tup upd_same nA (h.stp ((b.ste S).stp s2))⟩
/-- no list: nothing new to be told -/
theorem frs_no {v : V} {d : D} (h : ∀ k xs, d ≠ .lst k xs) (n2 : d.isD = false) : Frs G A W W' v d := ⟨fun k xs e => absurd e (h k xs), fun z => by rw [n2] at z; cases z⟩
theorem relX_at {x : X} {v : V} {d : D} (h : At M.G A W' v d) (f : Frs M.G A W W' v d) : relX M x A W W' v d := ⟨.inl h, fun _ => h, fun _ => f⟩
theorem relX_flat {x : X} {v : V} {d : D} (h : At M.G A W' v d) (f : ∀ k xs, d ≠ .lst k xs) (n2 : d.isD = false := by rfl) : relX M x A W W' v d := relX_at h (frs_no f n2)

theorem sx_neg {a : X} {e : Expr} (ha : PE c e (rdX M Wx a)) : PE c (.UnaryOp .USub e pos) (rdX M Wx (.neg a)) := by
  refine PE.imp (pe_un un_neg ha) fun σ H Q ⟨A₀, W₀, A, W, sl, n, E, Qd, e, R, Xs, hw, k⟩ => ?_
  refine ⟨A₀, W₀, A, W, sl, n, E, _, e, R, Xs, hw, fun x dx W1 n1 S1 r1 q1 => ?_⟩
  cases dx with
  | int i => exact ⟨i, r1.1.int, k _ _ W1 n1 S1 (relX_flat .int (fun _ _ z => nomatch z)) q1⟩
  | _ => exact q1.elim
def opOf : Op2 → Operator
  | .add => .Add
  | .sub => .Sub
  | .mul => .Mult
  | .mod => .Mod
  | .fdiv => .FloorDiv
  | .pow => .Pow
theorem op_fdivB : OpR c (binaryOp .FloorDiv) (rI (fun _ j => fdivOk j) fun i j => .int (i / j)) := fun pins s σ H x y v u Q I rx ry ⟨i, j, e1, e2, h, q⟩ => by
  rcases h.2 with z | z
  · exact op_fdiv pins s σ H x y v u Q I rx ry ⟨i, j, e1, e2, ⟨h.1, z⟩, q⟩
  · exact op_fdivW pins s σ H x y v u Q I rx ry ⟨i, j, e1, e2, ⟨h.1, z⟩, q⟩
theorem op_mulB : OpR c (binaryOp .Mult) (rI mulOk fun i j => .int (i * j)) := fun pins s σ H x y v u Q I rx ry ⟨i, j, e1, e2, h, q⟩ => by
  rcases h with z | z
  · exact op_mul pins s σ H x y v u Q I rx ry ⟨i, j, e1, e2, z, q⟩
  · exact op_mulW pins s σ H x y v u Q I rx ry ⟨i, j, e1, e2, z, q⟩
def rBin : Op2 → R2
  | .add => fun x y H Q => rI0 (fun i j => .int (i + j)) x y H Q ∨ rCat x y H Q
  | .sub => rI0 fun i j => .int (i - j)
  | .mul => fun x y H Q => rI mulOk (fun i j => .int (i * j)) x y H Q ∨ rRep x y H Q
  | .mod => rI (fun _ j => 0 < j) fun i j => .int (i % j)
  | .fdiv => rI (fun _ j => fdivOk j) fun i j => .int (i / j)
  | .pow => rI CPow fun i j => .int (i ^ j.toNat)
theorem op_bin (o : Op2) : OpR c (binaryOp (opOf o)) (rBin o) := by
  cases o
  · exact OpR.or op_add op_cat
  · exact op_sub
  · exact OpR.or op_mulB op_rep
  · exact op_mod
  · exact op_fdivB
  · exact op_pow
theorem Ats.rep {G : Gb} {A : Addr → Prop} {W : Wd} {vs : List V} {ds : List D} (h : Ats G A W vs ds) : ∀ m : Nat, Ats G A W (List.replicate m vs).flatten (List.replicate m ds).flatten
  | 0 => .nil
  | m + 1 => by
    rw [List.replicate_succ, List.replicate_succ, List.flatten_cons, List.flatten_cons]
    exact h.append (h.rep m)
theorem sx_bin {o : Op2} {a b : X} {e f : Expr} (ha : PE c e (rdX M Wx a)) (hb : PE c f (rdX M Wx b)) : PE c (.BinOp e (opOf o) f pos) (rdX M Wx (.bin o a b)) := by
  refine PE.imp (pe_op (op_bin o) ha hb) fun σ H Q ⟨A₀, W₀, A, W, sl, n, E, Qd, e, R, Xs, hw, k⟩ => ?_
  refine ⟨A₀, W₀, A, W, sl, n, E, _, e, R, Xs, hw, fun x dx W1 n1 S1 r1 q1 => ?_⟩
  refine ⟨A₀, W₀, A, W1, sl, n1, E, _, rfl, R.ste S1, Xs.ste S1, q1, fun y dy W2 n2 S2 r2 q2 => ?_⟩
  have S := S1.trans S2
  have x1 := r1.1.ste (R.ste S1).bas S2
  have x2 := r2.1
  have fin : ∀ i, Qd (.int i) n2 → Q (.int i) W2.H := fun i q => k _ _ W2 n2 S (relX_flat .int (fun _ _ z => nomatch z)) q
  have intz : ∀ {C : Int → Int → Prop} {g : Int → Int → Int} {i j : Int}, dx = .int i → dy = .int j → C i j → Qd (.int (g i j)) n2 → rI C (fun i j => .int (g i j)) x y W2.H Q := fun {C g i j} e1 e2 hc q => by
    subst e1 e2
    exact ⟨i, j, x1.int, x2.int, hc, fin _ q⟩
  unfold binW at q2
  split at q2
  · exact .inl ⟨_, _, x1.int, x2.int, fin _ q2⟩
  · obtain ⟨a, vs, rfl, h1, t1⟩ := x1.lst
    obtain ⟨b, ws, rfl, h2, t2⟩ := x2.lst
    refine .inr ⟨a, b, vs, ws, rfl, rfl, h1, h2, ?_, fun p np => ?_⟩
    · rw [t1.length, t2.length]
      exact Nat.le_trans q2.1 smax
    · obtain ⟨W', e, S', at', fr⟩ := fresh_at R.bas S np (t1.append t2)
      rw [← e]
      exact k _ _ W' n2 S' (relX_at at' fr) q2.2
  · exact ⟨_, _, x1.int, x2.int, fin _ q2⟩
  · exact .inl (intz rfl rfl q2.1 q2.2)
  · obtain ⟨m, rfl, hm, hz, q2⟩ := q2
    obtain ⟨a, vs, rfl, h1, t1⟩ := x1.lst
    have e2 := x2.int
    subst e2
    refine .inr ⟨a, (m : Int), vs, rfl, rfl, h1, by omega, by omega, ?_, fun p np => ?_⟩
    · rw [t1.length]
      exact Nat.le_trans hz smax
    · obtain ⟨W', e, S', at', fr⟩ := fresh_at R.bas S np (t1.rep m)
      rw [Int.toNat_natCast, ← e]
      exact k _ _ W' n2 S' (relX_at at' fr) q2
  · exact intz (C := fun _ j => 0 < j) rfl rfl q2.1 q2.2
  · exact intz (C := fun _ j => fdivOk j) rfl rfl q2.1 q2.2
  · exact intz rfl rfl q2.1 q2.2
  · exact q2.elim

/-! ### comparisons -/
def cmOf : Cm → CmpOp
  | .lt => .Lt
  | .le => .LtE
  | .gt => .Gt
  | .ge => .GtE
  | .eq => .Eq
  | .ne => .NotEq
  | .is_ => .Is
  | .isnot => .IsNot
  | .in_ => .In
  | .notin => .NotIn
def rInA (K : PySem.W.Frag) (neg : Bool) : R2 := fun x y H Q => ∃ d ds, Dp K H x d ∧ (Dp K H y (.list ds) ∨ Dp K H y (.tuple ds)) ∧ SeqAt.shaped d = true ∧ SeqAt.shaped (.list ds) = true ∧ Q (.bl (if neg = true then !ds.any fun z => PyData.eqv z d else ds.any fun z => PyData.eqv z d)) H
theorem shaped_tup {ds : List PyData} (h : SeqAt.shaped (.list ds) = true) : PyData.canLayAll0 ds = true := SeqAt.canLay_of_shaped h
theorem op_inA (hu : c.A.units + 65 < cLine) : OpR c (compareOp .In) (rInA c.K false) := by
  intro pins s σ H x y v u Q I rx ry h
  obtain ⟨d, ds, hd, he, sd, se, q⟩ := h
  obtain ⟨as, r1⟩ := Dp.reads I d x v hd rx
  rcases he with he | he
  · obtain ⟨bs, r2⟩ := Dp.reads I (.list ds) y u he ry
    exact SeqAt.in_list_reads r2 r1 (SeqAt.canLay_of_shaped se) (SeqAt.canLay_of_shaped sd) (PyProof.Rows.room_in_shaped sd hu) ⟨.bl _, H, I, rfl, q⟩
  · obtain ⟨bs, r2⟩ := Dp.reads I (.tuple ds) y u he ry
    exact SeqAt.in_tuple_reads r2 r1 (SeqAt.canLay_of_shaped se) (SeqAt.canLay_of_shaped sd) (PyProof.Rows.room_in_shaped sd hu) ⟨.bl _, H, I, rfl, q⟩
theorem op_notInA (hu : c.A.units + 65 < cLine) : OpR c (compareOp .NotIn) (rInA c.K true) := by
  intro pins s σ H x y v u Q I rx ry h
  obtain ⟨d, ds, hd, he, sd, se, q⟩ := h
  obtain ⟨as, r1⟩ := Dp.reads I d x v hd rx
  rcases he with he | he
  · obtain ⟨bs, r2⟩ := Dp.reads I (.list ds) y u he ry
    exact SeqAt.notIn_list_reads r2 r1 (SeqAt.canLay_of_shaped se) (SeqAt.canLay_of_shaped sd) (PyProof.Rows.room_in_shaped sd hu) ⟨.bl _, H, I, rfl, q⟩
  · obtain ⟨bs, r2⟩ := Dp.reads I (.tuple ds) y u he ry
    exact SeqAt.notIn_tuple_reads r2 r1 (SeqAt.canLay_of_shaped se) (SeqAt.canLay_of_shaped sd) (PyProof.Rows.room_in_shaped sd hu) ⟨.bl _, H, I, rfl, q⟩
def rCm (K : PySem.W.Frag) : Cm → R2
  | .lt => rI0 fun i j => .bl (decide (i < j))
  | .le => rI0 fun i j => .bl (decide (i ≤ j))
  | .gt => rI0 fun i j => .bl (decide (j < i))
  | .ge => rI0 fun i j => .bl (decide (j ≤ i))
  | .eq => fun x y H Q => rEqD K x y H Q ∨ rEq x y H Q
  | .ne => fun x y H Q => rNeD K x y H Q ∨ rNe x y H Q
  | .is_ => fun x y H Q => y = .non ∧ Q (.bl (decide (x = .non))) H
  | .isnot => fun x y H Q => y = .non ∧ Q (.bl (!decide (x = .non))) H
  | .in_ => rInA K false
  | .notin => rInA K true
theorem Good.u65 (g : Good c M Wx) : c.A.units + 65 < cLine := by have := g.rm.un; omega
theorem op_cm (g : Good c M Wx) (o : Cm) : OpR c (compareOp (cmOf o)) (rCm c.K o) := by
  have u := g.u65
  cases o
  · exact op_lt
  · exact op_le
  · exact op_gt
  · exact op_ge
  · exact OpR.or (op_eqD (by omega)) op_eq
  · exact OpR.or (op_neD (by omega)) op_ne
  · exact op_isN
  · exact op_notN
  · exact op_inA u
  · exact op_notInA u
theorem any_pys {d : PyData} : ∀ {ys : List D}, ((D.pys ys).any fun z => PyData.eqv z d) = ys.any fun y => PyData.eqv y.py d
  | [] => rfl
  | y :: ys => by rw [D.pys, List.any_cons, List.any_cons, any_pys]
/-- a comparison over data is the reading -/
theorem cm_ok {K : PySem.W.Frag} {o : Cm} {x y : V} {dx dy : D} {Q : VK} {Qd : Bool → Prop} (h1 : AtB G A W x dx) (h2 : AtB G A W y dy) (h : cmpW o dx dy Qd) (q : ∀ b, Qd b → Q (.bl b) W.H) : rCm K o x y W.H Q := by
  have inn : ∀ (neg : Bool), dx.ok 60 = true → (∃ ys, (dy = .tup ys ∨ ∃ k, dy = .lst k ys) ∧ ys.all (D.ok 59) = true ∧ Qd (if neg = true then !inAny dx ys else inAny dx ys)) → rInA K neg x y W.H Q := by
    rintro neg h3 ⟨ys, e, h4, h5⟩
    have ok : (D.lst 0 ys).ok 60 = true := by simpa [D.ok] using h4
    refine ⟨dx.py, D.pys ys, h1.dp h3, ?_, ok_shaped h3 (by omega), ok_shaped (d := .lst 0 ys) ok (by omega), q _ ?_⟩
    · rcases e with rfl | ⟨k, rfl⟩
      · exact .inr (h2.dp (n := 60) (d := .tup ys) (by simpa [D.ok] using h4))
      · exact .inl (h2.dp (n := 60) (d := .lst k ys) (by simpa [D.ok] using h4))
    · rw [any_pys]
      exact h5
  cases o with
  | lt => cases dx <;> cases dy <;> first | exact ⟨_, _, h1.int, h2.int, q _ h⟩ | exact False.elim h
  | le => cases dx <;> cases dy <;> first | exact ⟨_, _, h1.int, h2.int, q _ h⟩ | exact False.elim h
  | gt => cases dx <;> cases dy <;> first | exact ⟨_, _, h1.int, h2.int, q _ h⟩ | exact False.elim h
  | ge => cases dx <;> cases dy <;> first | exact ⟨_, _, h1.int, h2.int, q _ h⟩ | exact False.elim h
  | eq =>
    have key : (dx.ok 60 = true ∧ dy.ok 60 = true ∧ Qd (deq dx dy)) → rCm K .eq x y W.H Q := fun h => .inl ⟨_, _, h1.dp h.1, h2.dp h.2.1, ok_shaped h.1 (by omega), ok_shaped h.2.1 (by omega), q _ h.2.2⟩
    cases dx <;> first
      | exact key h
      | (cases dy <;> first
          | exact key h
          | (refine .inr ⟨?_, ?_⟩ <;> rw [h1.str, h2.str]
             · rfl
             · rw [dec_str]; exact q _ h))
  | ne =>
    have key : (dx.ok 60 = true ∧ dy.ok 60 = true ∧ Qd (!deq dx dy)) → rCm K .ne x y W.H Q := fun h => .inl ⟨_, _, h1.dp h.1, h2.dp h.2.1, ok_shaped h.1 (by omega), ok_shaped h.2.1 (by omega), q _ h.2.2⟩
    cases dx <;> first
      | exact key h
      | (cases dy <;> first
          | exact key h
          | (refine .inr ⟨?_, ?_⟩ <;> rw [h1.str, h2.str]
             · rfl
             · rw [dec_str]; exact q _ h))
  | is_ =>
    cases dy with
    | non =>
      refine ⟨h2.non, ?_⟩
      cases dx with
      | non => rw [h1.non, decide_eq_true rfl]; exact q _ h
      | _ => rw [decide_eq_false (h1.nn (fun z => nomatch z))]; exact q _ h
    | _ => exact False.elim h
  | isnot =>
    cases dy with
    | non =>
      refine ⟨h2.non, ?_⟩
      cases dx with
      | non => rw [h1.non, decide_eq_true rfl]; exact q _ h
      | _ => rw [decide_eq_false (h1.nn (fun z => nomatch z))]; exact q _ h
    | _ => exact False.elim h
  | in_ =>
    obtain ⟨h3, h⟩ := h
    cases dy with
    | lst k ys => exact inn false h3 ⟨ys, .inr ⟨k, rfl⟩, h.1, h.2⟩
    | tup ys => exact inn false h3 ⟨ys, .inl rfl, h.1, h.2⟩
    | _ => exact False.elim h
  | notin =>
    obtain ⟨h3, h⟩ := h
    cases dy with
    | lst k ys => exact inn true h3 ⟨ys, .inr ⟨k, rfl⟩, h.1, h.2⟩
    | tup ys => exact inn true h3 ⟨ys, .inl rfl, h.1, h.2⟩
    | _ => exact False.elim h
theorem cmp_rd {o : Cm} {a b : X} {σ : L2.St} {H : Hp} {Q : VK} {A₀ : Addr → Prop} {W₀ : Wd} {A : Addr → Prop} {W : Wd} {sl : Sl} {n : Nat} {E : Exn} {P : Bool → Nat → Prop} (e : W.H = H) (R : Rep M.G A₀ W₀ A σ W ⟨sl, n⟩) (Xs : XsOk M Wx A W σ E)
    (hw : wX M.Phy E a sl n fun x n => wX M.Phy E b sl n fun y n => cmpW o x y fun d => P d n) (k : ∀ b W' n', Ste M.G A W W' n' → P b n' → Q (.bl b) W'.H) : tOp (rCm c.K o) (rdX M Wx a) (rdX M Wx b) σ H Q := by
  refine ⟨A₀, W₀, A, W, sl, n, E, _, e, R, Xs, hw, fun x dx W1 n1 S1 r1 q1 => ?_⟩
  refine ⟨A₀, W₀, A, W1, sl, n1, E, _, rfl, R.ste S1, Xs.ste S1, q1, fun y dy W2 n2 S2 r2 q2 => ?_⟩
  exact cm_ok (r1.1.ste (R.ste S1).bas S2) r2.1 q2 fun b q => k _ W2 n2 (S1.trans S2) q
theorem sx_cmp (g : Good c M Wx) {o : Cm} {a b : X} {e f : Expr} (ha : PE c e (rdX M Wx a)) (hb : PE c f (rdX M Wx b)) (hm : behindInMarks (cmOf o) f = false) : PE c (.Compare e [cmOf o] [f] pos) (rdX M Wx (.cmp o a b)) :=
  PE.imp (pe_cmpR (op_cm g o) ha hb hm) fun σ H Q ⟨A₀, W₀, A, W, sl, n, E, Qd, e, R, Xs, hw, k⟩ => cmp_rd e R Xs hw fun b W' n' S q => k _ _ W' n' S (relX_flat .bl (fun _ _ z => nomatch z)) q
theorem rdT_val {x : X} (hx : ∀ E ρ n Q, (sem M.Phy x).t E ρ n Q → (sem M.Phy x).v E ρ n fun d n => truW d fun b => Q b n) {σ : L2.St} {H : Hp} {Q : Bool → Hp → Prop} (h : rdT M Wx x σ H Q) :
    rdX M Wx x σ H fun v H' => ∃ d W, W.H = H' ∧ (∃ A, AtB M.G A W v d) ∧ truW d fun b => Q b H' := by
  obtain ⟨A₀, W₀, A, W, sl, n, E, Qd, e, R, Xs, hw, k⟩ := h
  refine ⟨A₀, W₀, A, W, sl, n, E, _, e, R, Xs, hx _ _ _ _ hw, fun v d W' n' S r q => ⟨d, W', rfl, ⟨A, r.1⟩, ?_⟩⟩
  have mono : ∀ {P P' : Bool → Prop}, truW d P → (∀ b, P b → P' b) → truW d P' := fun {P P'} h i => by
    cases d <;> first | exact i _ h | exact h
  exact mono q fun b hb => k b b W' n' S rfl hb
theorem tru_v {K : PySem.W.Frag} {v : V} {d : D} {P : Bool → Prop} (h : AtB G A W v d) (t : truW d P) : ∃ k, TruV K v W.H k ∧ P k := by
  cases d with
  | non => exact ⟨false, by rw [h.non]; rfl, t⟩
  | bl b => exact ⟨b, by rw [h.bl]; rfl, t⟩
  | int i => exact ⟨i != 0, by rw [h.int]; rfl, t⟩
  | lst k xs =>
    obtain ⟨a, vs, rfl, e, x⟩ := h.lst
    refine ⟨_, .inl ⟨vs, SqL.of e, rfl⟩, ?_⟩
    have : vs.isEmpty = xs.isEmpty := by cases x <;> rfl
    rw [this]
    exact t
  | tup xs =>
    obtain ⟨a, vs, rfl, e, x⟩ := h.tup
    refine ⟨_, .inr (.inl ⟨vs, SqT.of e, rfl⟩), ?_⟩
    have : vs.isEmpty = xs.isEmpty := by cases x <;> rfl
    rw [this]
    exact t
  | _ => exact False.elim t
theorem sx_cmpT (g : Good c M Wx) {o : Cm} {a b : X} {e f : Expr} (ha : PE c e (rdX M Wx a)) (hb : PE c f (rdX M Wx b)) (hm : behindInMarks (cmOf o) f = false) : PT c (.Compare e [cmOf o] [f] pos) (rdT M Wx (.cmp o a b)) := by
  exact PT.imp (pt_cmpR (op_cm g o) ha hb hm) fun σ H Q ⟨A₀, W₀, A, W, sl, n, E, Qd, e, R, Xs, hw, k⟩ => cmp_rd e R Xs (P := Qd) hw fun b W' n' S q => ⟨b, rfl, k b b W' n' S rfl q⟩
end
end Q
/-! Q layer, part F: and, or, not, if, subscripts, slices, displays, calls. -/
namespace Q
open PySem PySem.Spec L2
section
variable {c : Cx} {M : Pm} {Wx : WX} {pos : Pos} {G : Gb} {A : Addr → Prop} {W W' W1 W2 : Wd}
/-! ### chains -/
theorem cmp2_rd {o p : Cm} {a b d : X} {σ : L2.St} {H : Hp} {Q : VK} {A₀ : Addr → Prop} {W₀ : Wd} {A : Addr → Prop} {W : Wd} {sl : Sl} {n : Nat} {E : Exn} {P : Bool → Nat → Prop} (e : W.H = H) (R : Rep M.G A₀ W₀ A σ W ⟨sl, n⟩) (Xs : XsOk M Wx A W σ E)
    (hw : wX M.Phy E a sl n fun x n => wX M.Phy E b sl n fun y n => cmpW o x y fun t => if t = true then wX M.Phy E d sl n fun z n => cmpW p y z fun t => P t n else P false n) (k : ∀ b W' n', Ste M.G A W W' n' → P b n' → Q (.bl b) W'.H) :
    tChain (rCm c.K o) (rCm c.K p) (rdX M Wx a) (rdX M Wx b) (rdX M Wx d) σ H Q := by
  refine ⟨A₀, W₀, A, W, sl, n, E, _, e, R, Xs, hw, fun x dx W1 n1 S1 r1 q1 => ?_⟩
  refine ⟨A₀, W₀, A, W1, sl, n1, E, _, rfl, R.ste S1, Xs.ste S1, q1, fun y dy W2 n2 S2 r2 q2 => ?_⟩
  have S := S1.trans S2
  refine cm_ok (r1.1.ste (R.ste S1).bas S2) r2.1 q2 fun t q => ⟨t, rfl, ?_⟩
  cases t with
  | false => exact k _ W2 n2 S q
  | true =>
    refine ⟨A₀, W₀, A, W2, sl, n2, E, _, rfl, R.ste S, Xs.ste S, q, fun z dz W3 n3 S3 r3 q3 => ?_⟩
    exact cm_ok (r2.1.ste (R.ste S).bas S3) r3.1 q3 fun b q => k _ W3 n3 (S.trans S3) q
theorem sx_cmp2 (g : Good c M Wx) {o p : Cm} {a b d : X} {e f h : Expr} (ha : PE c e (rdX M Wx a)) (hb : PE c f (rdX M Wx b)) (hd : PE c h (rdX M Wx d)) (hm : lastMarks [cmOf o, cmOf p] [f, h] = false) :
    PE c (.Compare e [cmOf o, cmOf p] [f, h] pos) (rdX M Wx (.cmp2 o p a b d)) :=
  PE.imp (pe_chain (op_cm g o) (op_cm g p) ha hb hd hm) fun σ H Q ⟨A₀, W₀, A, W, sl, n, E, Qd, e, R, Xs, hw, k⟩ => cmp2_rd e R Xs (P := fun b n => Qd (.bl b) n) hw fun b W' n' S q => k _ _ W' n' S (relX_flat .bl (fun _ _ z => nomatch z)) q
theorem sx_cmp2T (g : Good c M Wx) {o p : Cm} {a b d : X} {e f h : Expr} (ha : PE c e (rdX M Wx a)) (hb : PE c f (rdX M Wx b)) (hd : PE c h (rdX M Wx d)) (hm : lastMarks [cmOf o, cmOf p] [f, h] = false) :
    PT c (.Compare e [cmOf o, cmOf p] [f, h] pos) (rdT M Wx (.cmp2 o p a b d)) :=
  PT.imp (pt_chain (op_cm g o) (op_cm g p) ha hb hd hm) fun σ H Q ⟨A₀, W₀, A, W, sl, n, E, Qd, e, R, Xs, hw, k⟩ => cmp2_rd e R Xs (P := Qd) hw fun b W' n' S q => ⟨b, rfl, k b b W' n' S rfl q⟩
/-- any other test -/
theorem sx_test {x : X} {e : Expr} (h : PE c e (rdX M Wx x)) (ht : ∀ E ρ n Q, (sem M.Phy x).t E ρ n Q = (sem M.Phy x).v E ρ n fun d n => truW d fun b => Q b n)
    (he : ∀ whole, isTrue e c.env whole = (do let v ← whole; standAt e.pos; holding [v] (truthy v))) : PT c e (rdT M Wx x) := by
  refine PT.imp (pt_truth h he) fun σ H Q ⟨A₀, W₀, A, W, sl, n, E, Qd, e, R, Xs, hw, k⟩ => ?_
  refine ⟨A₀, W₀, A, W, sl, n, E, _, e, R, Xs, Eq.mp (ht E sl n Qd) hw, fun v d W' n' S r q => ?_⟩
  obtain ⟨b, t, q⟩ := tru_v (K := c.K) r.1 q
  exact ⟨b, t, k b b W' n' S rfl q⟩

/-! ### and, or, not -/
def boOf : Bool → BoolOp
  | true => .And
  | false => .Or
def rdB (M : Pm) (Wx : WX) (con : Bool) (x : X) : TE := Rg M Wx (fun E => (sem M.Phy x).b con E) (fun A _ W' v d => At M.G A W' v d)
def rdBT (M : Pm) (Wx : WX) (con : Bool) (x : X) : TT := Rg M Wx (fun E => (sem M.Phy x).bt con E) (fun _ _ _ b d => b = d)
theorem sb_one {con : Bool} {a r : X} {e : Expr} (hr : r.isNil = true) (nb : a.isBor = false) (ha : PE c e (rdX M Wx a)) : PE c (.BoolOp (boOf con) [e] pos) (rdB M Wx con (.cons a r)) := by
  refine PE.imp (pe_one ha) fun σ H Q ⟨A₀, W₀, A, W, sl, n, E, Qd, e, R, Xs, hw, k⟩ => ?_
  have hw : (if r.isNil = true then (sem M.Phy a).v E sl n Qd else _) := hw
  rw [if_pos hr] at hw
  exact ⟨A₀, W₀, A, W, sl, n, E, _, e, R, Xs, hw, fun v d W' n' S r q => k v d W' n' S (r.2.1 nb) q⟩
theorem sb_cons {con : Bool} {a r : X} {e e2 : Expr} {es : List Expr} (hr : r.isNil = false) (ha : PE c e (rdX M Wx a)) (hb : PE c (.BoolOp (boOf con) (e2 :: es) pos) (rdB M Wx con r)) :
    PE c (.BoolOp (boOf con) (e :: e2 :: es) pos) (rdB M Wx con (.cons a r)) := by
  have key : ∀ σ H Q, rdB M Wx con (.cons a r) σ H Q → rdX M Wx a σ H fun x H1 => ∃ t, x = .bl t ∧ if t = con then rdB M Wx con r σ H1 Q else Q (.bl t) H1 := by
    rintro σ H Q ⟨A₀, W₀, A, W, sl, n, E, Qd, e, R, Xs, hw, k⟩
    have hw : (if r.isNil = true then (sem M.Phy a).v E sl n Qd else (sem M.Phy a).v E sl n fun x n => blW x fun b => if b = con then (sem M.Phy r).b con E sl n Qd else Qd (.bl b) n) := hw
    rw [if_neg (by rw [hr]; exact Bool.false_ne_true)] at hw
    refine ⟨A₀, W₀, A, W, sl, n, E, _, e, R, Xs, hw, fun v d W1 n1 S1 r1 q => ?_⟩
    cases d with
    | bl b =>
      refine ⟨b, r1.1.bl, ?_⟩
      have q : (if b = con then (sem M.Phy r).b con E sl n1 Qd else Qd (.bl b) n1) := q
      by_cases hb : b = con
      · rw [if_pos hb] at q ⊢
        exact ⟨A₀, W₀, A, W1, sl, n1, E, _, rfl, R.ste S1, Xs.ste S1, q, fun v d W' n' S r q => k v d W' n' (S1.trans S) r q⟩
      · rw [if_neg hb] at q ⊢
        exact k _ _ W1 n1 S1 .bl q
    | _ => exact False.elim q
  cases con with
  | true =>
    refine PE.imp (pe_and ha hb) fun σ H Q h => ?_
    obtain ⟨A₀, W₀, A, W, sl, n, E, Qd, e, R, Xs, hw, k⟩ := key σ H Q h
    refine ⟨A₀, W₀, A, W, sl, n, E, Qd, e, R, Xs, hw, fun v d W' n' S r q => ?_⟩
    obtain ⟨t, e, z⟩ := k v d W' n' S r q
    refine ⟨t, e, ?_⟩
    cases t <;> simpa using z
  | false =>
    refine PE.imp (pe_or ha hb) fun σ H Q h => ?_
    obtain ⟨A₀, W₀, A, W, sl, n, E, Qd, e, R, Xs, hw, k⟩ := key σ H Q h
    refine ⟨A₀, W₀, A, W, sl, n, E, Qd, e, R, Xs, hw, fun v d W' n' S r q => ?_⟩
    obtain ⟨t, e, z⟩ := k v d W' n' S r q
    refine ⟨t, e, ?_⟩
    cases t <;> simpa using z
theorem sx_boo {con : Bool} {xs : X} {e : Expr} (h : PE c e (rdB M Wx con xs)) : PE c e (rdX M Wx (.boo con xs)) :=
  PE.imp h fun σ H Q ⟨A₀, W₀, A, W, sl, n, E, Qd, e, R, Xs, hw, k⟩ => ⟨A₀, W₀, A, W, sl, n, E, Qd, e, R, Xs, hw, fun v d W' n' S r q => k v d W' n' S ⟨.inl r, fun _ => r, fun z => nomatch z⟩ q⟩
theorem sbt_one {con : Bool} {a r : X} {e : Expr} (hr : r.isNil = true) (ha : PT c e (rdT M Wx a)) : PW c (.BoolOp (boOf con) [e] pos) (rdBT M Wx con (.cons a r)) := by
  have key : ∀ σ H Q, rdBT M Wx con (.cons a r) σ H Q → rdT M Wx a σ H Q := by
    rintro σ H Q ⟨A₀, W₀, A, W, sl, n, E, Qd, e, R, Xs, hw, k⟩
    have hw : (if r.isNil = true then (sem M.Phy a).t E sl n Qd else _) := hw
    rw [if_pos hr] at hw
    exact ⟨A₀, W₀, A, W, sl, n, E, _, e, R, Xs, hw, k⟩
  cases con
  · exact ⟨fun whole pins s σ H Q I h => (pw_or1 ha).run whole pins s σ H Q I (key σ H Q h)⟩
  · exact ⟨fun whole pins s σ H Q I h => (pw_and1 ha).run whole pins s σ H Q I (key σ H Q h)⟩
theorem sbt_cons {con : Bool} {a r : X} {e e2 : Expr} {es : List Expr} (hr : r.isNil = false) (ha : PT c e (rdT M Wx a)) (hb : PW c (.BoolOp (boOf con) (e2 :: es) pos) (rdBT M Wx con r)) :
    PW c (.BoolOp (boOf con) (e :: e2 :: es) pos) (rdBT M Wx con (.cons a r)) := by
  have key : ∀ σ H Q, rdBT M Wx con (.cons a r) σ H Q → rdT M Wx a σ H fun t H1 => if t = con then rdBT M Wx con r σ H1 Q else Q t H1 := by
    rintro σ H Q ⟨A₀, W₀, A, W, sl, n, E, Qd, e, R, Xs, hw, k⟩
    have hw : (if r.isNil = true then (sem M.Phy a).t E sl n Qd else (sem M.Phy a).t E sl n fun b n => if b = con then (sem M.Phy r).bt con E sl n Qd else Qd b n) := hw
    rw [if_neg (by rw [hr]; exact Bool.false_ne_true)] at hw
    refine ⟨A₀, W₀, A, W, sl, n, E, _, e, R, Xs, hw, fun b d W1 n1 S1 r1 q => ?_⟩
    cases (show b = d from r1)
    have q : (if b = con then (sem M.Phy r).bt con E sl n1 Qd else Qd b n1) := q
    by_cases hb : b = con
    · rw [if_pos hb] at q ⊢
      exact ⟨A₀, W₀, A, W1, sl, n1, E, _, rfl, R.ste S1, Xs.ste S1, q, fun v d W' n' S r q => k v d W' n' (S1.trans S) r q⟩
    · rw [if_neg hb] at q ⊢
      exact k _ _ W1 n1 S1 rfl q
  cases con with
  | true =>
    refine ⟨fun whole pins s σ H Q I h => (pw_and ha hb).run whole pins s σ H Q I ?_⟩
    obtain ⟨A₀, W₀, A, W, sl, n, E, Qd, e, R, Xs, hw, k⟩ := key σ H Q h
    refine ⟨A₀, W₀, A, W, sl, n, E, Qd, e, R, Xs, hw, fun v d W' n' S r q => ?_⟩
    have z := k v d W' n' S r q
    cases v <;> simpa using z
  | false =>
    refine ⟨fun whole pins s σ H Q I h => (pw_or ha hb).run whole pins s σ H Q I ?_⟩
    obtain ⟨A₀, W₀, A, W, sl, n, E, Qd, e, R, Xs, hw, k⟩ := key σ H Q h
    refine ⟨A₀, W₀, A, W, sl, n, E, Qd, e, R, Xs, hw, fun v d W' n' S r q => ?_⟩
    have z := k v d W' n' S r q
    cases v <;> simpa using z
theorem sx_booT {con : Bool} {xs : X} {e : Expr} (h : PW c e (rdBT M Wx con xs)) : PT c e (rdT M Wx (.boo con xs)) := h.pt
theorem sx_not {a : X} {e : Expr} (ha : PE c e (rdX M Wx a)) : PE c (.UnaryOp .Not e pos) (rdX M Wx (.not_ a)) := by
  refine PE.imp (pe_not ha) fun σ H Q ⟨A₀, W₀, A, W, sl, n, E, Qd, e, R, Xs, hw, k⟩ => ?_
  refine ⟨A₀, W₀, A, W, sl, n, E, _, e, R, Xs, hw, fun v d W' n' S r q => ?_⟩
  cases d with
  | bl b => exact ⟨b, r.1.bl, k _ _ W' n' S (relX_flat .bl (fun _ _ z => nomatch z)) q⟩
  | _ => exact False.elim q
theorem sx_notT {a : X} {e : Expr} (ha : PT c e (rdT M Wx a)) : PT c (.UnaryOp .Not e pos) (rdT M Wx (.not_ a)) := by
  refine PT.imp (pt_not ha) fun σ H Q ⟨A₀, W₀, A, W, sl, n, E, Qd, e, R, Xs, hw, k⟩ => ?_
  refine ⟨A₀, W₀, A, W, sl, n, E, _, e, R, Xs, hw, fun v d W' n' S r q => ?_⟩
  cases (show v = d from r)
  exact k _ _ W' n' S rfl q
theorem sx_ite {t a b : X} {e f h : Expr} (na : a.isBor = false) (nb : b.isBor = false) (ht : PT c e (rdT M Wx t)) (ha : PE c f (rdX M Wx a)) (hb : PE c h (rdX M Wx b)) : PE c (.IfExp e f h pos) (rdX M Wx (.ite t a b)) := by
  refine PE.imp (pe_ifExp ht ha hb) fun σ H Q ⟨A₀, W₀, A, W, sl, n, E, Qd, e, R, Xs, hw, k⟩ => ?_
  refine ⟨A₀, W₀, A, W, sl, n, E, _, e, R, Xs, hw, fun v d W1 n1 S1 r q => ?_⟩
  cases (show v = d from r)
  cases v with
  | true =>
    have q : (if true = true then (sem M.Phy a).v E sl n1 Qd else _) := q
    rw [if_pos rfl] at q
    exact ⟨A₀, W₀, A, W1, sl, n1, E, _, rfl, R.ste S1, Xs.ste S1, q, fun v d W' n' S r q => k v d W' n' (S1.trans S) ⟨r.1, fun _ => r.2.1 na, fun z => nomatch z⟩ q⟩
  | false =>
    have q : (if false = true then _ else (sem M.Phy b).v E sl n1 Qd) := q
    rw [if_neg Bool.false_ne_true] at q
    exact ⟨A₀, W₀, A, W1, sl, n1, E, _, rfl, R.ste S1, Xs.ste S1, q, fun v d W' n' S r q => k v d W' n' (S1.trans S) ⟨r.1, fun _ => r.2.1 nb, fun z => nomatch z⟩ q⟩

/-! ### subscripts, slices -/
theorem atI_of {α : Type} {xs : List α} {i : Int} {d : α} (h : atI xs i = some d) : ∃ j, ixN xs.length i = some j ∧ xs[j]? = some d := by
  unfold atI at h
  cases e : ixN xs.length i with
  | none => rw [e] at h; cases h
  | some j => rw [e] at h; exact ⟨j, rfl, h⟩
theorem atI_V {vs : List V} {ds : List D} {i : Int} {d : D} (h : Ats G A W vs ds) (e : atI ds i = some d) : ∃ v, atI vs i = some v ∧ At G A W v d := by
  obtain ⟨j, e1, e2⟩ := atI_of e
  obtain ⟨v, h1, h2⟩ := h.get e2
  refine ⟨v, ?_, h2⟩
  unfold atI
  rw [h.length, e1]
  exact h1
theorem sx_idx {a b : X} {e f : Expr} (hs : PlainIx f) (ha : PE c e (rdX M Wx a)) (hb : PE c f (rdX M Wx b)) : PE c (.Subscript e f pos) (rdX M Wx (.idx a b)) := by
  refine PE.imp (pe_ix (ix_list.or ix_tup) ha hb hs) fun σ H Q ⟨A₀, W₀, A, W, sl, n, E, Qd, e, R, Xs, hw, k⟩ => ?_
  refine ⟨A₀, W₀, A, W, sl, n, E, _, e, R, Xs, hw, fun x dx W1 n1 S1 r1 q1 => ?_⟩
  refine ⟨A₀, W₀, A, W1, sl, n1, E, _, rfl, R.ste S1, Xs.ste S1, q1, fun y dy W2 n2 S2 r2 q2 => ?_⟩
  have S := S1.trans S2
  have x1 := r1.1.ste (R.ste S1).bas S2
  have x2 := r2.1
  unfold idxW at q2
  split at q2
  · obtain ⟨d, e, q⟩ := q2
    obtain ⟨a, vs, rfl, h1, t1⟩ := x1.lst
    obtain ⟨v, e', h2⟩ := atI_V t1 e
    exact .inl ⟨a, vs, _, v, rfl, x2.int, SqL.of h1, e', k _ _ W2 n2 S ⟨.inl h2, fun _ => h2, fun z => nomatch z⟩ q⟩
  · obtain ⟨d, e, q⟩ := q2
    obtain ⟨a, vs, rfl, h1, t1⟩ := x1.tup
    obtain ⟨v, e', h2⟩ := atI_V t1 e
    exact .inr ⟨a, vs, _, v, rfl, x2.int, SqT.of h1, e', k _ _ W2 n2 S ⟨.inl h2, fun _ => h2, fun z => nomatch z⟩ q⟩
  · exact q2.elim
theorem so_nil : PO c none (rdO M Wx .nil) := ⟨fun pins s σ H Q I h => po_none.run pins s σ H Q I (by
  obtain ⟨A₀, W₀, A, W, sl, n, E, Qd, e, R, Xs, hw, k⟩ := h
  subst e
  exact k none none W n R.refl rfl hw)⟩
theorem so_some {x : X} {e : Expr} (ho : ∀ E ρ n Q, (sem M.Phy x).o E ρ n Q = (sem M.Phy x).v E ρ n fun d n => intW d fun i => Q (some i) n) (h : PE c e (rdX M Wx x)) : PO c (some e) (rdO M Wx x) := ⟨fun pins s σ H Q I hq => (po_some h).run pins s σ H Q I (by
  obtain ⟨A₀, W₀, A, W, sl, n, E, Qd, e, R, Xs, hw, k⟩ := hq
  refine ⟨A₀, W₀, A, W, sl, n, E, _, e, R, Xs, Eq.mp (ho E sl n Qd) hw, fun v d W' n' S r q => ?_⟩
  cases d with
  | int i => exact ⟨i, r.1.int, k _ _ W' n' S rfl q⟩
  | _ => exact False.elim q)⟩
theorem Ats.cut {vs : List V} {ds : List D} (h : Ats G A W vs ds) (lo hi : Option Int) : Ats G A W (cutV vs lo hi) (cutD ds lo hi) := by
  unfold cutV cutD
  rw [h.length]
  exact (h.drop _).take _
theorem cutD_whole {xs : List D} {lo hi : Option Int} (h : HT.sIx xs.length 0 lo = 0 ∧ HT.sIx xs.length xs.length hi = xs.length) : cutD xs lo hi = xs := by
  unfold cutD
  rw [h.1, h.2, List.drop_zero, Nat.sub_zero, List.take_length]
theorem sx_slc {a lo hi : X} {e : Expr} {l h : Option Expr} {p2 : Pos} (ha : PE c e (rdX M Wx a)) (hl : PO c l (rdO M Wx lo)) (hh : PO c h (rdO M Wx hi)) : PE c (.Subscript e (.Slice l h none p2) pos) (rdX M Wx (.slc a lo hi)) := by
  refine PE.imp (pe_slice (SlR.or sl_list sl_tupA) ha hl hh) fun σ H Q ⟨A₀, W₀, A, W, sl, n, E, Qd, e, R, Xs, hw, k⟩ => ?_
  refine ⟨A₀, W₀, A, W, sl, n, E, _, e, R, Xs, hw, fun x dx W1 n1 S1 r1 q1 => ?_⟩
  refine ⟨A₀, W₀, A, W1, sl, n1, E, _, rfl, R.ste S1, Xs.ste S1, q1, fun y dy W2 n2 S2 r2 q2 => ?_⟩
  cases (show y = dy from r2)
  have S := S1.trans S2
  refine ⟨A₀, W₀, A, W2, sl, n2, E, _, rfl, R.ste S, Xs.ste S, q2, fun z dz W3 n3 S3 r3 q3 => ?_⟩
  cases (show z = dz from r3)
  have S' := S.trans S3
  have x1 := (r1.1.ste (R.ste S1).bas S2).ste (R.ste S).bas S3
  unfold slcW at q3
  split at q3
  · obtain ⟨a, vs, rfl, h1, t1⟩ := x1.lst
    refine .inl ⟨a, vs, rfl, SqL.of h1, fun p np => ?_⟩
    obtain ⟨W', e, S'', at', fr⟩ := fresh_at R.bas S' np (t1.cut y z)
    rw [← e]
    exact k _ _ W' n3 S'' (relX_at at' fr) q3
  · obtain ⟨a, vs, rfl, h1, t1⟩ := x1.tup
    refine .inr ⟨a, vs, rfl, SqT.of h1, fun hw => ?_, fun _ p np => ?_⟩
    · have ew : cutD _ y z = _ := cutD_whole (by rw [t1.length] at hw; exact hw)
      rw [ew] at q3
      have at' : At M.G A W3 (.ref a) (.tup _) := x1.at (fun _ z => nomatch z)
      exact k _ _ W3 n3 S' (relX_flat at' (fun _ _ z => nomatch z)) q3
    · obtain ⟨W', e, S'', at'⟩ := tup_at R.bas S' np (t1.cut y z)
      rw [← e]
      exact k _ _ W' n3 S'' (relX_flat at' (fun _ _ z => nomatch z)) q3
  · exact q3.elim

/-! ### displays, arguments -/
theorem sa_nil : PA c [] (rdA M Wx .nil) := PA.imp pa_nil fun σ H Q ⟨A₀, W₀, A, W, sl, n, E, Qd, e, R, Xs, hw, k⟩ => by
  subst e
  exact k [] [] W n R.refl .nil hw
theorem sa_cons {a r : X} {e : Expr} {es : List Expr} (nb : a.isBor = false) (hs : starEach (e :: es) c.env = (false, eval e c.env) :: starEach es c.env) (ha : PE c e (rdX M Wx a)) (hr : PA c es (rdA M Wx r)) : PA c (e :: es) (rdA M Wx (.cons a r)) := by
  refine PA.imp (pa_cons ha hr hs) fun σ H Q ⟨A₀, W₀, A, W, sl, n, E, Qd, e, R, Xs, hw, k⟩ => ?_
  refine ⟨A₀, W₀, A, W, sl, n, E, _, e, R, Xs, hw, fun x dx W1 n1 S1 r1 q1 => ?_⟩
  refine ⟨A₀, W₀, A, W1, sl, n1, E, _, rfl, R.ste S1, Xs.ste S1, q1, fun ys dys W2 n2 S2 r2 q2 => ?_⟩
  exact k _ _ W2 n2 (S1.trans S2) (.cons ((r1.2.1 nb).stp ((R.ste S1).bas.stp S2)) r2) q2
theorem sx_lst {xs : X} {es : List Expr} (h : PA c es (rdA M Wx xs)) : PE c (.List es pos) (rdX M Wx (.lst xs)) := by
  refine PE.imp (pe_lst h) fun σ H Q ⟨A₀, W₀, A, W, sl, n, E, Qd, e, R, Xs, hw, k⟩ => ?_
  refine ⟨A₀, W₀, A, W, sl, n, E, _, e, R, Xs, hw, fun vs ds W1 n1 S1 r1 q1 => ⟨?_, fun p np => ?_⟩⟩
  · rw [Ats.length r1]
    exact Nat.le_trans q1.1 smax
  · obtain ⟨W', e, S', at', fr⟩ := fresh_at R.bas S1 np r1
    rw [← e]
    exact k _ _ W' n1 S' (relX_at at' fr) q1.2
theorem sx_tup {xs : X} {es : List Expr} {j : Nat} (h : PA c es (rdA M Wx xs)) : PE c (.Tuple es j pos) (rdX M Wx (.tup xs)) := by
  refine PE.imp (pe_tup h) fun σ H Q ⟨A₀, W₀, A, W, sl, n, E, Qd, e, R, Xs, hw, k⟩ => ?_
  refine ⟨A₀, W₀, A, W, sl, n, E, _, e, R, Xs, hw, fun vs ds W1 n1 S1 r1 q1 => ⟨?_, fun p np => ?_⟩⟩
  · rw [Ats.length r1]
    exact Nat.le_trans q1.1 smax
  · obtain ⟨W', e, S', at'⟩ := tup_at R.bas S1 np r1
    rw [← e]
    exact k _ _ W' n1 S' (relX_flat at' (fun _ _ z => nomatch z)) q1.2

/-! ### calls -/
theorem Ste.exc {n n' : Nat} (S : Ste M.G A W W1 n) (S' : Ste M.G A W1 W2 n') : Ste M.G A W W2 n' := S.trans S'
/-- what a callee lets out is taken -/
theorem call_rd {g : Nat} {F : Fn} {xs : X} (hF : M.Phy[g]? = some F) {σ : L2.St} {H : Hp} {Q : VK} (h : rdX M Wx (.call g xs) σ H Q) :
    tCallS (spD M F) (WE Wx) (rdA M Wx xs) σ H Q := by
  obtain ⟨A₀, W₀, A, W, sl, n, E, Qd, e, R, Xs, hw, k⟩ := h
  refine ⟨A₀, W₀, A, W, sl, n, E, _, e, R, Xs, hw, fun vs ds W1 n1 S1 r1 q1 => ?_⟩
  have q1 : callW M.Phy g ds n1 Qd E := q1
  unfold callW at q1
  rw [hF] at q1
  have r1 : Ats M.G A W1 vs ds := r1
  refine ⟨by rw [r1.length]; exact q1.1, A, W1, ds, n1, Qd, E, rfl, (R.ste S1).bas, (R.ste S1).strm, (R.ste S1).tabs, r1, q1.2, fun v d W' n' S at' _ q => ?_, fun e W' n' cls dd S x q => ?_⟩
  · exact k v d W' n' (S1.trans S) ⟨.inl at', fun _ => at', fun z => nomatch z⟩ q
  · exact Xs e W' n' cls dd (S1.trans S) x q
theorem Frs.back {n : Nat} {v : V} {d : D} (f : Frs G A W1 W' v d) (S : Ste G A W W1 n) : Frs G A W W' v d := ⟨fun k xs e => by
  obtain ⟨p, vs, e1, np, e2, x⟩ := f.1 k xs e
  exact ⟨p, vs, e1, S.ext.back np, e2, x⟩, fun z => by
  obtain ⟨p, o, e1, np, e2, x⟩ := f.2 z
  exact ⟨p, o, e1, S.ext.back np, e2, x⟩⟩
/-- .. a def that tells a new list, a new dict -/
theorem callF_rd {g : Nat} {F : Fn} {xs : X} (hF : M.Phy[g]? = some F) {σ : L2.St} {H : Hp} {Q : VK} (h : rdX M Wx (.callF g xs) σ H Q) :
    tCallS (spD M F) (WE Wx) (rdA M Wx xs) σ H Q := by
  obtain ⟨A₀, W₀, A, W, sl, n, E, Qd, e, R, Xs, hw, k⟩ := h
  refine ⟨A₀, W₀, A, W, sl, n, E, _, e, R, Xs, hw, fun vs ds W1 n1 S1 r1 q1 => ?_⟩
  have q1 : callFW M.Phy g ds n1 Qd E := q1
  unfold callFW at q1
  rw [hF] at q1
  have r1 : Ats M.G A W1 vs ds := r1
  refine ⟨by rw [r1.length]; exact q1.2.1, A, W1, ds, n1, Qd, E, rfl, (R.ste S1).bas, (R.ste S1).strm, (R.ste S1).tabs, r1, q1.2.2, fun v d W' n' S at' f q => ?_, fun e W' n' cls dd S x q => ?_⟩
  · exact k v d W' n' (S1.trans S) ⟨.inl at', fun _ => at', fun _ => (f q1.1).back S1⟩ q
  · exact Xs e W' n' cls dd (S1.trans S) x q
end
end Q
/-! Q layer, part W: isinstance of a def. -/
namespace Q
open PySem PySem.Spec
open Sem (wp)
theorem fnT_class : typeLookup (.type "function") "__class__" = pure (some (.builtin "object.__class__")) := by
  rw [typeLookup_type, builtinLookup_eq_fast]; kernel_rfl
theorem fnT_own : isSubtype (.type "function") (.type (".".intercalate ("object.__class__".cutAt '.').dropLast)) = pure true := by
  rw [F.owner_object_class, isSubtype_type]; kernel_rfl
theorem fnT_ga : typeLookup (.type "function") "__getattribute__" = pure (some (.builtin "object.__getattribute__")) := by
  rw [typeLookup_type, builtinLookup_eq_fast]; kernel_rfl
theorem fnSlot : PySem.Slot "function" "__getattribute__" "object.__getattribute__" :=
  PySem.Slot.of (owner := "object") (n := "__getattribute__") fnT_ga (by decide +kernel) (by decide +kernel) (by decide +kernel) (by decide +kernel) (by rw [isSubtype_type]; kernel_rfl)
section
variable {prog : Program} {w : World} {A : Around} {E : Value → Shared → Prop} {h : Heap} {g : Array GenState} {d : Drawn} {t : Nat} {os : OsState} {a : Addr} {o : Obj}
theorem fn_get {R : Result → Shared → Prop} (hx : h.get? a = some o) (hc : o.cls = .type "function") (hq : R (.ok (.ret (.type "function"))) ⟨h, g, d, t, os⟩) :
    codeAny (model prog w) A (.call (.builtin "getset_descriptor.__get__") ⟨[.builtin "object.__class__", .ref a, .type "function"], []⟩) R ⟨h, g, d, t, os⟩ := by
  have u1 : (⟨h, g, d, t, os⟩ : Shared).TypeIs (.ref a) "function" := ⟨o, hx, hc⟩
  have u2 : (⟨h, g, d, t, os⟩ : Shared).TypeIs (.builtin "object.__class__") "getset_descriptor" := F.typeOf_object_class
  have u3 := fnT_own
  refine codeAny_call_builtin F.slot_gs_get.plain F.entry_gs_get ?_
  refine F.slot_gs_get.check _ _ _ _ _ _ _ _ u2 (F.args_gs_get _ _ _) ?_
  repeat (any_goals (first | wp_step | assumption))
  refine ⟨Code.quiet_builtin _ (by decide +kernel), ?_⟩
  refine codeAny_builtin F.entry_object_class ?_
  repeat (any_goals (first | wp_step | assumption))
theorem fn_ent {tk : Tok} {Q : Fin → Shared → Prop} (hx : h.get? a = some o) (hc : o.cls = .type "function") (hq : Q (.done (.ret (.type "function"))) ⟨h, g, d, t, os⟩) :
    wpAny (model prog w) A (Builtin.«object.__getattribute__» ⟨[.ref a, .str "__class__" tk], []⟩) Q E ⟨h, g, d, t, os⟩ := by
  have u1 : (⟨h, g, d, t, os⟩ : Shared).TypeIs (.ref a) "function" := ⟨o, hx, hc⟩
  have u2 : (⟨h, g, d, t, os⟩ : Shared).TypeIs (.builtin "object.__class__") "getset_descriptor" := F.typeOf_object_class
  have u3 := fnT_class
  have u4 := F.typeOf_object_class
  have u5 := F.slot_gs_get.lookup
  have u6 := F.slot_gs_set.lookup
  repeat (any_goals (first | wp_step | assumption))
  refine fn_get hx hc ?_
  repeat (any_goals (first | wp_step | assumption))
theorem fn_call {tk : Tok} {R : Result → Shared → Prop} (hx : h.get? a = some o) (hc : o.cls = .type "function") (hq : R (.ok (.ret (.type "function"))) ⟨h, g, d, t, os⟩) :
    codeAny (model prog w) A (.call (.builtin "object.__getattribute__") ⟨[.ref a, .str "__class__" tk], []⟩) R ⟨h, g, d, t, os⟩ := by
  refine codeAny_call_builtin fnSlot.plain F.entry_object_getattribute ?_
  exact fnSlot.check _ _ _ _ _ _ _ _ (show (⟨h, g, d, t, os⟩ : Shared).TypeIs (.ref a) "function" from ⟨o, hx, hc⟩) (F.args_object_getattribute_2 _ _) (fn_ent hx hc hq)
theorem fn_by {tk : Tok} {Q : Value → Shared → Prop} (hx : h.get? a = some o) (hc : o.cls = .type "function") (hq : Q (.type "function") ⟨h, g, d, t, os⟩) : wpAny (model prog w) A (getAttrBy (.ref a) (.str "__class__" tk) false) Q E ⟨h, g, d, t, os⟩ := by
  have u1 : (⟨h, g, d, t, os⟩ : Shared).TypeIs (.ref a) "function" := ⟨o, hx, hc⟩
  have u2 := fnSlot.lookup
  have u3 := fnSlot.bind (.ref a)
  repeat (any_goals (first | wp_step | assumption))
  refine fn_call hx hc ?_
  repeat (any_goals (first | wp_step | assumption))
theorem fn_attr {Q : Option Value → Shared → Prop} (hx : h.get? a = some o) (hc : o.cls = .type "function") (hq : Q (some (.type "function")) ⟨h, g, d, t + 1, os⟩) : wpAny (model prog w) A (getAttr? (.ref a) "__class__") Q E ⟨h, g, d, t, os⟩ := by
  unfold getAttr?
  unfold getAttrBy?
  repeat (any_goals (first | with_reducible apply fn_by hx hc | wp_step | assumption))
end
theorem kitx_fn {K : PySem.W.Frag} {a : Addr} : PySem.W.KitX K (.ref a) (.type "function") (PySem.W.KitAt a "function") :=
  PySem.W.kitx_of PySem.W.kitAt_ty fun {_ _ _ _ _ s} p k => by
    obtain ⟨h, g, d, t, os⟩ := s
    obtain ⟨o, h1, h2⟩ := p
    exact fn_attr h1 h2 k
section
open L2
variable {X : Cx}
/-- isinstance(f, C), f a def -/
def rIsiF (K : PySem.W.Frag) : List V → Hp → VK → Prop := fun xs H Q => ∃ (a : Addr) (c : V) (u : Value) (b : Bool), xs = [.ref a, c] ∧ ClsV c u ∧ PySem.W.typeIn K (.ref a) = some (.type "function") ∧ PySem.W.kitOne K (.type "function") u = some b ∧ Q (.bl b) H
def rIsiTF (K : PySem.W.Frag) : List V → Hp → VK → Prop := fun xs H Q => ∃ (a tp : Addr) (cs : List V) (us : List Value) (b : Bool), xs = [.ref a, .ref tp] ∧ H tp = some (.tup cs) ∧ Paired ClsV cs us ∧ PySem.W.typeIn K (.ref a) = some (.type "function") ∧ PySem.W.kitAny K (.type "function") us = some b ∧ Q (.bl b) H
theorem fn_kit {K : PySem.W.Frag} {a : Addr} {h : Heap} (k : K.In h) (e : PySem.W.typeIn K (.ref a) = some (.type "function")) : PySem.W.KitAt a "function" h := by
  have e : (K.lookup a).map (·.cls) = some (.type "function") := e
  obtain ⟨o, e1, e2⟩ := Option.map_eq_some_iff.mp e
  exact ⟨o, k _ _ e1, e2⟩
theorem cr_isi1 : CallR X (.builtin "isinstance") (fun xs H Q => rIsi X.K xs H Q ∨ rIsiF X.K xs H Q) := by
  intro pins s σ H xs us Q I r h
  rcases h with h | h
  · exact call_isi pins s σ H xs us Q I r h
  · obtain ⟨a, c, u, b, rfl, k, ty, e, q⟩ := h
    obtain ⟨w1, w2, rfl, ra, rc⟩ := vals2 r
    cases (show w1 = Value.ref a from ra)
    have ec := k.eq rc
    subst ec
    refine PySem.W.kia_one kitx_fn I.kIn (fn_kit I.kIn ty) e (fun z => by cases z) fun tk => ?_
    exact ⟨.bl b, H, I.tok tk, rfl, q⟩
theorem cr_isiN : CallR X (.builtin "isinstance") (fun xs H Q => rIsiT X.K xs H Q ∨ rIsiTF X.K xs H Q) := by
  intro pins s σ H xs us Q I r h
  rcases h with h | h
  · exact call_isiT pins s σ H xs us Q I r h
  · obtain ⟨a, tp, cs, ws, b, rfl, hT, k, ty, e, q⟩ := h
    obtain ⟨w1, w2, rfl, ra, rt⟩ := vals2 r
    cases (show w1 = Value.ref a from ra)
    cases (show w2 = Value.ref tp from rt)
    have to : ObjOk X.prog X.w H s.heap tp (.tup cs) := I.hok tp _ hT
    obtain ⟨_, its, rv, o, g1, g2, m, g3⟩ := to
    have ei := ClsV.all k rv
    subst ei
    obtain ⟨oc, od, dt, sl⟩ := o
    simp only at g2 g3
    subst g2 g3
    refine PySem.W.kia_tup kitx_fn I.kIn (fn_kit I.kIn ty) g1 e (fun z => by cases z) fun tk => ?_
    exact ⟨.bl b, H, I.tok tk, rfl, q⟩
end
end Q
/-! Q layer, part G: built-ins, isinstance, fields, calls. -/
namespace Q
open PySem PySem.Spec L2
section
variable {c : Cx} {M : Pm} {Wx : WX} {pos : Pos} {G : Gb} {A : Addr → Prop} {W W' W1 W2 : Wd}
/-! ### argument lists of built-ins: a list of ours may be among them -/
def rdAb (M : Pm) (Wx : WX) (x : X) : TA := Rg M Wx (fun E => wA M.Phy E x) (fun A _ W' vs ds => AtBs M.G A W' vs ds)
theorem AtBs.ste {vs : List V} {ds : List D} {n : Nat} (h : AtBs G A W vs ds) (b : Bas G A W) (s : Ste G A W W1 n) : AtBs G A W1 vs ds := by
  induction h with
  | nil => exact .nil
  | cons h _ ih => exact .cons (h.ste b s) ih
theorem sab_nil : PA c [] (rdAb M Wx .nil) := PA.imp pa_nil fun σ H Q ⟨A₀, W₀, A, W, sl, n, E, Qd, e, R, Xs, hw, k⟩ => by
  subst e
  exact k [] [] W n R.refl .nil hw
theorem sab_cons {a r : X} {e : Expr} {es : List Expr} (hs : starEach (e :: es) c.env = (false, eval e c.env) :: starEach es c.env) (ha : PE c e (rdX M Wx a)) (hr : PA c es (rdAb M Wx r)) : PA c (e :: es) (rdAb M Wx (.cons a r)) := by
  refine PA.imp (pa_cons ha hr hs) fun σ H Q ⟨A₀, W₀, A, W, sl, n, E, Qd, e, R, Xs, hw, k⟩ => ?_
  refine ⟨A₀, W₀, A, W, sl, n, E, _, e, R, Xs, hw, fun x dx W1 n1 S1 r1 q1 => ?_⟩
  refine ⟨A₀, W₀, A, W1, sl, n1, E, _, rfl, R.ste S1, Xs.ste S1, q1, fun ys dys W2 n2 S2 r2 q2 => ?_⟩
  exact k _ _ W2 n2 (S1.trans S2) (.cons (r1.1.ste (R.ste S1).bas S2) r2) q2

/-! ### built-ins by their names -/
def Bi.nm : Bi → Str
  | .len => "len"
  | .all => "all"
  | .any => "any"
  | .sum => "sum"
  | .list => "list"
  | .tuple => "tuple"
  | .abs => "abs"
  | .int => "int"
  | .min => "min"
  | .max => "max"
  | .min2 => "min"
  | .max2 => "max"
  | .bool => "bool"
def Bi.isTy : Bi → Bool
  | .list => true
  | .tuple => true
  | .int => true
  | .bool => true
  | _ => false
def rBi (K : PySem.W.Frag) : Bi → List V → Hp → VK → Prop
  | .len => fun xs H Q => ∃ p ys, xs = [.ref p] ∧ (SqL K H p ys ∨ SqT K H p ys) ∧ Q (.int ys.length) H
  | .all => rAll K
  | .any => rAny K
  | .sum => rSum K
  | .list => fun xs H Q => ∃ p ys, xs = [.ref p] ∧ (SqL K H p ys ∨ SqT K H p ys) ∧ ∀ l, H l = none → Q (.ref l) (upd H l (.lst ys))
  | .tuple => fun xs H Q => ∃ p ys, xs = [.ref p] ∧ ((SqL K H p ys ∧ ∀ l, H l = none → Q (.ref l) (upd H l (.tup ys))) ∨ (SqT K H p ys ∧ Q (.ref p) H))
  | .abs => fun xs H Q => ∃ i, xs = [.int i] ∧ Q (.int (if i < 0 then -i else i)) H
  | .int => fun xs H Q => (∃ i, xs = [.int i] ∧ Q (.int i) H) ∨ ∃ k, xs = [.bl k] ∧ Q (.int (if k then 1 else 0)) H
  | .max2 => fun xs H Q => ∃ i j, xs = [.int i, .int j] ∧ Q (.int (if j > i then j else i)) H
  | .min2 => fun xs H Q => ∃ i j, xs = [.int i, .int j] ∧ Q (.int (if j < i then j else i)) H
  | .min => fun _ _ _ => False
  | .max => fun _ _ _ => False
  | .bool => fun _ _ _ => False
theorem cr_biB (hc : c.calm = true) {b : Bi} (h : b.isTy = false) : ∃ id, bootBuiltins b.nm = some (.builtin id) ∧ CallR c (.builtin id) (rBi c.K b) := by
  cases b with
  | len => exact ⟨"len", by decide +kernel, call_len_seq⟩
  | all => exact ⟨"all", by decide +kernel, cr_all hc⟩
  | any => exact ⟨"any", by decide +kernel, cr_any hc⟩
  | sum => exact ⟨"sum", by decide +kernel, cr_sum hc⟩
  | abs => exact ⟨"abs", by decide +kernel, call_abs⟩
  | max2 => exact ⟨"max", by decide +kernel, call_max2 hc⟩
  | min2 => exact ⟨"min", by decide +kernel, call_min2 hc⟩
  | min => exact ⟨"min", by decide +kernel, fun _ _ _ _ _ _ _ _ _ z => z.elim⟩
  | max => exact ⟨"max", by decide +kernel, fun _ _ _ _ _ _ _ _ _ z => z.elim⟩
  | _ => cases h
theorem cr_biT {b : Bi} (h : b.isTy = true) : ∃ T, bootBuiltins b.nm = some (.type T) ∧ CallR c (.type T) (rBi c.K b) := by
  cases b with
  | list => exact ⟨"list", by decide +kernel, call_list_of⟩
  | tuple => exact ⟨"tuple", by decide +kernel, call_tuple_of⟩
  | int => exact ⟨"int", by decide +kernel, call_int1⟩
  | bool => exact ⟨"bool", by decide +kernel, fun _ _ _ _ _ _ _ _ _ z => z.elim⟩
  | _ => cases h
theorem bi_nm (b : Bi) : b.nm ≠ ("__name__" : Str) ∧ (b.nm == ("__debug__" : Str)) = false := by cases b <;> exact ⟨by decide, by decide⟩
theorem Ats.ints {vs : List V} : ∀ {ds : List D} {ns : List Int}, Ats G A W vs ds → intsOf ds = some ns → vs = ns.map V.int
  | [], ns, .nil, e => by
    have : ns = [] := (Option.some.inj e).symm
    rw [this]
    rfl
  | d :: ds, ns, .cons h t, e => by
    cases d with
    | int i =>
      simp only [intsOf, Option.map_eq_some_iff] at e
      obtain ⟨ms, e1, rfl⟩ := e
      cases h
      rw [List.map_cons, Ats.ints t e1]
    | _ => simp [intsOf] at e
theorem Ats.bls {vs : List V} : ∀ {ds : List D} {ns : List Bool}, Ats G A W vs ds → blsOf ds = some ns → vs = ns.map V.bl
  | [], ns, .nil, e => by
    have : ns = [] := (Option.some.inj e).symm
    rw [this]
    rfl
  | d :: ds, ns, .cons h t, e => by
    cases d with
    | bl i =>
      simp only [blsOf, Option.map_eq_some_iff] at e
      obtain ⟨ms, e1, rfl⟩ := e
      cases h
      rw [List.map_cons, Ats.bls t e1]
    | _ => simp [blsOf] at e
theorem AtBs.one {vs : List V} {d : D} (h : AtBs G A W vs [d]) : ∃ v, vs = [v] ∧ AtB G A W v d := by
  cases h with
  | cons h t => cases t; exact ⟨_, rfl, h⟩
theorem AtBs.two {vs : List V} {d e : D} (h : AtBs G A W vs [d, e]) : ∃ v u, vs = [v, u] ∧ AtB G A W v d ∧ AtB G A W u e := by
  cases h with
  | cons h t => cases t with
    | cons h2 t => cases t; exact ⟨_, _, rfl, h, h2⟩
theorem bi_rd {b : Bi} {xs : X} {K : PySem.W.Frag} {σ : L2.St} {H : Hp} {Q : VK} (h : rdX M Wx (.bi b xs) σ H Q) : rdAb M Wx xs σ H fun vs H1 => rBi K b vs H1 Q := by
  obtain ⟨A₀, W₀, A, W, sl, n, E, Qd, e, R, Xs, hw, k⟩ := h
  refine ⟨A₀, W₀, A, W, sl, n, E, _, e, R, Xs, hw, fun vs ds W1 n1 S1 r1 q1 => ?_⟩
  have r1 : AtBs M.G A W1 vs ds := r1
  have q1 : biW b ds fun d => Qd d n1 := q1
  have ki : ∀ i, Qd (.int i) n1 → Q (.int i) W1.H := fun i q => k _ _ W1 n1 S1 (relX_flat .int (fun _ _ z => nomatch z)) q
  have kb : ∀ i, Qd (.bl i) n1 → Q (.bl i) W1.H := fun i q => k _ _ W1 n1 S1 (relX_flat .bl (fun _ _ z => nomatch z)) q
  unfold biW at q1
  split at q1
  · obtain ⟨v, rfl, h⟩ := r1.one
    obtain ⟨a, ws, rfl, h1, t1⟩ := h.lst
    exact ⟨a, ws, rfl, .inl (SqL.of h1), by rw [t1.length]; exact ki _ q1⟩
  · obtain ⟨v, rfl, h⟩ := r1.one
    obtain ⟨a, ws, rfl, h1, t1⟩ := h.tup
    exact ⟨a, ws, rfl, .inr (SqT.of h1), by rw [t1.length]; exact ki _ q1⟩
  · obtain ⟨v, rfl, h⟩ := r1.one
    obtain ⟨a, ws, rfl, h1, t1⟩ := h.lst
    obtain ⟨bs, e1, q⟩ := q1
    have e2 := t1.bls e1
    subst e2
    exact ⟨a, bs, rfl, SqL.of h1, kb _ q⟩
  · obtain ⟨v, rfl, h⟩ := r1.one
    obtain ⟨a, ws, rfl, h1, t1⟩ := h.lst
    obtain ⟨bs, e1, q⟩ := q1
    have e2 := t1.bls e1
    subst e2
    exact ⟨a, bs, rfl, SqL.of h1, kb _ q⟩
  · obtain ⟨v, rfl, h⟩ := r1.one
    obtain ⟨a, ws, rfl, h1, t1⟩ := h.lst
    obtain ⟨bs, e1, q⟩ := q1
    have e2 := t1.ints e1
    subst e2
    exact ⟨a, bs, rfl, SqL.of h1, ki _ q⟩
  · obtain ⟨v, rfl, h⟩ := r1.one
    obtain ⟨a, ws, rfl, h1, t1⟩ := h.lst
    refine ⟨a, ws, rfl, .inl (SqL.of h1), fun p np => ?_⟩
    obtain ⟨W', e, S', at', fr⟩ := fresh_at R.bas S1 np t1
    rw [← e]
    exact k _ _ W' n1 S' (relX_at at' fr) q1
  · obtain ⟨v, rfl, h⟩ := r1.one
    obtain ⟨a, ws, rfl, h1, t1⟩ := h.tup
    refine ⟨a, ws, rfl, .inr (SqT.of h1), fun p np => ?_⟩
    obtain ⟨W', e, S', at', fr⟩ := fresh_at R.bas S1 np t1
    rw [← e]
    exact k _ _ W' n1 S' (relX_at at' fr) q1
  · obtain ⟨v, rfl, h⟩ := r1.one
    obtain ⟨a, ws, rfl, h1, t1⟩ := h.lst
    refine ⟨a, ws, rfl, .inl ⟨SqL.of h1, fun p np => ?_⟩⟩
    obtain ⟨W', e, S', at'⟩ := tup_at R.bas S1 np t1
    rw [← e]
    exact k _ _ W' n1 S' (relX_flat at' (fun _ _ z => nomatch z)) q1
  · obtain ⟨v, rfl, h⟩ := r1.one
    have at' := h.at (fun _ z => nomatch z)
    obtain ⟨a, ws, rfl, h1, t1⟩ := h.tup
    exact ⟨a, ws, rfl, .inr ⟨SqT.of h1, k _ _ W1 n1 S1 (relX_flat at' (fun _ _ z => nomatch z)) q1⟩⟩
  · obtain ⟨v, rfl, h⟩ := r1.one
    exact ⟨_, by rw [h.int], ki _ q1⟩
  · obtain ⟨v, rfl, h⟩ := r1.one
    exact .inl ⟨_, by rw [h.int], ki _ q1⟩
  · obtain ⟨v, rfl, h⟩ := r1.one
    exact .inr ⟨_, by rw [h.bl], ki _ q1⟩
  · obtain ⟨v, u, rfl, h1, h2⟩ := r1.two
    exact ⟨_, _, by rw [h1.int, h2.int], ki _ q1⟩
  · obtain ⟨v, u, rfl, h1, h2⟩ := r1.two
    exact ⟨_, _, by rw [h1.int, h2.int], ki _ q1⟩
  · exact q1.elim
theorem sx_bi (g : Good c M Wx) {b : Bi} {xs : X} {e : Expr} {es : List Expr} {p : Pos} (hb : b.nm ∈ M.bs) (hg : Gl c b.nm) (ha : PA c (e :: es) (rdAb M Wx xs)) (he : starEach (e :: es) c.env = (false, eval e c.env) :: starEach es c.env)
    (hpl : (backTo pos (starEach es c.env)).any (·.1) = false) : PE c (.Call (.Name b.nm p) (e :: es) [] pos) (rdX M Wx (.bi b xs)) := by
  have hm := g.fx.bs _ hb
  cases ht : b.isTy with
  | false =>
    obtain ⟨id, hv, cr⟩ := cr_biB g.calm ht
    exact PE.imp (pe_callB cr hg hm hv ha (bi_nm b).1 (bi_nm b).2 he hpl) fun σ H Q h => bi_rd h
  | true =>
    obtain ⟨id, hv, cr⟩ := cr_biT (c := c) ht
    exact PE.imp (pe_callTy cr hg hm hv ha (bi_nm b).1 (bi_nm b).2 he hpl) fun σ H Q h => bi_rd h

/-! ### isinstance -/
def dTy (G : Gb) : D → Value
  | .non => .type "NoneType"
  | .bl _ => .type "bool"
  | .int _ => .type "int"
  | .str _ => .type "str"
  | .lst _ _ => .type "list"
  | .tup _ => .type "tuple"
  | .dK _ => .type "dict"
  | .dT _ => .type "dict"
  | .obj k _ => .ref (G.kap k)
  | _ => .none
theorem AtB.ty {K : PySem.W.Frag} {P : Program} {w : World} {mg : Str → Option Value} {base : Heap} {v : V} {d : D} (f : Fx P w K mg base M) (h : AtB M.G A W v d) (n : ∀ g, d ≠ .fn g) (n2 : d ≠ .stm) (n3 : ∀ k, d ≠ .dT k) : TyX K W.H v (dTy M.G d) := by
  have key : At M.G A W v d → TyX K W.H v (dTy M.G d) := fun h => by
    cases h with
    | non => exact .base .non
    | bl => exact .base (.bl _)
    | int => exact .base (.int _)
    | str => exact .base (.str _)
    | lst e _ _ => exact .base (.lst e)
    | lsN _ e _ => exact .base (.lst e)
    | tup e _ _ => exact .base (.tup e)
    | dK e _ _ _ =>
      rcases e with e | ⟨o, e⟩
      · exact .base (.dK e)
      · exact .fDict e
    | dT e _ _ _ => exact absurd rfl (n3 _)
    | obj z e _ _ _ =>
      have q := f.cls _ z
      exact .base (.ins e q.cls q.ha q.hn q.htk q.hm)
    | fn => exact absurd rfl (n _)
    | stm => exact absurd rfl n2
  rcases h with h | ⟨a, vs, xs, rfl, rfl, _, _, _, e, _⟩ | ⟨a, o, rfl, _, _, _, e, x⟩
  · exact key h
  · exact .base (.lst e)
  · cases d with
    | dK xs =>
      obtain ⟨kvs, rfl, _⟩ := x
      exact .base (.dK e)
    | dT xs => exact absurd rfl (n3 _)
    | _ => exact x.elim
theorem kit_d {K : PySem.W.Frag} {P : Program} {w : World} {mg : Str → Option Value} {base : Heap} {d : D} {u : Ty} (f : Fx P w K mg base M) (n : ∀ g, d ≠ .fn g) (n2 : d ≠ .stm) (ho : ∀ k fs, d = .obj k fs → k ∈ M.G.cl) (hu : ∀ k, u = .cls k → k ∈ M.G.cl) :
    PySem.W.kitOne K (dTy M.G d) (tyV M.G u) = some (d.isT u) := by
  cases d with
  | fn g => exact absurd rfl (n g)
  | stm => exact absurd rfl n2
  | obj k fs =>
    have q := (f.cls k (ho k fs rfl)).kit u hu
    have e : decide (u = .cls k) = (D.obj k fs).isT u := by
      cases u <;> first | rfl | (rename_i j; show decide (Ty.cls j = .cls k) = (j == k); by_cases h : j = k <;> simp [h])
    rw [e] at q
    exact q
  | non => cases u with
    | cls k => exact (f.cls k (hu k rfl)).kib "NoneType" (by simp)
    | _ => first | exact kit_ty (r := true) (by decide +kernel) | exact kit_ty (r := false) (by decide +kernel)
  | bl _ => cases u with
    | cls k => exact (f.cls k (hu k rfl)).kib "bool" (by simp)
    | _ => first | exact kit_ty (r := true) (by decide +kernel) | exact kit_ty (r := false) (by decide +kernel)
  | int _ => cases u with
    | cls k => exact (f.cls k (hu k rfl)).kib "int" (by simp)
    | _ => first | exact kit_ty (r := true) (by decide +kernel) | exact kit_ty (r := false) (by decide +kernel)
  | str _ => cases u with
    | cls k => exact (f.cls k (hu k rfl)).kib "str" (by simp)
    | _ => first | exact kit_ty (r := true) (by decide +kernel) | exact kit_ty (r := false) (by decide +kernel)
  | lst _ _ => cases u with
    | cls k => exact (f.cls k (hu k rfl)).kib "list" (by simp)
    | _ => first | exact kit_ty (r := true) (by decide +kernel) | exact kit_ty (r := false) (by decide +kernel)
  | tup _ => cases u with
    | cls k => exact (f.cls k (hu k rfl)).kib "tuple" (by simp)
    | _ => first | exact kit_ty (r := true) (by decide +kernel) | exact kit_ty (r := false) (by decide +kernel)
  | dK _ => cases u with
    | cls k => exact (f.cls k (hu k rfl)).kib "dict" (by simp)
    | _ => first | exact kit_ty (r := true) (by decide +kernel) | exact kit_ty (r := false) (by decide +kernel)
  | dT _ => cases u with
    | cls k => exact (f.cls k (hu k rfl)).kib "dict" (by simp)
    | _ => first | exact kit_ty (r := true) (by decide +kernel) | exact kit_ty (r := false) (by decide +kernel)
theorem AtB.cl {v : V} {d : D} (h : AtB M.G A W v d) : ∀ k fs, d = .obj k fs → k ∈ M.G.cl := fun k fs e => by
  subst e
  rcases h with h | ⟨_, _, _, _, e, _⟩ | ⟨_, _, _, _, _, _, _, x⟩
  · cases h with
    | obj z _ _ _ _ => exact z
  · cases e
  · exact x.elim
theorem ist_rd {d : D} {ts : List Ty} {Q : Bool → Prop} (h : istW d ts Q) (nf : ∀ g, d ≠ .fn g) : d ≠ .stm ∧ (∀ k, d ≠ .dT k) ∧ Q (ts.any fun t => d.isT t) := by
  cases d <;> first | exact False.elim h | exact ⟨(fun z => nomatch z), (fun _ z => nomatch z), h⟩ | exact absurd rfl (nf _)
theorem kit_fn {K : PySem.W.Frag} {g : Nat} {u : Ty} (h : u.blt = true) : PySem.W.kitOne K (.type "function") (tyV M.G u) = some (D.isT u (.fn g)) := by
  cases u with
  | cls k => cases h
  | _ => exact kit_ty (r := false) (by decide +kernel)
theorem kit_fns {K : PySem.W.Frag} {g : Nat} : ∀ {ts : List Ty}, ts.all Ty.blt = true → PySem.W.kitAny K (.type "function") (ts.map (tyV M.G)) = some (ts.any fun t => D.isT t (.fn g))
  | [], _ => rfl
  | u :: ts, h => by
    rw [List.all_cons, Bool.and_eq_true] at h
    rw [List.map_cons, List.any_cons]
    refine kitAny_cons (kit_fn (g := g) h.1) (fun hb => ?_) fun hb => ?_
    · rw [hb, Bool.false_or]
      exact kit_fns h.2
    · rw [hb, Bool.true_or]
theorem AtB.fn {v : V} {g : Nat} (h : AtB M.G A W v (.fn g)) : v = .ref (M.G.gam g) ∧ PySem.W.typeIn M.G.K (.ref (M.G.gam g)) = some (.type "function") := by
  rcases h with h | ⟨_, _, _, _, e, _⟩ | ⟨_, _, _, _, _, _, _, x⟩
  · cases h with
    | fn h => exact ⟨rfl, h⟩
  · cases e
  · exact x.elim
/-- a class by its name -/
def Ty.nm (cn : Nat → Str) : Ty → Str
  | .int => "int"
  | .bool => "bool"
  | .str => "str"
  | .list => "list"
  | .tuple => "tuple"
  | .dict => "dict"
  | .cls c => cn c
def tyT (G : Gb) : Ty → V
  | .int => .ty "int"
  | .bool => .ty "bool"
  | .str => .ty "str"
  | .list => .ty "list"
  | .tuple => .ty "tuple"
  | .dict => .ty "dict"
  | .cls c => .ref (G.kap c)
theorem tyT_ok (u : Ty) : ClsV (tyT G u) (tyV G u) := by cases u <;> first | exact .ty _ | exact .own _
/-- a class named -/
structure TyN (c : Cx) (G : Gb) (e : Expr) (u : Ty) : Prop where
  pe : PE c e (tC (tyT G u))
  cl : ∀ k, u = .cls k → k ∈ G.cl
theorem kit_any {K : PySem.W.Frag} {P : Program} {w : World} {mg : Str → Option Value} {base : Heap} {d : D} (f : Fx P w K mg base M) (n : ∀ g, d ≠ .fn g) (n2 : d ≠ .stm) (ho : ∀ k fs, d = .obj k fs → k ∈ M.G.cl) :
    ∀ {ts : List Ty}, (∀ u ∈ ts, ∀ k, u = .cls k → k ∈ M.G.cl) → PySem.W.kitAny K (dTy M.G d) (ts.map (tyV M.G)) = some (ts.any fun t => d.isT t)
  | [], _ => rfl
  | u :: ts, h => by
    rw [List.map_cons, List.any_cons]
    refine kitAny_cons (kit_d f n n2 ho (h u List.mem_cons_self)) (fun hb => ?_) fun hb => ?_
    · rw [hb, Bool.false_or]
      exact kit_any f n n2 ho fun u hu => h u (List.mem_cons_of_mem _ hu)
    · rw [hb, Bool.true_or]
theorem sx_ist1 (g : Good c M Wx) {a : X} {u : Ty} {e t : Expr} {p : Pos} (hb : ("isinstance" : Str) ∈ M.bs) (hg : Gl c "isinstance") (ha : PE c e (rdX M Wx a)) (ht : TyN c M.G t u) (he : starEach (e :: [t]) c.env = (false, eval e c.env) :: starEach [t] c.env)
    (he2 : starEach (t :: []) c.env = (false, eval t c.env) :: starEach [] c.env) : PE c (.Call (.Name "isinstance" p) [e, t] [] pos) (rdX M Wx (.ist a [u] true)) := by
  refine PE.imp (pe_callB cr_isi1 hg (g.fx.bs _ hb) (by decide +kernel) (pa_cons ha (pa_cons ht.pe pa_nil he2) he) (by decide) (by decide) he (by rw [he2]; rfl)) fun σ H Q ⟨A₀, W₀, A, W, sl, n, E, Qd, e, R, Xs, hw, k⟩ => ?_
  refine ⟨A₀, W₀, A, W, sl, n, E, _, e, R, Xs, hw, fun x dx W1 n1 S1 r1 q1 => ?_⟩
  by_cases hf : ∃ f, dx = .fn f
  · obtain ⟨f, rfl⟩ := hf
    obtain ⟨rfl, ty⟩ := r1.1.fn
    obtain ⟨hb, q⟩ := (show [u].all Ty.blt = true ∧ _ from q1)
    have hb : u.blt = true := by simpa using hb
    refine .inr ⟨_, tyT M.G u, tyV M.G u, (D.fn f).isT u, rfl, tyT_ok u, by rw [g.fx.KG]; exact ty, kit_fn hb, ?_⟩
    have q : Qd (.bl ((D.fn f).isT u)) n1 := by simpa using q
    exact k _ _ W1 n1 S1 (relX_flat .bl (fun _ _ z => nomatch z)) q
  have z1 : ∀ f, dx ≠ .fn f := fun f e => hf ⟨f, e⟩
  obtain ⟨z2, z3, q⟩ := ist_rd q1 z1
  refine .inl ⟨x, tyT M.G u, dTy M.G dx, tyV M.G u, dx.isT u, rfl, tyT_ok u, r1.1.ty g.fx z1 z2 z3, kit_d g.fx z1 z2 r1.1.cl ht.cl, ?_⟩
  have q : Qd (.bl (dx.isT u)) n1 := by simpa using q
  exact k _ _ W1 n1 S1 (relX_flat .bl (fun _ _ z => nomatch z)) q
/-- classes named, in a row -/
inductive TyNs (c : Cx) (G : Gb) : List Expr → List Ty → Prop
  | nil : TyNs c G [] []
  | cons {e u es us} : TyN c G e u → starEach (e :: es) c.env = (false, eval e c.env) :: starEach es c.env → TyNs c G es us → TyNs c G (e :: es) (u :: us)
theorem TyNs.pa {es : List Expr} {us : List Ty} (h : TyNs c G es us) : PA c es (fun _ H Q => Q (us.map (tyT G)) H) := by
  induction h with
  | nil => exact PA.imp pa_nil fun σ H Q h => h
  | cons h1 h2 _ ih => exact PA.imp (pa_cons h1.pe ih h2) fun σ H Q h => h
theorem TyNs.cl {es : List Expr} {us : List Ty} (h : TyNs c G es us) : ∀ u ∈ us, ∀ k, u = .cls k → k ∈ G.cl := by
  induction h with
  | nil => intro u hu; cases hu
  | cons h1 _ _ ih =>
    intro u hu
    rcases List.mem_cons.mp hu with rfl | hu
    · exact h1.cl
    · exact ih u hu
theorem tyT_all : ∀ (us : List Ty), Paired ClsV (us.map (tyT G)) (us.map (tyV G))
  | [] => .nil
  | u :: us => .cons (tyT_ok u) (tyT_all us)
theorem sx_istN (g : Good c M Wx) {a : X} {us : List Ty} {e : Expr} {ts : List Expr} {p tp : Pos} {j : Nat} (hb : ("isinstance" : Str) ∈ M.bs) (hg : Gl c "isinstance") (hz : us.length ≤ sizeMax) (ha : PE c e (rdX M Wx a)) (ht : TyNs c M.G ts us)
    (he : starEach (e :: [.Tuple ts j tp]) c.env = (false, eval e c.env) :: starEach [.Tuple ts j tp] c.env) : PE c (.Call (.Name "isinstance" p) [e, .Tuple ts j tp] [] pos) (rdX M Wx (.ist a us false)) := by
  refine PE.imp (pe_callB cr_isiN hg (g.fx.bs _ hb) (by decide +kernel) (pa_cons ha (pa_cons (pe_tup ht.pa) pa_nil rfl) he) (by decide) (by decide) he rfl) fun σ H Q ⟨A₀, W₀, A, W, sl, n, E, Qd, e, R, Xs, hw, k⟩ => ?_
  refine ⟨A₀, W₀, A, W, sl, n, E, _, e, R, Xs, hw, fun x dx W1 n1 S1 r1 q1 => ?_⟩
  refine ⟨by rw [List.length_map]; exact Nat.le_trans hz smax, fun p np => ?_⟩
  have s2 : Ste M.G A W1 ⟨W1.iot, upd W1.H p (.tup (us.map (tyT M.G)))⟩ n1 := .lay S1.strm S1.tabs np
  by_cases hf : ∃ f, dx = .fn f
  · obtain ⟨f, rfl⟩ := hf
    obtain ⟨rfl, ty⟩ := r1.1.fn
    obtain ⟨hb, q⟩ := (show us.all Ty.blt = true ∧ _ from q1)
    refine .inr ⟨_, p, us.map (tyT M.G), us.map (tyV M.G), _, rfl, upd_same, tyT_all us, by rw [g.fx.KG]; exact ty, kit_fns (g := f) hb, ?_⟩
    exact k _ _ _ n1 (S1.trans s2) (relX_flat .bl (fun _ _ z => nomatch z)) q
  have z1 : ∀ f, dx ≠ .fn f := fun f e => hf ⟨f, e⟩
  obtain ⟨z2, z3, q⟩ := ist_rd q1 z1
  refine .inl ⟨x, p, us.map (tyT M.G), dTy M.G dx, us.map (tyV M.G), _, rfl, upd_same, tyT_all us, (r1.1.ste (R.ste S1).bas s2).ty g.fx z1 z2 z3, kit_any g.fx z1 z2 r1.1.cl ht.cl, ?_⟩
  exact k _ _ _ n1 (S1.trans s2) (relX_flat .bl (fun _ _ z => nomatch z)) q

/-! ### fields, calls -/
theorem lookup_zip {f : Nat} : ∀ {fs : List (Str × V)} {nm : Str} {v : V}, fs[f]? = some (nm, v) → (fs.map Prod.fst).Nodup → fs.lookup nm = some v := by
  induction f with
  | zero =>
    intro fs nm v h _
    cases fs with
    | nil => cases h
    | cons p r =>
      have : p = (nm, v) := Option.some.inj h
      subst this
      simp [List.lookup]
  | succ f ih =>
    intro fs nm v h nd
    cases fs with
    | nil => cases h
    | cons p r =>
      have h : r[f]? = some (nm, v) := h
      rw [List.map_cons, List.nodup_cons] at nd
      have ne : nm ≠ p.1 := fun z => nd.1 (by
        rw [← z]
        exact List.mem_map.mpr ⟨(nm, v), List.mem_of_getElem? h, rfl⟩)
      have := ih h nd.2
      obtain ⟨p1, p2⟩ := p
      simp only [List.lookup]
      rw [show (nm == p1) = false from beq_eq_false_iff_ne.mpr ne]
      exact this
theorem sx_fld (g : Good c M Wx) {k f : Nat} {a : X} {e : Expr} {nm : Str} (hk : k ∈ M.G.cl) (hf : (M.G.nm k)[f]? = some nm) (hb : attributeBase e nm c.env (eval e c.env) = eval e c.env) (ha : PE c e (rdX M Wx a)) : PE c (.Attribute e nm pos) (rdX M Wx (.fld k f a)) := by
  refine PE.imp (pe_fld ha hb) fun σ H Q ⟨A₀, W₀, A, W, sl, n, E, Qd, e, R, Xs, hw, kk⟩ => ?_
  refine ⟨A₀, W₀, A, W, sl, n, E, _, e, R, Xs, hw, fun x dx W1 n1 S1 r1 q1 => ?_⟩
  cases dx with
  | obj k' ds =>
    obtain ⟨rfl, d, e1, q⟩ := q1
    have h := r1.1.at (fun _ z => nomatch z)
    cases h with
    | @obj a dx fs _ _ z e2 _ e3 t =>
      obtain ⟨v, h1, h2⟩ := t.get e1
      have q' := g.fx.cls _ hk
      have e4 : (fs.map Prod.fst)[f]? = some nm := by rw [e3]; exact hf
      have e5 : fs[f]? = some (nm, v) := by
        rw [List.getElem?_map] at h1 e4
        cases e6 : fs[f]? with
        | none => rw [e6] at h1; cases h1
        | some p =>
          rw [e6] at h1 e4
          obtain ⟨p1, p2⟩ := p
          have h1 : p2 = v := Option.some.inj h1
          have e4 : p1 = nm := Option.some.inj e4
          rw [h1, e4]
      refine ⟨_, _, _, _, v, rfl, e2, q'.cls, q'.noat nm (List.mem_of_getElem? hf), lookup_zip e5 (by rw [e3]; exact q'.nd), ?_⟩
      exact kk _ _ W1 n1 S1 ⟨.inl h2, fun _ => h2, fun z => nomatch z⟩ q
  | _ => exact False.elim q1
theorem sx_call (g : Good c M Wx) {i : Nat} {F : Fn} {xs : X} {e : Expr} {es : List Expr} {p : Pos} (hF : (M.Phy.take M.nf)[i]? = some F) (hg : Gl c F.name) (hd : (F.name == ("__debug__" : Str)) = false)
    (ha : PA c (e :: es) (rdA M Wx xs)) (he : starEach (e :: es) c.env = (false, eval e c.env) :: starEach es c.env) (hpl : (backTo pos (starEach es c.env)).any (·.1) = false) : PE c (.Call (.Name F.name p) (e :: es) [] pos) (rdX M Wx (.call i xs)) := by
  obtain ⟨h1, h2, h3, h4⟩ := g.fx.fns i F hF
  exact PE.imp (pe_callS h1 g.rm hg h2 h3 h4 (passAt g.tk) ha hd he hpl) fun σ H Q h => call_rd (take_get hF) h
theorem sx_callF (g : Good c M Wx) {i : Nat} {F : Fn} {xs : X} {e : Expr} {es : List Expr} {p : Pos} (hF : (M.Phy.take M.nf)[i]? = some F) (hg : Gl c F.name) (hd : (F.name == ("__debug__" : Str)) = false)
    (ha : PA c (e :: es) (rdA M Wx xs)) (he : starEach (e :: es) c.env = (false, eval e c.env) :: starEach es c.env) (hpl : (backTo pos (starEach es c.env)).any (·.1) = false) : PE c (.Call (.Name F.name p) (e :: es) [] pos) (rdX M Wx (.callF i xs)) := by
  obtain ⟨h1, h2, h3, h4⟩ := g.fx.fns i F hF
  exact PE.imp (pe_callS h1 g.rm hg h2 h3 h4 (passAt g.tk) ha hd he hpl) fun σ H Q h => callF_rd (take_get hF) h
/-- a local name that holds a def is called -/
theorem pe_locS {CX : CXT} {kd i : Nat} {f : Addr} {fd : FuncData} {ps : List Str} {sp : Sp} {Es : L2.St → XK} {x : Str} {p : Pos} {e : Expr} {es : List Expr} {t : TA} (F : FnOk c.prog c.w c.K c.mg c.base CX kd f fd ps sp) (hr : Room kd c.A) (hN : c.N[i]? = some x) (hv : Vis c.env.scope x)
    (hk : PySem.W.keepIn c.K (.ref f) = true) (hb : Binds c.K fd ps []) (hx : ∀ σ, PassesAt CX c σ (Es σ)) (ha : PA c (e :: es) t) (d1 : (x == ("__debug__" : Str)) = false) (d2 : (x == ("__classdict__" : Str)) = false)
    (he : starEach (e :: es) c.env = (false, eval e c.env) :: starEach es c.env) (hpl : (backTo pos (starEach es c.env)).any (·.1) = false) : PE c (.Call (.Name x p) (e :: es) [] pos) (fun σ H Q => σ[i]? = some (some (.ref f)) ∧ tCallS sp Es t σ H Q) := by
  refine ⟨fun pins s σ H Q I ⟨hs, ht⟩ => ?_⟩
  have pv := (pe_var (pos := p) hN hv d1 d2).run pins s σ H (fun v H1 => v = .ref f ∧ H1 = H) I ⟨.ref f, hs, rfl, rfl⟩
  refine wpAny_Call_Name_kw (thn pv fun u s1 ⟨v, H1, I1, rv, ev⟩ => ?_)
  obtain ⟨rfl, rfl⟩ := ev
  cases rv
  have arg := ha.run pos pins s1 σ _ _ I1 ht
  refine PySem.W.callWith_K (h₀ := c.base) I.ok.mod.kin hk ?_ he hpl
  exact thn arg fun us s2 ⟨vs, H2, I2, r, q⟩ => ⟨I2.kIn, run_fnS F hr hb (hx σ) I2 r q⟩
theorem sx_calV (g : Good c M Wx) {gs : List Nat} {i : Nat} {x : Str} {xs : X} {e : Expr} {es : List Expr} {p : Pos} (hg : ∀ k ∈ gs, ∃ F, (M.Phy.take M.nf)[k]? = some F) (hN : c.N[i]? = some x) (hv : Vis c.env.scope x) (d1 : (x == ("__debug__" : Str)) = false) (d2 : (x == ("__classdict__" : Str)) = false)
    (ha : PA c (e :: es) (rdA M Wx xs)) (he : starEach (e :: es) c.env = (false, eval e c.env) :: starEach es c.env) (hpl : (backTo pos (starEach es c.env)).any (·.1) = false) : PE c (.Call (.Name x p) (e :: es) [] pos) (rdX M Wx (.calV gs i xs)) := by
  refine ⟨fun pins s σ H Q I h => ?_⟩
  obtain ⟨A₀, W₀, A, W, sl, n, E, Qd, eH, R, Xs, hw, k⟩ := h
  have hw : lookV sl i fun d => ∃ q, q ∈ gs ∧ d = .fn q ∧ (sem M.Phy xs).a E sl n fun ds n => callW M.Phy q ds n Qd E := hw
  unfold lookV at hw
  split at hw
  · rename_i d ed
    obtain ⟨q, hq, rfl, hw⟩ := hw
    obtain ⟨F, hF⟩ := hg q hq
    obtain ⟨f1, f2, f3, f4⟩ := g.fx.fns q F hF
    obtain ⟨v, ev, av⟩ := R.val i _ ed
    cases av
    exact (pe_locS f1 g.rm hN hv f3 f4 (passAt g.tk) ha d1 d2 he hpl).run pins s σ H Q I ⟨ev, call_rd (take_get hF) ⟨A₀, W₀, A, W, sl, n, E, Qd, eH, R, Xs, hw, k⟩⟩
  · cases hw
end
end Q
/-! Q layer, part o: enumerate of a tuple. -/
namespace Q
open PySem PySem.Spec L2
open PyProof.Rows (Call_ boot_enumerate)
theorem enumT_new {v : Value} {o : Obj} {Hq : Heap → Prop} (B : Begins v o Hq) : Meets (Builtin.«enumerate.__new__» ⟨[.type "enumerate", v], []⟩) (fun _ R z => Hq z.heap ∧ R (.ok (.ret (.ref (z.heap.push o).objs.size)))
    { z with heap := (z.heap.push o).push { cls := .type "enumerate", data := .fields #[.none, .bool false, .ref z.heap.objs.size, rawInt 0, .none, .none] } }) :=
  .of_wp fun P w A R z h => by
    obtain ⟨hp, gn, dr, tk, os⟩ := z
    obtain ⟨hb, h⟩ := h
    have sb := sub_enumerate
    have it : ∀ {A' : Around} {E Q : Value → Shared → Prop}, Q (.ref hp.objs.size) ⟨hp.push o, gn, dr, tk, os⟩ → wpAny (model P w) A' (pyIter v) Q E ⟨hp, gn, dr, tk, os⟩ := fun q => B.iter P w _ _ ⟨hp, gn, dr, tk, os⟩ _ hb q
    (wp_walk using it); (refine wpAny_stack_any fun _ => wpAny_pure ?_); split
    · rename_i c _ _ _ _ _
      cases (c == .type "enumerate") <;> ((wp_walk using it); exact ⟨_, rfl, h⟩)
    · (wp_walk using it); exact ⟨_, rfl, h⟩
theorem enumT_call {P : Program} {w : World} {A : Around} {E Q : Value → Shared → Prop} {z : Shared} {v : Value} {o : Obj} {Hq : Heap → Prop} (B : Begins v o Hq) (hb : Hq z.heap)
    (h : ∀ h', IsEnum h' (z.heap.objs.size + 1) z.heap.objs.size 0 .none → h'.get? z.heap.objs.size = some o → (∀ b u, z.heap.get? b = some u → h'.get? b = some u) → Q (.ref (z.heap.objs.size + 1)) { z with heap := h' }) :
    wpAny (model P w) A (call (.type "enumerate") [v]) Q E z := by
  refine callType_new F.called_enumerate (by decide) (F.typeCall_enumerate_1 _) (F.newCall_enumerate_1 _) (fun obj => F.args_object_init_2 obj _) F.entry_enumerate_new (enumT_new B) ⟨hb, ?_⟩
  have sz : (z.heap.push o).objs.size = z.heap.objs.size + 1 := Heap.size_push ..
  rw [sz]
  have en : IsEnum ((z.heap.push o).push { cls := .type "enumerate", data := .fields #[.none, .bool false, .ref z.heap.objs.size, rawInt 0, .none, .none] }) (z.heap.objs.size + 1) z.heap.objs.size 0 .none := by
    have e := Heap.get?_push_size (z.heap.push o) (o := { cls := .type "enumerate", data := .fields #[.none, .bool false, .ref z.heap.objs.size, rawInt 0, .none, .none] }) rfl
    rwa [sz] at e
  exact ⟨⟨_, en, rfl⟩, h _ en (Heap.get?_push_of_some _ (Heap.get?_push_size _ B.free)) fun b u x => Heap.get?_push_of_some _ (Heap.get?_push_of_some _ x)⟩
/-- the tuple at a, each item in a new pair -/
def IteT (K : PySem.W.Frag) (a : Addr) : It :=
  ⟨fun i H => ∃ (xs : List V) (x : V), SqT K H a xs ∧ xs[i]? = some x, fun i H v H' => ∃ T x, v = .ref T ∧ H T = none ∧ H' = upd H T (.tup [.int (i : Nat), x]) ∧ ∀ xs, SqT K H a xs → xs[i]? = some x, fun i H => ∃ xs : List V, SqT K H a xs ∧ xs.length = i⟩
theorem turn_enumT {P : Program} {w : World} {K : PySem.W.Frag} {elts : List Expr} {kk : Nat} {tp : Pos} (a e it : Addr) (hae : a ≠ e) (hai : a ≠ it) (hei : e ≠ it) :
    Turn P w K (.Tuple elts kk tp) (IteT K a) [e, it] e (fun i h => (∃ old, IsEnum h e it ((i : Nat) : Int) old) ∧ h.IsTupleIter it a i) where
  mem := by simp
  obj := fun i h st b hb => by
    obtain ⟨⟨old, he⟩, o, ho, hc, hd⟩ := st
    have z : b = e ∨ b = it := by simpa using hb
    rcases z with rfl | rfl
    · exact ⟨_, he, fun v q => nomatch q⟩
    · exact ⟨o, ho, fun v q => by rw [hd] at q; cases q⟩
  keep := fun i h h' st k => let ⟨⟨old, he⟩, hi⟩ := st; ⟨⟨old, k e (by simp) _ he⟩, hi.at fun o q => k it (by simp) o q⟩
  item := by
    intro X hP hw hK hc i pins s σ H E I hf st hg
    subst hP hw hK
    obtain ⟨⟨old, he⟩, hit⟩ := st
    obtain ⟨xs, x, hq, hx⟩ := hg
    obtain ⟨its, rv, p, hz⟩ := I.tuple hq
    obtain ⟨u, hu, ru⟩ := rv.get hx
    have le : e < s.heap.objs.size := Heap.lt_size he
    have li : it < s.heap.objs.size := by obtain ⟨_, q, _⟩ := hit; exact Heap.lt_size q
    have pt : s.heap.IsTuple a its.toArray := p
    have hh : X.A.in1.handled = none := I.ok.hd hc
    refine wpAny_pyNext_enum_itemD (Draws.tuple (A := X.A.in1) hh it a hai its.toArray) he ⟨hit, pt⟩ (i := i) ?_ hei (by simp [hei, Ne.symm hae]) fun y h' tk hy ho st' hT hs hk => ?_
    · have := (List.getElem?_eq_some_iff.mp hu).1
      simpa using this
    have ey : y = u := by
      have hy : its.toArray[i]? = some y := hy
      rw [List.getElem?_toArray, hu] at hy
      exact (Option.some.inj hy).symm
    subst ey
    refine ⟨_, rfl, wpAny_letOwnedTupleGo_enum (s := { s with heap := h', toks := tk + 1 }) ho fun h'' he' sb => ?_⟩
    have hT2 : h''.get? s.heap.objs.size = some { cls := .type "tuple", data := .seq #[.int i tk, y] } := (sb.2 _ (Nat.ne_of_gt le)).trans hT
    have new : ObjOk X.prog X.w (upd H s.heap.objs.size (.tup [.int (i : Nat), x])) h'' s.heap.objs.size (.tup [.int (i : Nat), x]) :=
      ⟨by show 2 ≤ sizeLine; decide, [.int i tk, y], .cons ⟨_, rfl⟩ (.cons ru .nil), ⟨_, hT2, rfl, _, rfl⟩⟩
    have I1 : Inv X pins σ (upd H s.heap.objs.size (.tup [.int (i : Nat), x])) { s with heap := h'', toks := tk + 1 } :=
      I.turnedNew (ch := [e, it]) (fun b ob hb q => (sb.2 b (fun z => hb (by simp [z]))).trans (hk b ob (fun z => hb (by simp [z])) (fun z => hb (by simp [z])) q)) hf (Nat.le_refl _) new
    refine ⟨.ref s.heap.objs.size, _, I1, rfl, ⟨_, x, rfl, I.hok.fresh (Nat.le_refl _), rfl, fun ys hy => by rw [I.tuple_inj hy hq]; exact hx⟩, ⟨⟨y, ?_⟩, st'.1.at fun o q => (sb.2 it (Ne.symm hei)).trans q⟩, fun b hb => ?_⟩
    · have e1 : ((i + 1 : Nat) : Int) = (i : Int) + 1 := by omega
      rw [e1]
      exact he'
    · have z : b = e ∨ b = it := by simpa using hb
      have lb : b < s.heap.objs.size := by rcases z with rfl | rfl <;> assumption
      rw [upd_ne (Nat.ne_of_lt lb)]
      exact (hf b hb).1
  done := by
    intro X hP hw hK hc i pins s σ H E I hf st hg
    subst hP hw hK
    obtain ⟨⟨old, he⟩, hit⟩ := st
    obtain ⟨xs, hq, hx⟩ := hg
    obtain ⟨its, rv, p, hz⟩ := I.tuple hq
    obtain ⟨f0, f1, f2, f3, f4, f5⟩ := hf it (by simp)
    have hl := rv.length
    have pt : s.heap.IsTuple a its.toArray := p
    have hh : X.A.in1.handled = none := I.ok.hd hc
    have es : i = its.toArray.size := by simp; omega
    subst es
    exact wpAny_pyNext_enum_endD (Draws.tuple (A := X.A.in1) hh it a hai its.toArray) he ⟨hit, pt⟩ fun h' eb => ⟨rfl, I.turned (t' := s.toks) (fun b o hb q => eb b o hb q) f0 f1 f3 f4 f5⟩
  self := fun A i s Q E st h => let ⟨⟨_, he⟩, _⟩ := st; wpAny_pyIter_enum he h
def iEnumT (K : PySem.W.Frag) (ta : TA) : TI := fun σ H R => ta σ H fun vs H1 => ∃ a xs, vs = [.ref a] ∧ ((SqL K H1 a xs ∧ R (Ite K a) H1) ∨ (SqT K H1 a xs ∧ R (IteT K a) H1))
theorem pi_enumT {X : Cx} {e : Expr} {ta : TA} {p pos tp : Pos} {elts : List Expr} {kk : Nat} (hg : Gl X "enumerate") (hm : X.mg "enumerate" = none) (ha : PA X [e] ta) (hs : starEach [e] X.env = [(false, eval e X.env)]) :
    PI X (.Tuple elts kk tp) (.Call (.Name "enumerate" p) [e] [] pos) (iEnumT X.K ta) := by
  refine ⟨fun pins s σ H R I h => ?_⟩
  refine Call_ (ld_blt I hg hm boot_enumerate (PyProof.Rows.callWith_type1 (thn (ha.run pos pins s σ H _ I h) fun us s1 ⟨vs, H1, I1, r1, q1⟩ => ?_) hs rfl))
  obtain ⟨a, xs, ex, q1⟩ := q1
  subst ex
  cases r1 with
  | cons r rr =>
    cases rr
    cases r
    have fp : ∀ b : Addr, b ∈ [s1.heap.objs.size + 1, s1.heap.objs.size] → s1.heap.objs.size ≤ b := fun b hb => by
      have z : b = s1.heap.objs.size + 1 ∨ b = s1.heap.objs.size := by simpa using hb
      rcases z with z | z
      · rw [z]; exact Nat.le_succ _
      · rw [z]; exact Nat.le_refl _
    rcases q1 with ⟨hq, q⟩ | ⟨hq, q⟩
    · obtain ⟨its, rv, p', hz⟩ := I1.list hq
      refine call_enumerate_list p'.isList fun h' he hit hsz hk => wpAny_pyIter_enum he ?_
      have I2 : Inv X pins σ H1 { s1 with heap := h' } := I1.kept (t' := s1.toks) hk
      exact ⟨s1.heap.objs.size + 1, [s1.heap.objs.size + 1, s1.heap.objs.size], _, _, H1, rfl, I2, turn_enum a (s1.heap.objs.size + 1) s1.heap.objs.size, ⟨⟨.none, he⟩, hit, Nat.succ_ne_self _⟩, fun b hb => I1.fpOk (fp b hb) (I1.hok.fresh (fp b hb)), q⟩
    · obtain ⟨its, rv, p', hz⟩ := I1.tuple hq
      have pt : s1.heap.IsTuple a its.toArray := p'
      have la : a < s1.heap.objs.size := by obtain ⟨o, ho, _⟩ := pt; exact Heap.lt_size ho
      refine enumT_call (begins_tuple a its.toArray) pt fun h' he hit hk => wpAny_pyIter_enum he ?_
      have I2 : Inv X pins σ H1 { s1 with heap := h' } := I1.kept (t' := s1.toks) hk
      exact ⟨s1.heap.objs.size + 1, [s1.heap.objs.size + 1, s1.heap.objs.size], _, _, H1, rfl, I2, turn_enumT a (s1.heap.objs.size + 1) s1.heap.objs.size (Nat.ne_of_lt (Nat.lt_succ_of_lt la)) (Nat.ne_of_lt la) (Nat.succ_ne_self _), ⟨⟨.none, he⟩, ⟨_, hit, rfl, rfl⟩⟩, fun b hb => I1.fpOk (fp b hb) (I1.hok.fresh (fp b hb)), q⟩
end Q
/-! Q layer, part H: what is walked, targets, comprehensions. -/
namespace Q
open PySem PySem.Spec L2
section
variable {c : Cx} {M : Pm} {Wx : WX} {pos : Pos} {G : Gb} {A A1 : Addr → Prop} {W W' W1 W2 : Wd}
theorem PI.imp {tg e : Expr} {t t' : TI} (h : PI c tg e t) (i : ∀ σ H R, t' σ H R → t σ H R) : PI c tg e t' := ⟨fun pins s σ H R I q => h.run pins s σ H R I (i σ H R q)⟩
/-- J walks the data ds -/
structure Wk (G : Gb) (A : Addr → Prop) (W : Wd) (J : It) (ds : List D) : Prop where
  go : ∀ A1 W1, Stp A W A1 W1 → ∀ i, i < ds.length → J.go i W1.H
  stop : ∀ A1 W1, Stp A W A1 W1 → J.stop ds.length W1.H
  yld : ∀ A1 W1 n1, Stp A W A1 W1 → Bas G A1 W1 → Strm G n1 W1.H → LamX.Tabs G.T W1.H → ∀ (i : Nat) (d : D), ds[i]? = some d → ∀ x H', J.yld i W1.H x H' → ∃ W2, W2.H = H' ∧ Ste G A1 W1 W2 n1 ∧ At G A1 W2 x d
theorem At.isl {v : V} {k : Nat} {xs : List D} (h : At G A W v (.lst k xs)) : ∃ a vs, v = .ref a ∧ W.H a = some (.lst vs) ∧ Ats G A W vs xs := AtB.lst (.inl h)
theorem At.ist {v : V} {xs : List D} (h : At G A W v (.tup xs)) : ∃ a vs, v = .ref a ∧ W.H a = some (.tup vs) ∧ Ats G A W vs xs := AtB.tup (.inl h)
/-- the list as it stands behind a step -/
theorem At.lst_stp {a : Addr} {k : Nat} {xs : List D} (h : At G A W (.ref a) (.lst k xs)) (s : Stp A W A1 W1) : ∃ vs, W1.H a = some (.lst vs) ∧ Ats G A1 W1 vs xs := by
  obtain ⟨b, vs, e, h1, h2⟩ := (h.stp s).isl
  cases e
  exact ⟨vs, h1, h2⟩
theorem At.tup_stp {a : Addr} {xs : List D} (h : At G A W (.ref a) (.tup xs)) (s : Stp A W A1 W1) : ∃ vs, W1.H a = some (.tup vs) ∧ Ats G A1 W1 vs xs := by
  obtain ⟨b, vs, e, h1, h2⟩ := (h.stp s).ist
  cases e
  exact ⟨vs, h1, h2⟩
theorem sql_fun {K : PySem.W.Frag} {H : Hp} {a : Addr} {xs : List V} (h : H a = some (.lst xs)) (f : ∀ ys, SqL K H a ys → ∃ y, ys[0]? = some y) : ∃ y, xs[0]? = some y := f xs (SqL.of h)
theorem wk_list {K : PySem.W.Frag} {a : Addr} {k : Nat} {xs : List D} (h : At G A W (.ref a) (.lst k xs)) : Wk G A W (Itl K a) xs where
  go := fun A1 W1 s i hi => by
    obtain ⟨vs, h1, h2⟩ := h.lst_stp s
    have hv : i < vs.length := by rw [h2.length]; exact hi
    exact ⟨vs, vs[i], SqL.of h1, by simp [hv]⟩
  stop := fun A1 W1 s => by
    obtain ⟨vs, h1, h2⟩ := h.lst_stp s
    exact ⟨vs, SqL.of h1, by rw [h2.length]; exact Nat.le_refl _⟩
  yld := fun A1 W1 n1 s b st tb i d e x H' y => by
    obtain ⟨vs, h1, h2⟩ := h.lst_stp s
    obtain ⟨rfl, y⟩ := y
    obtain ⟨v, e1, e2⟩ := h2.get e
    have := (y vs (SqL.of h1)).symm.trans e1
    cases this
    exact ⟨W1, rfl, .refl st tb, e2⟩
theorem wk_tup {K : PySem.W.Frag} {a : Addr} {xs : List D} (h : At G A W (.ref a) (.tup xs)) : Wk G A W (Itt K a) xs where
  go := fun A1 W1 s i hi => by
    obtain ⟨vs, h1, h2⟩ := h.tup_stp s
    have hv : i < vs.length := by rw [h2.length]; exact hi
    exact ⟨vs, vs[i], SqT.of h1, by simp [hv]⟩
  stop := fun A1 W1 s => by
    obtain ⟨vs, h1, h2⟩ := h.tup_stp s
    exact ⟨vs, SqT.of h1, by rw [h2.length]; exact Nat.le_refl _⟩
  yld := fun A1 W1 n1 s b st tb i d e x H' y => by
    obtain ⟨vs, h1, h2⟩ := h.tup_stp s
    obtain ⟨rfl, y⟩ := y
    obtain ⟨v, e1, e2⟩ := h2.get e
    have := (y vs (SqT.of h1)).symm.trans e1
    cases this
    exact ⟨W1, rfl, .refl st tb, e2⟩
theorem wk_range {lo : Int} {m : Nat} : Wk G A W (Itr lo m) (rangeD lo m) where
  go := fun A1 W1 s i hi => by
    have : (rangeD lo m).length = m := by simp [rangeD]
    show i < m
    omega
  stop := fun A1 W1 s => by
    have : (rangeD lo m).length = m := by simp [rangeD]
    show m ≤ _
    omega
  yld := fun A1 W1 n1 s b st tb i d e x H' y => by
    obtain ⟨rfl, rfl⟩ := y
    refine ⟨W1, rfl, .refl st tb, ?_⟩
    have hi : i < m := by
      have := (List.getElem?_eq_some_iff.mp e).1
      simpa [rangeD] using this
    have : d = .int (lo + i) := by
      simp [rangeD, hi] at e
      exact e.symm
    rw [this]
    exact .int
/-- a new pair -/
theorem pair_at {p : Addr} {x y : V} {d e : D} {n : Nat} (b : Bas G A W) (st : Strm G n W.H) (tb : LamX.Tabs G.T W.H) (np : W.H p = none) (hx : At G A W x d) (hy : At G A W y e) :
    ∃ W2, W2.H = upd W.H p (.tup [x, y]) ∧ Ste G A W W2 n ∧ At G A W2 (.ref p) (.tup [d, e]) := tup_at b (.refl st tb) np (.cons hx (.cons hy .nil))
theorem wk_enum {K : PySem.W.Frag} {a : Addr} {k : Nat} {xs : List D} (h : At G A W (.ref a) (.lst k xs)) : Wk G A W (Ite K a) (enumD xs) where
  go := fun A1 W1 s i hi => by
    obtain ⟨vs, h1, h2⟩ := h.lst_stp s
    have hv : i < vs.length := by rw [h2.length]; simpa [enumD] using hi
    exact ⟨vs, vs[i], SqL.of h1, by simp [hv]⟩
  stop := fun A1 W1 s => by
    obtain ⟨vs, h1, h2⟩ := h.lst_stp s
    exact ⟨vs, SqL.of h1, by rw [h2.length]; simp [enumD]⟩
  yld := fun A1 W1 n1 s b st tb i d e x H' y => by
    obtain ⟨vs, h1, h2⟩ := h.lst_stp s
    obtain ⟨T, z, rfl, nT, rfl, y⟩ := y
    have hi : i < xs.length := by
      have := (List.getElem?_eq_some_iff.mp e).1
      simpa [enumD] using this
    obtain ⟨v, e1, e2⟩ := h2.get (List.getElem?_eq_getElem hi)
    have := (y vs (SqL.of h1)).symm.trans e1
    cases this
    have : d = .tup [.int i, xs[i]] := by
      simp [enumD, hi] at e
      exact e.symm
    rw [this]
    exact pair_at b st tb nT .int e2
theorem wk_enumT {K : PySem.W.Frag} {a : Addr} {xs : List D} (h : At G A W (.ref a) (.tup xs)) : Wk G A W (IteT K a) (enumD xs) where
  go := fun A1 W1 s i hi => by
    obtain ⟨vs, h1, h2⟩ := h.tup_stp s
    have hv : i < vs.length := by rw [h2.length]; simpa [enumD] using hi
    exact ⟨vs, vs[i], SqT.of h1, by simp [hv]⟩
  stop := fun A1 W1 s => by
    obtain ⟨vs, h1, h2⟩ := h.tup_stp s
    exact ⟨vs, SqT.of h1, by rw [h2.length]; simp [enumD]⟩
  yld := fun A1 W1 n1 s b st tb i d e x H' y => by
    obtain ⟨vs, h1, h2⟩ := h.tup_stp s
    obtain ⟨T, z, rfl, nT, rfl, y⟩ := y
    have hi : i < xs.length := by
      have := (List.getElem?_eq_some_iff.mp e).1
      simpa [enumD] using this
    obtain ⟨v, e1, e2⟩ := h2.get (List.getElem?_eq_getElem hi)
    have := (y vs (SqT.of h1)).symm.trans e1
    cases this
    have : d = .tup [.int i, xs[i]] := by
      simp [enumD, hi] at e
      exact e.symm
    rw [this]
    exact pair_at b st tb nT .int e2
theorem zipD_get {xs ys : List D} {i : Nat} {d : D} (h : (zipD xs ys)[i]? = some d) : ∃ x y, xs[i]? = some x ∧ ys[i]? = some y ∧ d = .tup [x, y] := by
  unfold zipD at h
  rw [List.getElem?_map, Option.map_eq_some_iff] at h
  obtain ⟨p, h1, rfl⟩ := h
  obtain ⟨h1, h2⟩ := List.getElem?_zip_eq_some.mp h1
  exact ⟨p.1, p.2, h1, h2, rfl⟩
theorem zipD_len {xs ys : List D} : (zipD xs ys).length = min xs.length ys.length := by simp [zipD]
theorem wk_zip {K : PySem.W.Frag} {a b : Addr} {k j : Nat} {xs ys : List D} (h : At G A W (.ref a) (.lst k xs)) (h' : At G A W (.ref b) (.lst j ys)) : Wk G A W (Itz K a b) (zipD xs ys) where
  go := fun A1 W1 s i hi => by
    rw [zipD_len] at hi
    obtain ⟨vs, h1, h2⟩ := h.lst_stp s
    obtain ⟨ws, h3, h4⟩ := h'.lst_stp s
    have hv : i < vs.length := by rw [h2.length]; omega
    have hw : i < ws.length := by rw [h4.length]; omega
    exact ⟨vs, ws, vs[i], ws[i], SqL.of h1, SqL.of h3, by simp [hv], by simp [hw]⟩
  stop := fun A1 W1 s => by
    obtain ⟨vs, h1, h2⟩ := h.lst_stp s
    obtain ⟨ws, h3, h4⟩ := h'.lst_stp s
    refine ⟨vs, ws, SqL.of h1, SqL.of h3, ?_⟩
    rw [zipD_len, h2.length, h4.length]
    omega
  yld := fun A1 W1 n1 s b st tb i d e x H' y => by
    obtain ⟨vs, h1, h2⟩ := h.lst_stp s
    obtain ⟨ws, h3, h4⟩ := h'.lst_stp s
    obtain ⟨T, z, z', rfl, nT, rfl, y, y'⟩ := y
    obtain ⟨p, q, e1, e2, rfl⟩ := zipD_get e
    obtain ⟨v, f1, f2⟩ := h2.get e1
    obtain ⟨u, f3, f4⟩ := h4.get e2
    have := (y vs (SqL.of h1)).symm.trans f1
    cases this
    have := (y' ws (SqL.of h3)).symm.trans f3
    cases this
    exact pair_at b st tb nT f2 f4
theorem wk_zipT {K : PySem.W.Frag} {a b : Addr} {xs ys : List D} (h : At G A W (.ref a) (.tup xs)) (h' : At G A W (.ref b) (.tup ys)) : Wk G A W (RZ.ItzT K a b) (zipD xs ys) where
  go := fun A1 W1 s i hi => by
    rw [zipD_len] at hi
    obtain ⟨vs, h1, h2⟩ := h.tup_stp s
    obtain ⟨ws, h3, h4⟩ := h'.tup_stp s
    have hv : i < vs.length := by rw [h2.length]; omega
    have hw : i < ws.length := by rw [h4.length]; omega
    exact ⟨vs, ws, vs[i], ws[i], SqT.of h1, SqT.of h3, by simp [hv], by simp [hw]⟩
  stop := fun A1 W1 s => by
    obtain ⟨vs, h1, h2⟩ := h.tup_stp s
    obtain ⟨ws, h3, h4⟩ := h'.tup_stp s
    refine ⟨vs, ws, SqT.of h1, SqT.of h3, ?_⟩
    rw [zipD_len, h2.length, h4.length]
    omega
  yld := fun A1 W1 n1 s b st tb i d e x H' y => by
    obtain ⟨vs, h1, h2⟩ := h.tup_stp s
    obtain ⟨ws, h3, h4⟩ := h'.tup_stp s
    obtain ⟨T, z, z', rfl, nT, rfl, y, y'⟩ := y
    obtain ⟨p, q, e1, e2, rfl⟩ := zipD_get e
    obtain ⟨v, f1, f2⟩ := h2.get e1
    obtain ⟨u, f3, f4⟩ := h4.get e2
    have := (y vs (SqT.of h1)).symm.trans f1
    cases this
    have := (y' ws (SqT.of h3)).symm.trans f3
    cases this
    exact pair_at b st tb nT f2 f4
/-! ### walked things -/
def rdI (M : Pm) (Wx : WX) (x : X) : TI := fun σ H R => Rg M Wx (fun E => wI M.Phy E x) (fun A _ W' J ds => Wk M.G A W' J ds) σ H R
/-- a list or a tuple -/
def iSeq (K : PySem.W.Frag) (tl : TE) : TI := fun σ H R => tl σ H fun x H1 => (∃ a, x = .ref a ∧ (∃ xs, SqL K H1 a xs) ∧ R (Itl K a) H1) ∨ ∃ a, x = .ref a ∧ (∃ xs, SqT K H1 a xs) ∧ R (Itt K a) H1
theorem pi_seq {tg l : Expr} {tl : TE} (hl : PE c l tl) : PI c tg l (iSeq c.K tl) := by
  refine ⟨fun pins s σ H R I h => ?_⟩
  refine thn (hl.run pins s σ H _ I h) fun v s1 ⟨x, H1, I1, r1, q1⟩ => ?_
  rcases q1 with ⟨a, e, ⟨xs, hq⟩, q⟩ | ⟨a, e, ⟨xs, hq⟩, q⟩
  · subst e
    cases r1
    obtain ⟨its, rv, p, hz⟩ := I1.list hq
    refine wpAny_pyIter_list p.isList ?_
    refine ⟨s1.heap.objs.size, [s1.heap.objs.size], _, _, H1, rfl, I1.kept (t' := s1.toks) fun b o e => Heap.get?_push_of_some _ e, turn_list a _, ⟨_, Heap.get?_push_size _ rfl, rfl, rfl⟩, fun b hb => ?_, q⟩
    have e : b = s1.heap.objs.size := by simpa using hb
    subst e
    exact I1.fpOk (Nat.le_refl _) (I1.hok.fresh (Nat.le_refl _))
  · subst e
    cases r1
    obtain ⟨its, rv, p, hz⟩ := I1.tuple hq
    refine wpAny_pyIter_tuple (show s1.heap.IsTuple a its.toArray from p) ?_
    refine ⟨s1.heap.objs.size, [s1.heap.objs.size], _, _, H1, rfl, I1.kept (t' := s1.toks) fun b o e => Heap.get?_push_of_some _ e, turn_tuple a _, ⟨_, Heap.get?_push_size _ rfl, rfl, rfl⟩, fun b hb => ?_, q⟩
    have e : b = s1.heap.objs.size := by simpa using hb
    subst e
    exact I1.fpOk (Nat.le_refl _) (I1.hok.fresh (Nat.le_refl _))
theorem si_l {a : X} {e tg : Expr} (nb : a.isBor = false) (ha : PE c e (rdX M Wx a)) : PI c tg e (rdI M Wx (.itl a)) := by
  refine PI.imp (pi_seq ha) fun σ H R ⟨A₀, W₀, A, W, sl, n, E, Qd, e, Rp, Xs, hw, k⟩ => ?_
  refine ⟨A₀, W₀, A, W, sl, n, E, _, e, Rp, Xs, hw, fun x dx W1 n1 S1 r1 q1 => ?_⟩
  have r1 := r1.2.1 nb
  have q1 : seqW dx fun xs => Qd xs n1 := q1
  cases dx with
  | lst j xs =>
    obtain ⟨a, vs, rfl, h1, h2⟩ := r1.isl
    exact .inl ⟨a, rfl, ⟨vs, SqL.of h1⟩, k _ _ W1 n1 S1 (wk_list r1) q1⟩
  | tup xs =>
    obtain ⟨a, vs, rfl, h1, h2⟩ := r1.ist
    exact .inr ⟨a, rfl, ⟨vs, SqT.of h1⟩, k _ _ W1 n1 S1 (wk_tup r1) q1⟩
  | _ => exact False.elim q1
theorem si_r (g : Good c M Wx) {a : X} {e tg : Expr} {p : Pos} (hb : ("range" : Str) ∈ M.bs) (hg : Gl c "range") (he : starEach [e] c.env = [(false, eval e c.env)]) (ha : PA c [e] (rdAb M Wx (.cons a .nil))) : PI c tg (.Call (.Name "range" p) [e] [] pos) (rdI M Wx (.itr a)) := by
  refine PI.imp (pi_range1 hg (g.fx.bs _ hb) ha he) fun σ H R ⟨A₀, W₀, A, W, sl, n, E, Qd, e, Rp, Xs, hw, k⟩ => ?_
  refine ⟨A₀, W₀, A, W, sl, n, E, fun ds n => match ds with | [d] => (intW d fun j => -(2 ^ 62) ≤ j ∧ j < 2 ^ 62 ∧ Qd (rangeD 0 j.toNat) n) | _ => False, e, Rp, Xs, ?_, fun vs ds W1 n1 S1 r1 q1 => ?_⟩
  · exact hw
  · match ds, q1, r1 with
    | [d], q1, r1 =>
      obtain ⟨v, rfl, h⟩ := AtBs.one r1
      cases d with
      | int j => exact ⟨j, by rw [h.int], q1.1, q1.2.1, k _ _ W1 n1 S1 wk_range q1.2.2⟩
      | _ => exact False.elim q1
theorem si_r2 (g : Good c M Wx) {a b : X} {e f tg : Expr} {p : Pos} (hb : ("range" : Str) ∈ M.bs) (hg : Gl c "range") (he : starEach [e, f] c.env = [(false, eval e c.env), (false, eval f c.env)]) (he2 : starEach [f] c.env = [(false, eval f c.env)])
    (ha : PA c [e, f] (rdAb M Wx (.cons a (.cons b .nil)))) : PI c tg (.Call (.Name "range" p) [e, f] [] pos) (rdI M Wx (.itr2 a b)) := by
  refine PI.imp (pi_range2 hg (g.fx.bs _ hb) ha he he2) fun σ H R ⟨A₀, W₀, A, W, sl, n, E, Qd, e, Rp, Xs, hw, k⟩ => ?_
  refine ⟨A₀, W₀, A, W, sl, n, E, fun ds n => match ds with | [d, d'] => (intW d fun i => intW d' fun j => (-(2 ^ 62) ≤ i ∧ i < 2 ^ 62 ∧ -(2 ^ 62) ≤ j ∧ j < 2 ^ 62) ∧ Qd (rangeD i (j - i).toNat) n) | _ => False, e, Rp, Xs, ?_, fun vs ds W1 n1 S1 r1 q1 => ?_⟩
  · exact hw
  · match ds, q1, r1 with
    | [d, d'], q1, r1 =>
      obtain ⟨v, u, rfl, h, h'⟩ := AtBs.two r1
      cases d with
      | int i =>
        cases d' with
        | int j => exact ⟨i, j, by rw [h.int, h'.int], q1.1, k _ _ W1 n1 S1 wk_range q1.2⟩
        | _ => exact False.elim q1
      | _ => exact False.elim q1
theorem Ats.one {vs : List V} {d : D} (h : Ats G A W vs [d]) : ∃ v, vs = [v] ∧ At G A W v d := by
  cases h with
  | cons h t => cases t; exact ⟨_, rfl, h⟩
theorem Ats.two {vs : List V} {d e : D} (h : Ats G A W vs [d, e]) : ∃ v u, vs = [v, u] ∧ At G A W v d ∧ At G A W u e := by
  cases h with
  | cons h t => cases t with
    | cons h2 t => cases t; exact ⟨_, _, rfl, h, h2⟩
theorem si_e (g : Good c M Wx) {a : X} {e : Expr} {p tp : Pos} {elts : List Expr} {kk : Nat} (hb : ("enumerate" : Str) ∈ M.bs) (hg : Gl c "enumerate") (he : starEach [e] c.env = [(false, eval e c.env)]) (ha : PA c [e] (rdA M Wx (.cons a .nil))) :
    PI c (.Tuple elts kk tp) (.Call (.Name "enumerate" p) [e] [] pos) (rdI M Wx (.ite_ a)) := by
  refine PI.imp (pi_enumT hg (g.fx.bs _ hb) ha he) fun σ H R ⟨A₀, W₀, A, W, sl, n, E, Qd, e, Rp, Xs, hw, k⟩ => ?_
  refine ⟨A₀, W₀, A, W, sl, n, E, fun ds n => match ds with | [d] => (seqW d fun xs => Qd (enumD xs) n) | _ => False, e, Rp, Xs, ?_, fun vs ds W1 n1 S1 r1 q1 => ?_⟩
  · exact hw
  · match ds, q1, r1 with
    | [d], q1, r1 =>
      obtain ⟨v, rfl, h⟩ := Ats.one r1
      cases d with
      | lst j xs =>
        obtain ⟨a, vs, rfl, h1, h2⟩ := h.isl
        exact ⟨a, vs, rfl, .inl ⟨SqL.of h1, k _ _ W1 n1 S1 (wk_enum h) q1⟩⟩
      | tup xs =>
        obtain ⟨a, vs, rfl, h1, h2⟩ := h.ist
        exact ⟨a, vs, rfl, .inr ⟨SqT.of h1, k _ _ W1 n1 S1 (wk_enumT h) q1⟩⟩
      | _ => exact False.elim q1
theorem si_z (g : Good c M Wx) {a b : X} {e f : Expr} {p tp : Pos} {elts : List Expr} {kk : Nat} (hb : ("zip" : Str) ∈ M.bs) (hg : Gl c "zip") (he : starEach [e, f] c.env = (false, eval e c.env) :: starEach [f] c.env) (hpl : (backTo pos (starEach [f] c.env)).any (·.1) = false)
    (ha : PA c [e, f] (rdA M Wx (.cons a (.cons b .nil)))) : PI c (.Tuple elts kk tp) (.Call (.Name "zip" p) [e, f] [] pos) (rdI M Wx (.itz a b)) := by
  refine PI.imp (RZ.pi_zipA hg (g.fx.bs _ hb) ha he hpl) fun σ H R ⟨A₀, W₀, A, W, sl, n, E, Qd, e, Rp, Xs, hw, k⟩ => ?_
  refine ⟨A₀, W₀, A, W, sl, n, E, fun ds n => match ds with | [d, d'] => (zipW d d' fun xs => Qd xs n) | _ => False, e, Rp, Xs, ?_, fun vs ds W1 n1 S1 r1 q1 => ?_⟩
  · exact hw
  · match ds, q1, r1 with
    | [d, d'], q1, r1 =>
      obtain ⟨v, u, rfl, h, h'⟩ := Ats.two r1
      have q1 : zipW d d' fun xs => Qd xs n1 := q1
      unfold zipW at q1
      split at q1
      · obtain ⟨a, vs, rfl, h1, h2⟩ := h.isl
        obtain ⟨b, ws, rfl, h3, h4⟩ := h'.isl
        exact ⟨a, b, vs, ws, rfl, .inl ⟨SqL.of h1, SqL.of h3, k _ _ W1 n1 S1 (wk_zip h h') q1⟩⟩
      · obtain ⟨a, vs, rfl, h1, h2⟩ := h.ist
        obtain ⟨b, ws, rfl, h3, h4⟩ := h'.ist
        exact ⟨a, b, vs, ws, rfl, .inr ⟨SqT.of h1, SqT.of h3, k _ _ W1 n1 S1 (wk_zipT h h') q1⟩⟩
      · exact q1.elim
end
end Q
/-! Q layer, part I: targets, comprehensions. -/
namespace Q
open PySem PySem.Spec L2
section
variable {c : Cx} {M : Pm} {Wx : WX} {pos : Pos} {G : Gb} {A₀ A A1 : Addr → Prop} {W₀ W W' W1 W2 : Wd} {σ : L2.St} {sl : Sl} {n : Nat}
/-! ### slots are stored -/
theorem Rep.put (R : Rep G A₀ W₀ A σ W ⟨sl, n⟩) (i : Nat) {v : V} {d : D} (h : At G A W v d) : Rep G A₀ W₀ A (σ.set i (some v)) W ⟨sl.set i (.val d), n⟩ := by
  refine ⟨R.b0, by simp [R.len], R.strm, R.tabs, R.ain, R.aup, R.aold, R.ext, R.iot, fun j d' e => ?_, fun j xs e => ?_, fun j k a xs ys e1 e2 e3 e4 => ?_, fun j g k e => (set_other e (fun z => nomatch z)).elim fun hj e => by rw [List.getElem?_set_ne hj]; exact R.clo j g k e, fun j z p e hz => (set_other e (ad_ne hz rfl)).elim fun hj e => by rw [List.getElem?_set_ne hj]; exact R.slf j z p e hz⟩
  · have e : (sl.set i (.val d))[j]? = some (.val d') := e
    rw [List.getElem?_set] at e
    by_cases hj : i = j
    · subst hj
      rw [if_pos rfl] at e
      split at e
      · rename_i hl
        have : d = d' := by simpa using e
        subst this
        have hl : i < σ.length := by rw [R.len]; exact hl
        exact ⟨v, by simp [hl], h⟩
      · cases e
    · rw [if_neg hj] at e
      obtain ⟨u, e1, x⟩ := R.val j d' e
      exact ⟨u, by rw [List.getElem?_set_ne hj]; exact e1, x⟩
  · have e : (sl.set i (.val d))[j]? = some (.own xs) := e
    rw [List.getElem?_set] at e
    by_cases hj : i = j
    · subst hj
      rw [if_pos rfl] at e
      split at e <;> simp at e
    · rw [if_neg hj] at e
      obtain ⟨a, vs, e1, r⟩ := R.own j xs e
      exact ⟨a, vs, by rw [List.getElem?_set_ne hj]; exact e1, r⟩
  · have own : ∀ {j : Nat} {xs : List D}, (sl.set i (.val d))[j]? = some (.own xs) → i ≠ j ∧ sl[j]? = some (.own xs) := fun {j xs} e => by
      rw [List.getElem?_set] at e
      by_cases hj : i = j
      · subst hj
        rw [if_pos rfl] at e
        split at e <;> simp at e
      · rw [if_neg hj] at e
        exact ⟨hj, e⟩
    obtain ⟨n1, f1⟩ := own e1
    obtain ⟨n2, f2⟩ := own e2
    rw [List.getElem?_set_ne n1] at e3
    rw [List.getElem?_set_ne n2] at e4
    exact R.sep j k a xs ys f1 f2 e3 e4
theorem Rep.cut (R : Rep G A₀ W₀ A σ W ⟨sl, n⟩) (i : Nat) : Rep G A₀ W₀ A (σ.set i none) W ⟨sl.set i .un, n⟩ := by
  have key : ∀ {j : Nat} {s : Slot}, (sl.set i .un)[j]? = some s → s ≠ .un → i ≠ j ∧ sl[j]? = some s := fun {j s} e hs => by
    rw [List.getElem?_set] at e
    by_cases hj : i = j
    · subst hj
      rw [if_pos rfl] at e
      split at e
      · exact absurd (Option.some.inj e).symm hs
      · cases e
    · rw [if_neg hj] at e
      exact ⟨hj, e⟩
  refine ⟨R.b0, by simp [R.len], R.strm, R.tabs, R.ain, R.aup, R.aold, R.ext, R.iot, fun j d' e => ?_, fun j xs e => ?_, fun j k a xs ys e1 e2 e3 e4 => ?_, fun j g k e => (set_other e (fun z => nomatch z)).elim fun hj e => by rw [List.getElem?_set_ne hj]; exact R.clo j g k e, fun j z p e hz => (set_other e (ad_ne hz rfl)).elim fun hj e => by rw [List.getElem?_set_ne hj]; exact R.slf j z p e hz⟩
  · obtain ⟨hj, e⟩ := key e (fun z => nomatch z)
    obtain ⟨u, e1, x⟩ := R.val j d' e
    exact ⟨u, by rw [List.getElem?_set_ne hj]; exact e1, x⟩
  · obtain ⟨hj, e⟩ := key e (fun z => nomatch z)
    obtain ⟨a, vs, e1, r⟩ := R.own j xs e
    exact ⟨a, vs, by rw [List.getElem?_set_ne hj]; exact e1, r⟩
  · obtain ⟨n1, f1⟩ := key e1 (fun z => nomatch z)
    obtain ⟨n2, f2⟩ := key e2 (fun z => nomatch z)
    rw [List.getElem?_set_ne n1] at e3
    rw [List.getElem?_set_ne n2] at e4
    exact R.sep j k a xs ys f1 f2 e3 e4
theorem Rep.wipe (R : Rep G A₀ W₀ A σ W ⟨sl, n⟩) : ∀ vs : List Nat, Rep G A₀ W₀ A (L2.wipe σ vs) W ⟨wipeS sl vs, n⟩
  | [] => R
  | v :: vs => (Rep.wipe R vs).cut v

/-! ### targets -/
def Tg.len : Tg → Nat
  | .cons _ ts => ts.len + 1
  | _ => 0
mutual
def gT (K : PySem.W.Frag) : Tg → TG
  | .nm i => gName i
  | .tp ts => fun v σ H Q => gTup K ts.len (gTs K ts) v σ H Q ∨ gLst K ts.len (gTs K ts) v σ H Q
  | .nil => fun _ _ _ _ => False
  | .cons _ _ => fun _ _ _ _ => False
termination_by structural t => t
def gTs (K : PySem.W.Frag) : Tg → TGs
  | .nil => gNil
  | .cons t ts => gCons (gT K t) (gTs K ts)
  | .nm _ => fun _ _ _ _ => False
  | .tp _ => fun _ _ _ _ => False
termination_by structural t => t
end
/-- all but the slots vs are as they were -/
def Off (vs : List Nat) (σ σ' : L2.St) : Prop := σ'.length = σ.length ∧ ∀ j : Nat, j ∉ vs → σ'[j]? = σ[j]?
theorem Off.trans {vs ws : List Nat} {σ σ1 σ2 : L2.St} (h1 : Off vs σ σ1) (h2 : Off ws σ1 σ2) : Off (vs ++ ws) σ σ2 :=
  ⟨h2.1.trans h1.1, fun j hj => by
    rw [List.mem_append, not_or] at hj
    rw [h2.2 j hj.2, h1.2 j hj.1]⟩
mutual
/-- a target stores what its meaning says -/
theorem gT_ok {K : PySem.W.Frag} : ∀ {t : Tg} {v : V} {d : D} {σ : L2.St} {sl : Sl} {k : Sl → Prop} {Q : L2.St → Hp → Prop}, Rep G A₀ W₀ A σ W ⟨sl, n⟩ → At G A W v d → wTg t d sl k →
    (∀ σ' sl', Rep G A₀ W₀ A σ' W ⟨sl', n⟩ → Off t.slots σ σ' → k sl' → Q σ' W.H) → gT K t v σ W.H Q
  | .nm i, v, d, σ, sl, k, Q, R, h, w, q => q _ _ (R.put i h) ⟨by simp, fun j hj => by
      have : i ≠ j := fun z => hj (by simp [Tg.slots, z])
      rw [List.getElem?_set_ne this]⟩ w
  | .tp ts, v, d, σ, sl, k, Q, R, h, w, q => by
    cases d with
    | tup ds =>
      obtain ⟨a, vs, rfl, h1, h2⟩ := h.ist
      exact .inl ⟨a, vs, rfl, SqT.of h1, (h2.length.trans (wTgs_len w)), gTs_ok R h2 w q⟩
    | lst m ds =>
      obtain ⟨a, vs, rfl, h1, h2⟩ := (show AtB G A W v (.lst m ds) from .inl h).lst
      exact .inr ⟨a, vs, rfl, SqL.of h1, (h2.length.trans (wTgs_len w)), gTs_ok R h2 w q⟩
    | _ => exact False.elim w
  | .nil, v, d, σ, sl, k, Q, R, h, w, q => False.elim w
  | .cons _ _, v, d, σ, sl, k, Q, R, h, w, q => False.elim w
theorem gTs_ok {K : PySem.W.Frag} : ∀ {t : Tg} {vs : List V} {ds : List D} {σ : L2.St} {sl : Sl} {k : Sl → Prop} {Q : L2.St → Hp → Prop}, Rep G A₀ W₀ A σ W ⟨sl, n⟩ → Ats G A W vs ds → wTgs t ds sl k →
    (∀ σ' sl', Rep G A₀ W₀ A σ' W ⟨sl', n⟩ → Off t.slots σ σ' → k sl' → Q σ' W.H) → gTs K t vs σ W.H Q
  | .nil, _, [], σ, sl, k, Q, R, .nil, w, q => ⟨rfl, q _ _ R ⟨rfl, fun _ _ => rfl⟩ w⟩
  | .nil, _, d :: ds, σ, sl, k, Q, R, h, w, q => False.elim w
  | .cons t ts, _, d :: ds, σ, sl, k, Q, R, .cons h hs, w, q => ⟨_, _, rfl, gT_ok R h w fun σ' sl' R' o w' => gTs_ok R' hs w' fun σ'' sl'' R'' o' w'' => q σ'' sl'' R'' (o.trans o') w''⟩
  | .cons t ts, _, [], σ, sl, k, Q, R, h, w, q => False.elim w
  | .nm _, _, ds, σ, sl, k, Q, R, h, w, q => by cases ds <;> exact False.elim w
  | .tp _, _, ds, σ, sl, k, Q, R, h, w, q => by cases ds <;> exact False.elim w
theorem wTgs_len : ∀ {t : Tg} {ds : List D} {sl : Sl} {k : Sl → Prop}, wTgs t ds sl k → ds.length = t.len
  | .nil, [], _, _, _ => rfl
  | .nil, _ :: _, _, _, h => False.elim h
  | .cons t ts, d :: ds, sl, k, h => by
    have : ∃ sl', wTgs ts ds sl' k := wTg_some h
    obtain ⟨sl', h'⟩ := this
    show ds.length + 1 = ts.len + 1
    rw [wTgs_len h']
  | .cons _ _, [], _, _, h => False.elim h
  | .nm _, ds, _, _, h => by cases ds <;> exact False.elim h
  | .tp _, ds, _, _, h => by cases ds <;> exact False.elim h
theorem wTg_some : ∀ {t : Tg} {d : D} {sl : Sl} {k : Sl → Prop}, wTg t d sl k → ∃ sl', k sl'
  | .nm i, d, sl, k, h => ⟨_, h⟩
  | .tp ts, d, sl, k, h => by
    cases d with
    | tup ds => exact wTgs_some h
    | lst _ ds => exact wTgs_some h
    | _ => exact False.elim h
  | .nil, _, _, _, h => False.elim h
  | .cons _ _, _, _, _, h => False.elim h
theorem wTgs_some : ∀ {t : Tg} {ds : List D} {sl : Sl} {k : Sl → Prop}, wTgs t ds sl k → ∃ sl', k sl'
  | .nil, [], _, _, h => ⟨_, h⟩
  | .nil, _ :: _, _, _, h => False.elim h
  | .cons t ts, d :: ds, sl, k, h => by
    obtain ⟨sl', h'⟩ := wTg_some h
    exact wTgs_some h'
  | .cons _ _, [], _, _, h => False.elim h
  | .nm _, ds, _, _, h => by cases ds <;> exact False.elim h
  | .tp _, ds, _, _, h => by cases ds <;> exact False.elim h
end
/-! ### a list of ours changes -/
theorem tabs_mut {H : Hp} {T : List (Addr × Str)} {a : Addr} {vs ws : List V} (t : LamX.Tabs T H) (e : H a = some (.lst vs)) : LamX.Tabs T (upd H a (.lst ws)) := fun p hp => by
  obtain ⟨ps, h1, h2, h3⟩ := t p hp
  have n1 : p.1 ≠ a := ne_of h1 e (fun z => nomatch z)
  refine ⟨ps, by rw [upd_ne n1]; exact h1, h2, fun pos cv hc => ?_⟩
  obtain ⟨c, e1, e2⟩ := h3 pos cv hc
  have n2 : c ≠ a := ne_of e2 e (fun z => by unfold LamX.CodeO at z; cases z)
  exact ⟨c, e1, by rw [upd_ne n2]; exact e2⟩
theorem strm_mut {H : Hp} {a : Addr} {ws : List V} (s : Strm G n H) (n1 : a ≠ G.st) (n2 : a ≠ G.inn) : Strm G n (upd H a (.lst ws)) := by
  obtain ⟨xs, c, h, m, z1, z2, z3, z4, zl, e1, e2, z5⟩ := s
  exact ⟨xs, c, h, m, z1, z2, z3, z4, zl, by rw [upd_ne (Ne.symm n1)]; exact e1, by rw [upd_ne (Ne.symm n2)]; exact e2, z5⟩
/-- what is ours may change: all else is as it was -/
theorem stp_mut {a : Addr} {o : HO} (b : Bas G A₀ W₀) (iot : W.iot = W₀.iot) (ha : A a) (n0 : ¬ A₀ a) : Stp A W A ⟨W.iot, upd W.H a o⟩ where
  keep := fun x u e nx t => by
    have : x ≠ a := fun z => nx (z ▸ ha)
    exact ⟨by show Kp u (upd W.H a o x); rw [upd_ne this, e]; exact Kp.refl u, nx⟩
  nam := fun m x e => ⟨e, fun vs h => by
    have : x ≠ a := fun z => n0 (z ▸ (b.nam m x (by rw [← iot]; exact e)).1)
    show upd W.H a o x = _
    rw [upd_ne this]
    exact h⟩
theorem Rep.mut (R : Rep G A₀ W₀ A σ W ⟨sl, n⟩) {a : Addr} {vs ws : List V} (ha : A a) (n0 : ¬ A₀ a) (e : W.H a = some (.lst vs)) (no : ∀ (i : Nat) (xs : List D), sl[i]? = some (.own xs) → σ[i]? ≠ some (some (.ref a))) :
    Rep G A₀ W₀ A σ ⟨W.iot, upd W.H a (.lst ws)⟩ ⟨sl, n⟩ := by
  have na : Non W₀.H a := (R.aold a ha).resolve_left n0
  have n1 : a ≠ G.st := fun z => n0 (z ▸ R.b0.st)
  have n2 : a ≠ G.inn := fun z => n0 (z ▸ R.b0.inn)
  have st := stp_mut (o := .lst ws) R.b0 R.iot ha n0
  have kp : ∀ x u, W.H x = some u → x ≠ a → upd W.H a (.lst ws) x = some u := fun x u e1 e2 => by rw [upd_ne e2]; exact e1
  refine ⟨R.b0, R.len, strm_mut R.strm n1 n2, tabs_mut R.tabs e, fun x hx => ?_, R.aup, R.aold, ⟨fun x u e1 t => ?_, fun x u e1 e2 e3 t => ?_⟩, R.iot, fun i d e1 => ?_, fun i xs e1 => ?_, R.sep, R.clo, fun i z p' e1 hz => (R.slf i z p' e1 hz).stp st fun q o h1 h2 h3 h4 => ⟨h1, kp q _ h3 (fun z => by rw [z, e] at h3; exact h4.nlst _ (Option.some.inj h3).symm)⟩⟩
  · by_cases h : x = a
    · subst h
      exact ⟨_, upd_same, fun _ z => nomatch z⟩
    · obtain ⟨o, e1, t⟩ := R.ain x hx
      exact ⟨o, kp x o e1 h, t⟩
  · have hx : x ≠ a := na.ne e1 t
    obtain ⟨o, e2, t2⟩ := R.ext.there x u e1 t
    exact ⟨o, kp x o e2 hx, t2⟩
  · have hx : x ≠ a := na.ne e1 t
    obtain ⟨k1, k2⟩ := R.ext.keep x u e1 e2 e3 t
    refine ⟨fun h => kp x u (k1 h) hx, ?_⟩
    show Kp u (upd W.H a (.lst ws) x)
    rw [upd_ne hx]
    exact k2
  · obtain ⟨v, f1, f2⟩ := R.val i d e1
    exact ⟨v, f1, f2.stp st⟩
  · obtain ⟨b, us, f1, f2, f3, f4, f5⟩ := R.own i xs e1
    have hb : b ≠ a := fun z => no i xs e1 (z ▸ f1)
    exact ⟨b, us, f1, f2, f3, kp b _ f4 hb, f5.stp st⟩
/-- an address of our own is laid beside -/
theorem Rep.moreO (R : Rep G A₀ W₀ A σ W ⟨sl, n⟩) {p : Addr} {o : HO} (to : NTbl o) (np : W.H p = none) : Rep G A₀ W₀ (fun a => A a ∨ a = p) σ ⟨W.iot, upd W.H p o⟩ ⟨sl, n⟩ := by
  have n0 : ¬ A₀ p := fun z => by
    obtain ⟨o, e, _⟩ := R.ain p (R.aup p z)
    rw [np] at e
    cases e
  have st : Stp A W (fun a => A a ∨ a = p) ⟨W.iot, upd W.H p o⟩ := (Stp.more np).trans (Stp.lay np)
  have kp : ∀ x u, W.H x = some u → upd W.H p o x = some u := fun x u e => by rw [upd_ne (ne_of_none e np)]; exact e
  refine ⟨R.b0, R.len, R.strm.lay np, R.tabs.ext (ext_new np), fun x hx => ?_, fun x hx => .inl (R.aup x hx), fun x hx => ?_, R.ext.trans (.lay np) fun _ h => h, R.iot, fun i d e1 => ?_, fun i xs e1 => ?_, R.sep, R.clo, fun i z p' e1 hz => (R.slf i z p' e1 hz).stp st fun q o h1 h2 h3 h4 => ⟨.inl h1, kp q _ h3⟩⟩
  · rcases hx with hx | rfl
    · obtain ⟨o, e, t⟩ := R.ain x hx
      exact ⟨o, kp x o e, t⟩
    · exact ⟨_, upd_same, to⟩
  · rcases hx with hx | rfl
    · exact R.aold x hx
    · exact .inr (R.ext.back (.of np))
  · obtain ⟨v, f1, f2⟩ := R.val i d e1
    exact ⟨v, f1, f2.stp st⟩
  · obtain ⟨b, us, f1, f2, f3, f4, f5⟩ := R.own i xs e1
    exact ⟨b, us, f1, .inl f2, f3, kp b _ f4, f5.stp st⟩
theorem Rep.more (R : Rep G A₀ W₀ A σ W ⟨sl, n⟩) {p : Addr} {vs : List V} (np : W.H p = none) : Rep G A₀ W₀ (fun a => A a ∨ a = p) σ ⟨W.iot, upd W.H p (.lst vs)⟩ ⟨sl, n⟩ := R.moreO (fun _ z => nomatch z) np
/-- fewer are ours -/
theorem Rep.less (R : Rep G A₀ W₀ A σ W ⟨sl, n⟩) (h : ∀ a, A1 a → A a) (h0 : ∀ a, A₀ a → A1 a) (ho : ∀ (i : Nat) (xs : List D) (a : Addr), sl[i]? = some (.own xs) → σ[i]? = some (some (.ref a)) → A1 a) (hs : ∀ (i : Nat) (z : Slot) (p : Addr), sl[i]? = some z → z.ad = some p → A1 p) : Rep G A₀ W₀ A1 σ W ⟨sl, n⟩ :=
  ⟨R.b0, R.len, R.strm, R.tabs, fun a ha => R.ain a (h a ha), h0, fun a ha => R.aold a (h a ha), R.ext, R.iot, fun i d e => let ⟨v, f1, f2⟩ := R.val i d e; ⟨v, f1, f2.stp (.less h)⟩,
    fun i xs e => let ⟨a, vs, f1, _, f3, f4, f5⟩ := R.own i xs e; ⟨a, vs, f1, ho i xs a e f1, f3, f4, f5.stp (.less h)⟩, R.sep, R.clo, fun i z p e hz => let ⟨o, e1, _, e3, e4, e5⟩ := R.slf i z p e hz; ⟨o, e1, hs i z p e hz, e3, e4, e5.stp (.less h)⟩⟩
/-! ### comprehensions -/
theorem wipe_in {σ : L2.St} {i : Nat} : ∀ {vs : List Nat}, i ∈ vs → (L2.wipe σ vs)[i]? = if i < σ.length then some none else none
  | v :: vs, h => by
    show ((L2.wipe σ vs).set v none)[i]? = _
    rw [List.getElem?_set]
    by_cases e : v = i
    · subst e
      rw [if_pos rfl, wipe_length]
    · rw [if_neg e]
      exact wipe_in (by rcases List.mem_cons.mp h with z | z; exact absurd z.symm e; exact z)
theorem Off.wipe {vs : List Nat} {σ σ' : L2.St} (h : Off vs σ σ') : L2.wipe σ' vs = L2.wipe σ vs := by
  apply List.ext_getElem?
  intro i
  by_cases hi : i ∈ vs
  · rw [wipe_in hi, wipe_in hi, h.1]
  · rw [wipe_out hi, wipe_out hi, h.2 i hi]
theorem off_wipe {vs : List Nat} {σ : L2.St} : Off vs σ (L2.wipe σ vs) := ⟨wipe_length _ _, fun j hj => wipe_out hj⟩
theorem Off.tr {vs : List Nat} {σ σ1 σ2 : L2.St} (h1 : Off vs σ σ1) (h2 : Off vs σ1 σ2) : Off vs σ σ2 := ⟨h2.1.trans h1.1, fun j hj => by rw [h2.2 j hj, h1.2 j hj]⟩
abbrev noE : Exn := fun _ _ => False
abbrev noW : WX := fun _ _ _ _ => False
def stepC (M : Pm) (t : Tg) (cond elt : X) (sl : Sl) (x : D) (n : Nat) (k : Option D → Nat → Prop) : Prop :=
  wTg t x (wipeS sl t.slots) fun ρ => (sem M.Phy cond).t noE ρ n fun b n => if b = true then (sem M.Phy elt).v noE ρ n fun d n => k (some d) n else k none n
theorem xs_no {A : Addr → Prop} {W : Wd} {σ : L2.St} : XsOk M noW A W σ noE := fun _ _ _ _ _ _ _ z => z
/-- the state between two turns of a comprehension -/
structure LcI (M : Pm) (A₀ : Addr → Prop) (W₀ : Wd) (A : Addr → Prop) (σ : L2.St) (W W1 : Wd) (sl : Sl) (Da : Addr) (t : Tg) (cond elt : X) (Qd : List D → Nat → Prop) (ds : List D) (H : Hp) (Wi : Wd) (n : Nat) (acc : List V) (accD : List D) : Prop where
  h : Wi.H = H
  S : Ste M.G A W Wi n
  R : Rep M.G A₀ W₀ (fun a => A a ∨ a = Da) σ Wi ⟨sl, n⟩
  e : Wi.H Da = some (.lst acc)
  x : Ats M.G (fun a => A a ∨ a = Da) Wi acc accD
  z : accD.length ≤ sizeMax
  s : Stp A W1 (fun a => A a ∨ a = Da) Wi
  w : compL (stepC M t cond elt sl) ds accD n Qd
theorem comp_rd {t : Tg} {it cond elt : X} {own : List (Str × Nat)} (nb : elt.isBor = false) (hown : own.map (·.2) = t.slots) {σ : L2.St} {H : Hp} {Qv : VK} (hh : rdX M Wx (.comp t it cond elt) σ H Qv) :
    tLc (rdI M Wx it) (gT c.K t) (rdT M noW cond) (rdX M noW elt) (own.map (·.2)) σ H Qv := by
  obtain ⟨A₀, W₀, A, W, sl, n, E, Qd, e, R, Xs, hw, k⟩ := hh
  rw [hown]
  refine ⟨A₀, W₀, A, W, sl, n, E, _, e, R, Xs, hw, fun J ds W1 n1 S1 wk q1 => ?_⟩
  have q1 : compL (stepC M t cond elt sl) ds [] n1 (fun ds n => Qd (.lst 0 ds) n) := q1
  have wk : Wk M.G A W1 J ds := wk
  intro Da nD
  have R1 := R.ste S1
  have nA : ¬ A Da := fun z => by
    obtain ⟨o, e, _⟩ := R1.ain Da z
    rw [nD] at e
    cases e
  have n0 : ¬ A₀ Da := fun z => nA (R.aup Da z)
  have noOwn : ∀ {Wi : Wd} {ni : Nat}, Rep M.G A₀ W₀ A σ W ⟨sl, n⟩ → ∀ (i : Nat) (xs : List D), sl[i]? = some (.own xs) → σ[i]? ≠ some (some (.ref Da)) := fun _ i xs e1 e2 => by
    obtain ⟨a, vs, f1, f2, _⟩ := R.own i xs e1
    rw [f1] at e2
    cases e2
    exact nA f2
  let Pv : Nat → Hp → Prop := fun i H => i ≤ ds.length ∧ ∃ Wi ni acc accD, LcI M A₀ W₀ A σ W W1 sl Da t cond elt (fun ds n => Qd (.lst 0 ds) n) (ds.drop i) H Wi ni acc accD
  refine ⟨fun i m H => m = ds.length - i ∧ Pv i H, ⟨ds.length, by simp, Nat.zero_le _, ⟨W1.iot, upd W1.H Da (.lst [])⟩, n1, [], [], ?_⟩, ?_⟩
  · exact ⟨rfl, S1.trans (.lay S1.strm S1.tabs nD), R1.more nD, upd_same, .nil, Nat.zero_le _, (Stp.more nD).trans (Stp.lay nD), by simpa using q1⟩
  · rintro i m H ⟨rfl, hi, Wi, ni, acc, accD, I⟩
    have hH := I.h
    subst hH
    by_cases hlt : i < ds.length
    · refine .inr ⟨wk.go _ Wi I.s i hlt, Pv (i + 1), fun H' p' => ⟨ds.length - (i + 1), by omega, rfl, p'⟩, fun x H' y => ?_⟩
      obtain ⟨W2, e2, S2, x2⟩ := wk.yld _ Wi ni I.s I.R.bas I.S.strm I.S.tabs i ds[i] (List.getElem?_eq_getElem hlt) x H' y
      have hw := I.w
      rw [List.drop_eq_getElem_cons hlt] at hw
      have R2 := I.R.ste S2
      rw [← e2]
      refine gT_ok (R2.wipe t.slots) x2 hw fun σ' sl' R3 o w3 => ⟨(off_wipe.tr o).wipe, ?_⟩
      refine ⟨A₀, W₀, _, W2, sl', ni, noE, _, rfl, R3, xs_no, w3, fun b d W3 n3 S3 r3 q3 => ?_⟩
      cases (show b = d from r3)
      have S23 := S2.trans S3
      have lift : ∀ {W' : Wd} {n' : Nat}, Ste M.G (fun a => A a ∨ a = Da) Wi W' n' → Ste M.G A W W' n' := fun S => ⟨S.iot.trans I.S.iot, I.S.ext.trans S.ext fun _ h => .inl h, S.strm, S.tabs⟩
      cases b with
      | false =>
        rw [if_neg Bool.false_ne_true] at q3 ⊢
        exact ⟨hlt, W3, n3, acc, accD, rfl, lift S23, I.R.ste S23, (S23.ext.keep Da _ I.e (fun z => n0 (z ▸ R.b0.st)) (fun z => n0 (z ▸ R.b0.inn)) (fun _ z => nomatch z)).1 (.inr rfl), I.x.stp (I.R.bas.stp S23), I.z, I.s.trans (I.R.bas.stp S23), q3⟩
      | true =>
        rw [if_pos rfl] at q3 ⊢
        refine ⟨A₀, W₀, _, W3, sl', n3, noE, _, rfl, R3.ste S3, xs_no, q3, fun v dv W4 n4 S4 r4 q4 => ?_⟩
        have S24 := S23.trans S4
        have e4 : W4.H Da = some (.lst acc) := (S24.ext.keep Da _ I.e (fun z => n0 (z ▸ R.b0.st)) (fun z => n0 (z ▸ R.b0.inn)) (fun _ z => nomatch z)).1 (.inr rfl)
        have x4 := I.x.stp (I.R.bas.stp S24)
        have lz : accD.length < sizeMax := q4.1
        have R4 := I.R.ste S24
        have hv := r4.2.1 nb
        have mu := stp_mut (A := fun a => A a ∨ a = Da) (W := W4) (a := Da) (o := .lst (acc ++ [v])) R.b0 R4.iot (.inr rfl) n0
        refine ⟨acc, e4, ?_, hlt, ⟨W4.iot, upd W4.H Da (.lst (acc ++ [v]))⟩, n4, acc ++ [v], accD ++ [dv], rfl, ?_, R4.mut (.inr rfl) n0 e4 (noOwn (Wi := Wi) (ni := ni) R), upd_same, (x4.append (.cons hv .nil)).stp mu, ?_, (I.s.trans (I.R.bas.stp S24)).trans mu, q4.2⟩
        · rw [x4.length]
          exact Nat.lt_trans lz smax_lt
        · have S4' := lift S24
          have nW : Non W.H Da := S1.ext.back (.of nD)
          have kp : ∀ x u, W4.H x = some u → x ≠ Da → upd W4.H Da (.lst (acc ++ [v])) x = some u := fun x u e1 e2 => by rw [upd_ne e2]; exact e1
          refine ⟨S4'.iot, ⟨fun x u e1 tt => ?_, fun x u e1 e2 e3 tt => ?_⟩, strm_mut S4'.strm (fun z => n0 (z ▸ R.b0.st)) (fun z => n0 (z ▸ R.b0.inn)), tabs_mut S4'.tabs e4⟩
          · have hx : x ≠ Da := nW.ne e1 tt
            obtain ⟨o, e2, t2⟩ := S4'.ext.there x u e1 tt
            exact ⟨o, kp x o e2 hx, t2⟩
          · have hx : x ≠ Da := nW.ne e1 tt
            obtain ⟨k1, k2⟩ := S4'.ext.keep x u e1 e2 e3 tt
            refine ⟨fun h => kp x u (k1 h) hx, ?_⟩
            show Kp u (upd W4.H Da (.lst (acc ++ [v])) x)
            rw [upd_ne hx]
            exact k2
        · rw [List.length_append]
          exact lz
    · have ei : i = ds.length := by omega
      subst ei
      refine .inl ⟨wk.stop _ Wi I.s, ?_⟩
      have hw := I.w
      rw [List.drop_length] at hw
      refine k _ _ Wi ni I.S (relX_at (.lst I.e nA (I.x.stp (.less fun _ h => .inl h))) ⟨fun j xs e => ?_, fun z => nomatch z⟩) hw
      cases e
      exact ⟨Da, acc, rfl, S1.ext.back (.of nD), I.e, I.x⟩
theorem sx_comp (g : Good c M Wx) {t : Tg} {it cond elt : X} {own : List (Str × Nat)} {scope : Scope} {tg iter e : Expr} {ifs : List Expr} (nb : elt.isBor = false) (hi : PI c tg iter (rdI M Wx it)) (ok : BlkOk c.N c.env.scope scope own) (hown : own.map (·.2) = t.slots)
    (hg : ∀ (s : Shared) (H : Hp) (C : Addr) (cl : List (Str × Addr)) (fp : List Addr), PG (c.blk s H scope (compEnvC scope cl C c.env) fp) tg (gT c.K t))
    (ht : ∀ (s : Shared) (H : Hp) (C : Addr) (cl : List (Str × Addr)) (fp : List Addr), PTs (c.blk s H scope (compEnvC scope cl C c.env) fp) ifs (rdT M noW cond))
    (he : ∀ (s : Shared) (H : Hp) (C : Addr) (cl : List (Str × Addr)) (fp : List Addr), PE (c.blk s H scope (compEnvC scope cl C c.env) fp) e (rdX M noW elt)) (hs : ∀ x, foldedSetIterable iter c.env x = pure x) :
    PE c (.ListComp e [⟨tg, iter, ifs, 0⟩] scope pos) (rdX M Wx (.comp t it cond elt)) :=
  PE.imp (pe_lc g.calm g.nd hi ok hg ht he hs) fun σ H Qv h => comp_rd nb hown h
end
end Q
/-! Q layer, part J: statements. -/
namespace Q
open PySem PySem.Spec L2
section
variable {c : Cx} {M : Pm} {Wx : WX} {pos : Pos} {G : Gb} {A₀ A A1 A' : Addr → Prop} {W₀ W W' W1 W2 : Wd} {σ : L2.St} {sl : Sl} {n : Nat}
/-- the ends over data, and those over slots and heap -/
structure NdOk (M : Pm) (A₀ : Addr → Prop) (W₀ : Wd) (A : Addr → Prop) (W : Wd) (Kd : Nd) (K : Ends) : Prop where
  nx : ∀ A' σ' W' ρ', Rep M.G A₀ W₀ A' σ' W' ρ' → Stp A W A' W' → Kd.nx ρ' → K.nx σ' W'.H
  bk : ∀ A' σ' W' ρ', Rep M.G A₀ W₀ A' σ' W' ρ' → Stp A W A' W' → Kd.bk ρ' → K.bk σ' W'.H
  ct : ∀ A' σ' W' ρ', Rep M.G A₀ W₀ A' σ' W' ρ' → Stp A W A' W' → Kd.ct ρ' → K.ct σ' W'.H
  rt : ∀ v d A' σ' W' sl' n', Rep M.G A₀ W₀ A' σ' W' ⟨sl', n'⟩ → At M.G A' W' v d → (M.fr = true → Frs M.G A₀ W₀ W' v d) → Kd.rt d n' → K.rt v W'.H
theorem NdOk.stp {Kd : Nd} {K : Ends} (h : NdOk M A₀ W₀ A W Kd K) (s : Stp A W A1 W1) : NdOk M A₀ W₀ A1 W1 Kd K :=
  ⟨fun A' σ' W' ρ' R s' q => h.nx A' σ' W' ρ' R (s.trans s') q, fun A' σ' W' ρ' R s' q => h.bk A' σ' W' ρ' R (s.trans s') q, fun A' σ' W' ρ' R s' q => h.ct A' σ' W' ρ' R (s.trans s') q, h.rt⟩
/-- what is wanted of exceptions, at slots of any kind -/
def XsS (M : Pm) (Wx : WX) (A₀ : Addr → Prop) (W₀ : Wd) (E : Exc → Env → Prop) : Prop := ∀ A' σ' W' ρ' e cls dd, Rep M.G A₀ W₀ A' σ' W' ρ' → ExcAt M.G A' W' cls dd e → E e ρ' → Wx cls dd σ' W'.H
theorem XsS.ok {E : Exc → Env → Prop} (h : XsS M Wx A₀ W₀ E) (R : Rep M.G A₀ W₀ A σ W ⟨sl, n⟩) : XsOk M Wx A W σ fun e n => E e ⟨sl, n⟩ := fun e W' n' cls dd S x q => h A σ W' ⟨sl, n'⟩ e cls dd (R.ste S) x q
def rdS (M : Pm) (Wx : WX) (s : S) : TS := fun K σ H => ∃ A₀ W₀ A W ρ E Kd, W.H = H ∧ Rep M.G A₀ W₀ A σ W ρ ∧ XsS M Wx A₀ W₀ E ∧ wS M.Phy s E ρ Kd ∧ NdOk M A₀ W₀ A W Kd K
theorem PS.imp {st : Stmt} {t t' : TS} (h : PS c st t) (i : ∀ K σ H, t' K σ H → t K σ H) : PS c st t' := ⟨fun pins s σ H K I q => h.run pins s σ H K I (i K σ H q)⟩
theorem PSs.imp {st : List Stmt} {t t' : TS} (h : PSs c st t) (i : ∀ K σ H, t' K σ H → t K σ H) : PSs c st t' := ⟨fun pins s σ H K I q => h.run pins s σ H K I (i K σ H q)⟩
/-- an expression of a statement read -/
theorem rdX_of {x : X} {K : Ends} {E : Exc → Env → Prop} {Qd : D → Nat → Prop} {Q : VK} (R : Rep M.G A₀ W₀ A σ W ⟨sl, n⟩) (Xs : XsS M Wx A₀ W₀ E) (hw : wX M.Phy (fun e n => E e ⟨sl, n⟩) x sl n Qd)
    (k : ∀ v d W' n', Ste M.G A W W' n' → Rep M.G A₀ W₀ A σ W' ⟨sl, n'⟩ → Stp A W A W' → relX M x A W W' v d → Qd d n' → Q v W'.H) : rdX M Wx x σ W.H Q :=
  ⟨A₀, W₀, A, W, sl, n, _, Qd, rfl, R, Xs.ok R, hw, fun v d W' n' S r q => k v d W' n' S (R.ste S) (R.bas.stp S) r q⟩
theorem rdT_of {x : X} {K : Ends} {E : Exc → Env → Prop} {Qd : Bool → Nat → Prop} {Q : Bool → Hp → Prop} (R : Rep M.G A₀ W₀ A σ W ⟨sl, n⟩) (Xs : XsS M Wx A₀ W₀ E) (hw : wT M.Phy (fun e n => E e ⟨sl, n⟩) x sl n Qd)
    (k : ∀ b W' n', Rep M.G A₀ W₀ A σ W' ⟨sl, n'⟩ → Stp A W A W' → Qd b n' → Q b W'.H) : rdT M Wx x σ W.H Q :=
  ⟨A₀, W₀, A, W, sl, n, _, Qd, rfl, R, Xs.ok R, hw, fun v d W' n' S r q => by
    cases (show v = d from r)
    exact k v W' n' (R.ste S) (R.bas.stp S) q⟩
theorem ss_nl : PSs c [] (rdS M Wx .nl) := PSs.imp pss_nil fun K σ H ⟨A₀, W₀, A, W, ρ, E, Kd, e, R, Xs, hw, k⟩ => by
  subst e
  exact k.nx A σ W ρ R (.refl A W) hw
theorem ss_sq {s r : S} {st : Stmt} {rest : List Stmt} (h1 : PS c st (rdS M Wx s)) (h2 : PSs c rest (rdS M Wx r)) : PSs c (st :: rest) (rdS M Wx (.sq s r)) := by
  refine PSs.imp (pss_cons h1 h2) fun K σ H ⟨A₀, W₀, A, W, ρ, E, Kd, e, R, Xs, hw, k⟩ => ?_
  exact ⟨A₀, W₀, A, W, ρ, E, _, e, R, Xs, hw, ⟨fun A' σ' W' ρ' R' s' q => ⟨A₀, W₀, A', W', ρ', E, Kd, rfl, R', Xs, q, k.stp s'⟩, k.bk, k.ct, k.rt⟩⟩
theorem ss_exp {x : X} {e : Expr} (hs : swapsWith e none pos.line c.env = pure false) (h : PE c e (rdX M Wx x)) : PS c (.Expr e pos) (rdS M Wx (.exp x)) := by
  refine PS.imp (ps_expr h hs) fun K σ H ⟨A₀, W₀, A, W, ⟨sl, n⟩, E, Kd, e, R, Xs, hw, k⟩ => ?_
  subst e
  exact rdX_of (K := K) R Xs hw fun v d W' n' S R' s' r q => k.nx A σ W' ⟨sl, n'⟩ R' s' q
theorem Frs.entry {v : V} {d : D} (R : Rep M.G A₀ W₀ A σ W ⟨sl, n⟩) (f : Frs M.G A W W' v d) : Frs M.G A₀ W₀ W' v d := ⟨fun k xs e => by
  obtain ⟨p, vs, e1, np, e2, x⟩ := f.1 k xs e
  exact ⟨p, vs, e1, R.ext.back np, e2, x.stp (.less fun a h => h.imp (R.aup a) id)⟩, fun z => by
  obtain ⟨p, o, e1, np, e2, x⟩ := f.2 z
  exact ⟨p, o, e1, R.ext.back np, e2, x.stp (.less fun a h => h.imp (R.aup a) id)⟩⟩
theorem ss_ret {x : X} {e : Expr} (nb : x.isBor = false) (hf : M.fr = true → x.fresh = true) (h : PE c e (rdX M Wx x)) : PS c (.Return (some e) pos) (rdS M Wx (.ret x)) := by
  refine PS.imp (ps_ret h) fun K σ H ⟨A₀, W₀, A, W, ⟨sl, n⟩, E, Kd, e, R, Xs, hw, k⟩ => ?_
  subst e
  exact rdX_of (K := K) R Xs hw fun v d W' n' S R' s' r q => k.rt v d A σ W' sl n' R' (r.2.1 nb) (fun z => (r.2.2 (hf z)).entry R) q
theorem ss_retN : PS c (.Return none pos) (rdS M Wx .retN) := by
  refine PS.imp ps_retN fun K σ H ⟨A₀, W₀, A, W, ⟨sl, n⟩, E, Kd, e, R, Xs, hw, k⟩ => ?_
  subst e
  exact k.rt .non .non A σ W sl n R .non (fun _ => frs_no (fun _ _ z => nomatch z) rfl) hw
theorem ss_pas : PS c (.Pass pos) (rdS M Wx .pas) := by
  refine PS.imp ps_pass fun K σ H ⟨A₀, W₀, A, W, ⟨sl, n⟩, E, Kd, e, R, Xs, hw, k⟩ => ?_
  subst e
  exact k.nx A σ W _ R (.refl A W) hw
theorem ss_brk : PS c (.Break pos) (rdS M Wx .brk) := by
  refine PS.imp ps_break fun K σ H ⟨A₀, W₀, A, W, ⟨sl, n⟩, E, Kd, e, R, Xs, hw, k⟩ => ?_
  subst e
  exact k.bk A σ W _ R (.refl A W) hw
theorem ss_cnt : PS c (.Continue pos) (rdS M Wx .cnt) := by
  refine PS.imp ps_continue fun K σ H ⟨A₀, W₀, A, W, ⟨sl, n⟩, E, Kd, e, R, Xs, hw, k⟩ => ?_
  subst e
  exact k.ct A σ W _ R (.refl A W) hw
theorem ss_iff {x : X} {a b : S} {e : Expr} {as bs : List Stmt} (h : PT c e (rdT M Wx x)) (ha : PSs c as (rdS M Wx a)) (hb : PSs c bs (rdS M Wx b)) : PS c (.If e as bs pos) (rdS M Wx (.iff x a b)) := by
  refine PS.imp (ps_if h ha hb) fun K σ H ⟨A₀, W₀, A, W, ⟨sl, n⟩, E, Kd, e, R, Xs, hw, k⟩ => ?_
  subst e
  refine rdT_of (K := K) R Xs hw fun t W' n' R' s' q => ?_
  cases t with
  | true =>
    rw [if_pos rfl] at q ⊢
    exact ⟨A₀, W₀, A, W', _, E, Kd, rfl, R', Xs, q, k.stp s'⟩
  | false =>
    rw [if_neg Bool.false_ne_true] at q ⊢
    exact ⟨A₀, W₀, A, W', _, E, Kd, rfl, R', Xs, q, k.stp s'⟩
/-! ### stores -/
theorem asg_rd {i : Nat} {x : X} {K : Ends} {σ : L2.St} {H : Hp} (nb : x.isBor = false) (h : rdS M Wx (.asg i x) K σ H) : rdX M Wx x σ H fun v H1 => gName i v σ H1 K.nx := by
  obtain ⟨A₀, W₀, A, W, ⟨sl, n⟩, E, Kd, e, R, Xs, hw, k⟩ := h
  subst e
  exact rdX_of (K := K) R Xs hw fun v d W' n' S R' s' r q => k.nx A _ W' _ (R'.put i (r.2.1 nb)) s' q
theorem Rep.putO {n' : Nat} (R : Rep M.G A₀ W₀ A σ W ⟨sl, n⟩) (S : Ste M.G A W W' n') (i : Nat) {p : Addr} {vs : List V} {xs : List D} (np : Non W.H p) (e : W'.H p = some (.lst vs)) (x : Ats M.G (fun a => A a ∨ a = p) W' vs xs) :
    Rep M.G A₀ W₀ (fun a => A a ∨ a = p) (σ.set i (some (.ref p))) W' ⟨sl.set i (.own xs), n'⟩ ∧ Stp A W (fun a => A a ∨ a = p) W' := by
  have R' := R.ste S
  have s1 := R.bas.stp S
  have n0 : ¬ A₀ p := fun z => by
    obtain ⟨o, e, t⟩ := R.ain p (R.aup p z)
    exact np.ne e t rfl
  have nA : ¬ A p := fun z => by
    obtain ⟨o, e, t⟩ := R.ain p z
    exact np.ne e t rfl
  have s2 : Stp (fun a => A a ∨ a = p) W (fun a => A a ∨ a = p) W' := ⟨fun a o e na t => ⟨(s1.keep a o e (fun z => na (.inl z)) t).1, na⟩, s1.nam⟩
  have st : Stp A W (fun a => A a ∨ a = p) W' := (Stp.moreN np).trans s2
  have key : ∀ {j : Nat} {s : Slot}, (sl.set i (.own xs))[j]? = some s → (i = j ∧ s = .own xs ∧ i < sl.length) ∨ (i ≠ j ∧ sl[j]? = some s) := fun {j s} e => by
    rw [List.getElem?_set] at e
    by_cases hj : i = j
    · subst hj
      rw [if_pos rfl] at e
      split at e
      · rename_i hl
        exact .inl ⟨rfl, (Option.some.inj e).symm, hl⟩
      · cases e
    · rw [if_neg hj] at e
      exact .inr ⟨hj, e⟩
  have ownp : ∀ {j : Nat} {ys : List D}, sl[j]? = some (.own ys) → σ[j]? ≠ some (some (.ref p)) := fun {j ys} e1 e2 => by
    obtain ⟨a, us, f1, f2, _⟩ := R.own j ys e1
    rw [f1] at e2
    cases e2
    exact nA f2
  refine ⟨⟨R.b0, by simp [R.len], R'.strm, R'.tabs, fun a ha => ?_, fun a ha => .inl (R.aup a ha), fun a ha => ?_, R'.ext, R'.iot, fun j d e1 => ?_, fun j ys e1 => ?_, fun j l a ys zs e1 e2 e3 e4 => ?_, fun j g k e1 => ?_, fun j z p' e1 hz => ?_⟩, st⟩
  · rcases ha with ha | rfl
    · exact R'.ain a ha
    · exact ⟨_, e, fun _ z => nomatch z⟩
  · rcases ha with ha | rfl
    · exact R.aold a ha
    · exact .inr (R.ext.back np)
  · rcases key e1 with ⟨_, z, _⟩ | ⟨hj, e1⟩
    · cases z
    · obtain ⟨v, f1, f2⟩ := R.val j d e1
      exact ⟨v, by rw [List.getElem?_set_ne hj]; exact f1, f2.stp st⟩
  · rcases key e1 with ⟨rfl, z, hl⟩ | ⟨hj, e1⟩
    · cases z
      have hl : i < σ.length := by rw [R.len]; exact hl
      exact ⟨p, vs, by simp [hl], .inr rfl, n0, e, x⟩
    · obtain ⟨a, us, f1, f2, f3, f4, f5⟩ := R.own j ys e1
      refine ⟨a, us, by rw [List.getElem?_set_ne hj]; exact f1, .inl f2, f3, ?_, f5.stp st⟩
      exact (S.ext.keep a _ f4 (fun z => f3 (z ▸ R.b0.st)) (fun z => f3 (z ▸ R.b0.inn)) (fun _ z => nomatch z)).1 f2
  · rcases key e1 with ⟨rfl, z, hl⟩ | ⟨hj, e1⟩
    · rcases key e2 with ⟨rfl, z, hl⟩ | ⟨hk, e2⟩
      · rfl
      · exfalso
        have hl : i < σ.length := by rw [R.len]; exact hl
        rw [List.getElem?_set_self hl] at e3
        cases e3
        rw [List.getElem?_set_ne hk] at e4
        exact ownp e2 e4
    · rcases key e2 with ⟨rfl, z, hl⟩ | ⟨hk, e2⟩
      · exfalso
        have hl : i < σ.length := by rw [R.len]; exact hl
        rw [List.getElem?_set_self hl] at e4
        cases e4
        rw [List.getElem?_set_ne hj] at e3
        exact ownp e1 e3
      · rw [List.getElem?_set_ne hj] at e3
        rw [List.getElem?_set_ne hk] at e4
        exact R.sep j l a ys zs e1 e2 e3 e4
  · obtain ⟨hj, e1⟩ := set_other e1 (fun z => nomatch z)
    rw [List.getElem?_set_ne hj]
    exact R.clo j g k e1
  · obtain ⟨hj, e1⟩ := set_other e1 (ad_ne hz rfl)
    rw [List.getElem?_set_ne hj]
    refine (R.slf j z p' e1 hz).stp st fun q o h1 h2 h3 h4 => ⟨.inl h1, ?_⟩
    exact (S.ext.keep q _ h3 (fun z => h2 (z ▸ R.b0.st)) (fun z => h2 (z ▸ R.b0.inn)) h4.ntbl).1 h1
theorem asgO_rd {i : Nat} {x : X} {K : Ends} {σ : L2.St} {H : Hp} (fr : x.fresh = true) (h : rdS M Wx (.asgO i x) K σ H) : rdX M Wx x σ H fun v H1 => gName i v σ H1 K.nx := by
  obtain ⟨A₀, W₀, A, W, ⟨sl, n⟩, E, Kd, e, R, Xs, hw, k⟩ := h
  subst e
  refine rdX_of (K := K) R Xs hw fun v d W' n' S R' s' r q => ?_
  split at q
  · obtain ⟨p, vs, rfl, np, e, x⟩ := (r.2.2 fr).1 0 _ rfl
    obtain ⟨R2, s2⟩ := R.putO S i np e x
    exact k.nx _ _ W' _ R2 s2 q
  · exact q.elim
end
end Q
/-! Q layer, part K: lists of ours, loops. -/
namespace Q
open PySem PySem.Spec L2
section
variable {c : Cx} {M : Pm} {Wx : WX} {pos : Pos} {G : Gb} {A₀ A A1 A' : Addr → Prop} {W₀ W W' W1 W2 : Wd} {σ : L2.St} {sl : Sl} {n : Nat}
theorem asgT_rd {K : PySem.W.Frag} {t : Tg} {x : X} {Ks : Ends} {σ : L2.St} {H : Hp} (nb : x.isBor = false) (h : rdS M Wx (.asgT t x) Ks σ H) : rdX M Wx x σ H fun v H1 => gT K t v σ H1 Ks.nx := by
  obtain ⟨A₀, W₀, A, W, ⟨sl, n⟩, E, Kd, e, R, Xs, hw, k⟩ := h
  subst e
  refine rdX_of (K := Ks) R Xs hw fun v d W' n' S R' s' r q => ?_
  exact gT_ok R' (r.2.1 nb) q fun σ' sl' R2 _ q2 => k.nx A σ' W' _ R2 s' q2
/-- a list of ours in slot i changes to ws -/
theorem Rep.own_mut (R : Rep G A₀ W₀ A σ W ⟨sl, n⟩) {i : Nat} {xs ys : List D} {a : Addr} {vs ws : List V} (e : sl[i]? = some (.own xs)) (hs : σ[i]? = some (some (.ref a))) (ha : A a) (n0 : ¬ A₀ a) (eh : W.H a = some (.lst vs)) (x : Ats G A W ws ys) :
    Rep G A₀ W₀ A σ ⟨W.iot, upd W.H a (.lst ws)⟩ ⟨sl.set i (.own ys), n⟩ ∧ Stp A W A ⟨W.iot, upd W.H a (.lst ws)⟩ := by
  have st := stp_mut (W := W) (o := .lst ws) R.b0 R.iot ha n0
  have hi : i < sl.length := (List.getElem?_eq_some_iff.mp e).1
  have key : ∀ {j : Nat} {s : Slot}, (sl.set i (.own ys))[j]? = some s → (i = j ∧ s = .own ys) ∨ (i ≠ j ∧ sl[j]? = some s) := fun {j s} e => by
    rw [List.getElem?_set] at e
    by_cases hj : i = j
    · subst hj
      rw [if_pos rfl, if_pos hi] at e
      exact .inl ⟨rfl, (Option.some.inj e).symm⟩
    · rw [if_neg hj] at e
      exact .inr ⟨hj, e⟩
  -- first forget the slot, change the list, then set it
  have R1 := R.cut i
  have no : ∀ (j : Nat) (zs : List D), (sl.set i .un)[j]? = some (.own zs) → (σ.set i none)[j]? ≠ some (some (.ref a)) := fun j zs e1 e2 => by
    rw [List.getElem?_set] at e1
    by_cases hj : i = j
    · subst hj
      rw [if_pos rfl] at e1
      split at e1 <;> simp at e1
    · rw [if_neg hj] at e1
      rw [List.getElem?_set_ne hj] at e2
      exact hj (R.sep i j a xs zs e e1 hs e2)
  have R2 := R1.mut (ws := ws) ha n0 eh no
  refine ⟨⟨R2.b0, by simp [R.len], R2.strm, R2.tabs, R2.ain, R2.aup, R2.aold, R2.ext, R2.iot, fun j d e1 => ?_, fun j zs e1 => ?_, fun j l b us zs e1 e2 e3 e4 => ?_, fun j g k e1 => R.clo j g k (set_other e1 (fun z => nomatch z)).2, fun j z p' e1 hz => ?_⟩, st⟩
  · rcases key e1 with ⟨_, z⟩ | ⟨hj, e1⟩
    · cases z
    · obtain ⟨v, f1, f2⟩ := R.val j d e1
      exact ⟨v, f1, f2.stp st⟩
  · rcases key e1 with ⟨rfl, z⟩ | ⟨hj, e1⟩
    · cases z
      exact ⟨a, ws, hs, ha, n0, upd_same, x.stp st⟩
    · obtain ⟨b, us, f1, f2, f3, f4, f5⟩ := R.own j zs e1
      have hb : b ≠ a := fun z => hj (R.sep i j a xs zs e e1 hs (z ▸ f1))
      exact ⟨b, us, f1, f2, f3, by show upd W.H a _ b = _; rw [upd_ne hb]; exact f4, f5.stp st⟩
  · rcases key e1 with ⟨rfl, _⟩ | ⟨hj, e1⟩ <;> rcases key e2 with ⟨rfl, _⟩ | ⟨hl, e2⟩
    · rfl
    · exact R.sep _ _ b xs zs e e2 e3 e4
    · exact R.sep _ _ b us xs e1 e e3 e4
    · exact R.sep _ _ b us zs e1 e2 e3 e4
  · refine (R.slf j z p' (set_other e1 (ad_ne hz rfl)).2 hz).stp st fun q o h1 h2 h3 h4 => ⟨h1, ?_⟩
    show upd W.H a _ q = _
    rw [upd_ne (fun z => by rw [z, eh] at h3; exact h4.nlst _ (Option.some.inj h3).symm)]
    exact h3
theorem lookO_some {i : Nat} {Q : List D → Prop} (h : lookO sl i Q) : ∃ xs, sl[i]? = some (.own xs) ∧ Q xs := by
  unfold lookO at h
  split at h
  · rename_i xs e
    exact ⟨xs, e, h⟩
  · exact h.elim
theorem Rep.ownAt (R : Rep G A₀ W₀ A σ W ⟨sl, n⟩) {i : Nat} {xs : List D} (e : sl[i]? = some (.own xs)) : ∃ a vs, σ[i]? = some (some (.ref a)) ∧ A a ∧ ¬ A₀ a ∧ W.H a = some (.lst vs) ∧ Ats G A W vs xs := R.own i xs e
def tApp (K : PySem.W.Frag) (i : Nat) (te : TE) : TS := tDrop (tBM K "list" rAppend (tVar i) (tCons te tNil))
theorem app_rd {K : PySem.W.Frag} {i : Nat} {x : X} {Ks : Ends} {σ : L2.St} {H : Hp} (nb : x.isBor = false) (h : rdS M Wx (.app i x) Ks σ H) : tApp K i (rdX M Wx x) Ks σ H := by
  obtain ⟨A₀, W₀, A, W, ⟨sl, n⟩, E, Kd, e, R, Xs, hw, k⟩ := h
  subst e
  obtain ⟨xs, e, hw⟩ := lookO_some hw
  obtain ⟨a, vs, h1, h2, h3, h4, h5⟩ := R.ownAt e
  refine ⟨_, h1, .inl ⟨rfl, vs, SqL.of h4⟩, ?_⟩
  refine rdX_of (K := Ks) R Xs hw fun v d W' n' S R' s' r q => ?_
  obtain ⟨a', ws, f1, f2, f3, f4, f5⟩ := R'.ownAt e
  rw [h1] at f1
  cases f1
  obtain ⟨R2, s2⟩ := R'.own_mut e h1 f2 f3 f4 (f5.append (.cons (r.2.1 nb) .nil))
  exact ⟨a, ws, v, rfl, rfl, f4, by rw [f5.length]; exact Nat.lt_trans q.1 smax_lt, k.nx A σ _ _ R2 (s'.trans s2) q.2⟩
def tExt (K : PySem.W.Frag) (i : Nat) (te : TE) : TS := tDrop (tBM K "list" rExtend (tVar i) (tCons te tNil))
theorem ext_rd {K : PySem.W.Frag} {i : Nat} {x : X} {Ks : Ends} {σ : L2.St} {H : Hp} (nb : x.isBor = false) (h : rdS M Wx (.ext i x) Ks σ H) : tExt K i (rdX M Wx x) Ks σ H := by
  obtain ⟨A₀, W₀, A, W, ⟨sl, n⟩, E, Kd, e, R, Xs, hw, k⟩ := h
  subst e
  obtain ⟨xs, e, hw⟩ := lookO_some hw
  obtain ⟨a, vs, h1, h2, h3, h4, h5⟩ := R.ownAt e
  refine ⟨_, h1, .inl ⟨rfl, vs, SqL.of h4⟩, ?_⟩
  refine rdX_of (K := Ks) R Xs hw fun v d W' n' S R' s' r q => ?_
  obtain ⟨a', ws, f1, f2, f3, f4, f5⟩ := R'.ownAt e
  rw [h1] at f1
  cases f1
  cases d with
  | lst j ys =>
    obtain ⟨b, us, rfl, g1, g2⟩ := (r.2.1 nb).isl
    obtain ⟨R2, s2⟩ := R'.own_mut e h1 f2 f3 f4 (f5.append g2)
    exact ⟨a, b, ws, us, rfl, rfl, f4, g1, by rw [f5.length, g2.length]; exact Nat.le_trans q.1 smax, k.nx A σ _ _ R2 (s'.trans s2) q.2⟩
  | _ => exact False.elim q
def tSeti (i : Nat) (tx tk : TE) : TS := tAsg tx (gSub (tVar i) tk rSetL)
theorem ixN_len {vs : List V} {xs : List D} {j : Int} {m : Nat} (h : vs.length = xs.length) (e : ixN xs.length j = some m) : ixN vs.length j = some m := by rw [h]; exact e
theorem seti_rd {i : Nat} {x kx : X} {Ks : Ends} {σ : L2.St} {H : Hp} (nb : x.isBor = false) (h : rdS M Wx (.seti i kx x) Ks σ H) : tSeti i (rdX M Wx x) (rdX M Wx kx) Ks σ H := by
  obtain ⟨A₀, W₀, A, W, ⟨sl, n⟩, E, Kd, e, R, Xs, hw, k⟩ := h
  subst e
  show rdX M Wx x σ W.H (fun v H1 => gSub (tVar i) (rdX M Wx kx) rSetL v σ H1 Ks.nx)
  refine rdX_of (K := Ks) R Xs hw fun v d W' n' S R' s' r q => ?_
  obtain ⟨xs, e, q⟩ := lookO_some q
  obtain ⟨a, vs, h1, h2, h3, h4, h5⟩ := R'.ownAt e
  refine ⟨_, h1, ?_⟩
  refine rdX_of (K := Ks) R' Xs q fun u du W2 n2 S2 R2 s2 r2 q2 => ?_
  obtain ⟨a', ws, f1, f2, f3, f4, f5⟩ := R2.ownAt e
  rw [h1] at f1
  cases f1
  cases du with
  | int j =>
    obtain ⟨m, em, q2⟩ := q2
    obtain ⟨R3, s3⟩ := R2.own_mut e h1 f2 f3 f4 (Ats.set ((r.2.1 nb).stp s2) m f5)
    exact ⟨a, ws, j, m, rfl, r2.1.int, f4, ixN_len f5.length em, k.nx A σ _ _ R3 ((s'.trans s2).trans s3) q2⟩
  | _ => exact False.elim q2
theorem seq_nat {m l : Nat} (h : m < l) : seqIndex? (m : Int) l = some m := (ixN_seq (i := (m : Int)) (j := m) (n := l) (by
  unfold ixN
  rw [if_pos (Int.natCast_nonneg m), if_pos (by omega)]
  rfl)).1
def tAppP (K : PySem.W.Frag) (i j : Nat) (tk : TE) : TS := tDrop (tBM K "list" rAppend (tVar i) (tCons (tBM K "list" rPopAt (tVar j) (tCons tk tNil)) tNil))
theorem appP_rd {K : PySem.W.Frag} {i j : Nat} {x : X} {Ks : Ends} {σ : L2.St} {H : Hp} (h : rdS M Wx (.appP i j x) Ks σ H) : tAppP K i j (rdX M Wx x) Ks σ H := by
  obtain ⟨A₀, W₀, A, W, ⟨sl, n⟩, E, Kd, e, R, Xs, hw, k⟩ := h
  subst e
  obtain ⟨xs, e, hw⟩ := lookO_some hw
  obtain ⟨ys, e', hw⟩ := lookO_some hw
  obtain ⟨a, vs, h1, h2, h3, h4, h5⟩ := R.ownAt e
  obtain ⟨b, us, g1, g2, g3, g4, g5⟩ := R.ownAt e'
  refine ⟨_, h1, .inl ⟨rfl, vs, SqL.of h4⟩, _, g1, .inl ⟨rfl, us, SqL.of g4⟩, ?_⟩
  refine rdX_of (K := Ks) R Xs hw fun v d W' n' S R' s' r q => ?_
  cases d with
  | int z =>
    obtain ⟨m, d, hij, rfl, hm, em, hl, q⟩ := q
    obtain ⟨b', us', f1, f2, f3, f4, f5⟩ := R'.ownAt e'
    rw [g1] at f1
    cases f1
    have lm : m < ys.length := (List.getElem?_eq_some_iff.mp em).1
    obtain ⟨y, ey, hy⟩ := f5.get em
    obtain ⟨R2, s2⟩ := R'.own_mut e' g1 f2 f3 f4 (f5.eraseIdx m)
    refine ⟨b, us', m, m, y, rfl, by rw [r.1.int], f4, by omega, by omega, seq_nat (by rw [f5.length]; exact lm), ey, ?_⟩
    have e2 : (sl.set j (.own (ys.eraseIdx m)))[i]? = some (.own xs) := by rw [List.getElem?_set_ne (Ne.symm hij)]; exact e
    obtain ⟨a', ws, p1, p2, p3, p4, p5⟩ := R2.ownAt e2
    rw [h1] at p1
    cases p1
    obtain ⟨R3, s3⟩ := R2.own_mut e2 h1 p2 p3 p4 (p5.append (.cons (hy.stp s2) .nil))
    exact ⟨a, ws, y, rfl, rfl, p4, by rw [p5.length]; exact Nat.lt_trans hl smax_lt, k.nx A σ _ _ R3 ((s'.trans s2).trans s3) q⟩
  | _ => exact False.elim q
theorem last_get {α : Type} {ys : List α} {d : α} (h : ys.getLast? = some d) : ys[ys.length - 1]? = some d := by rw [← List.getLast?_eq_getElem?]; exact h
theorem asgP_rd {K : PySem.W.Frag} {t : Tg} {j : Nat} {Ks : Ends} {σ : L2.St} {H : Hp} (h : rdS M Wx (.asgP t j) Ks σ H) : tBM0 K "list" rPop (tVar j) σ H fun v H1 => gT K t v σ H1 Ks.nx := by
  obtain ⟨A₀, W₀, A, W, ⟨sl, n⟩, E, Kd, e, R, Xs, hw, k⟩ := h
  subst e
  obtain ⟨ys, e', d, ed, hw⟩ := lookO_some hw
  obtain ⟨b, us, g1, g2, g3, g4, g5⟩ := R.ownAt e'
  obtain ⟨y, ey, hy⟩ := g5.get (last_get ed)
  obtain ⟨R2, s2⟩ := R.own_mut e' g1 g2 g3 g4 g5.dropLast
  refine ⟨_, g1, .inl ⟨rfl, us, SqL.of g4⟩, b, us, y, rfl, rfl, g4, by rw [g5.length]; exact ey, ?_⟩
  exact gT_ok (K := K) R2 (hy.stp s2) hw fun σ' sl' R3 _ q => k.nx A σ' _ _ R3 s2 q
theorem asgPA_rd {K : PySem.W.Frag} {t : Tg} {j : Nat} {x : X} {Ks : Ends} {σ : L2.St} {H : Hp} (h : rdS M Wx (.asgPA t j x) Ks σ H) : tBM K "list" rPopAt (tVar j) (tCons (rdX M Wx x) tNil) σ H fun v H1 => gT K t v σ H1 Ks.nx := by
  obtain ⟨A₀, W₀, A, W, ⟨sl, n⟩, E, Kd, e, R, Xs, hw, k⟩ := h
  subst e
  obtain ⟨ys, e', hw⟩ := lookO_some hw
  obtain ⟨b, us, g1, g2, g3, g4, g5⟩ := R.ownAt e'
  refine ⟨_, g1, .inl ⟨rfl, us, SqL.of g4⟩, ?_⟩
  refine rdX_of (K := Ks) R Xs hw fun v d W' n' S R' s' r q => ?_
  cases d with
  | int z =>
    obtain ⟨m, d, rfl, hm, em, q⟩ := q
    obtain ⟨b', us', f1, f2, f3, f4, f5⟩ := R'.ownAt e'
    rw [g1] at f1
    cases f1
    have lm : m < ys.length := (List.getElem?_eq_some_iff.mp em).1
    obtain ⟨y, ey, hy⟩ := f5.get em
    obtain ⟨R2, s2⟩ := R'.own_mut e' g1 f2 f3 f4 (f5.eraseIdx m)
    refine ⟨b, us', m, m, y, rfl, by rw [r.1.int], f4, by omega, by omega, seq_nat (by rw [f5.length]; exact lm), ey, ?_⟩
    exact gT_ok (K := K) R2 (hy.stp s2) q fun σ' sl' R3 _ q => k.nx A σ' _ _ R3 (s'.trans s2) q
  | _ => exact False.elim q
/-- a list of ours is told from now on -/
theorem ss_frz {i : Nat} {r : S} {sts : List Stmt} (h : PSs c sts (rdS M Wx r)) : PSs c sts (rdS M Wx (.sq (.frz i) r)) := by
  refine PSs.imp h fun K σ H ⟨A₀, W₀, A, W, ⟨sl, n⟩, E, Kd, e, R, Xs, hw, k⟩ => ?_
  subst e
  obtain ⟨xs, e, hw⟩ := lookO_some hw
  obtain ⟨a, vs, h1, h2, h3, h4, h5⟩ := R.ownAt e
  have hi : i < sl.length := (List.getElem?_eq_some_iff.mp e).1
  have R1 := R.cut i
  have R2 : Rep M.G A₀ W₀ (fun b => A b ∧ b ≠ a) (σ.set i none) W ⟨sl.set i .un, n⟩ := R1.less (fun b hb => hb.1) (fun b hb => ⟨R.aup b hb, fun z => h3 (z ▸ hb)⟩) (fun j ys b e1 e2 => by
    rw [List.getElem?_set] at e1
    by_cases hj : i = j
    · subst hj
      rw [if_pos rfl] at e1
      split at e1 <;> simp at e1
    · rw [if_neg hj] at e1
      rw [List.getElem?_set_ne hj] at e2
      obtain ⟨b', us, f1, f2, _⟩ := R.own j ys e1
      rw [f1] at e2
      cases e2
      exact ⟨f2, fun z => hj (R.sep i j a xs ys e e1 h1 (z ▸ f1))⟩) fun j z q e1 hz => by
      obtain ⟨o, _, k1, _, k3, k4⟩ := R.slf j z q (set_other e1 (ad_ne hz rfl)).2 hz
      exact ⟨k1, fun z => by rw [z, h4] at k3; exact k4.mut.nlst _ (Option.some.inj k3).symm⟩
  have s : Stp A W (fun b => A b ∧ b ≠ a) W := .less fun b hb => hb.1
  have at' : At M.G (fun b => A b ∧ b ≠ a) W (.ref a) (.lst 0 xs) := .lst h4 (fun z => z.2 rfl) (h5.stp s)
  have R3 := R2.put i at'
  have es : (σ.set i none).set i (some (.ref a)) = σ := by
    rw [List.set_set]
    apply List.ext_getElem?
    intro j
    by_cases hj : i = j
    · subst hj
      have : i < σ.length := by rw [R.len]; exact hi
      rw [List.getElem?_set_self this]
      exact h1.symm
    · rw [List.getElem?_set_ne hj]
  have el : (sl.set i .un).set i (.val (.lst 0 xs)) = sl.set i (.val (.lst 0 xs)) := List.set_set ..
  rw [es, el] at R3
  exact ⟨A₀, W₀, _, W, _, E, Kd, rfl, R3, Xs, hw, k.stp s⟩
/-! ### loops -/
theorem ss_for (g : Good c M Wx) (pw : PassesOwn (model c.prog c.w) c.A c.env c.xe) {t : Tg} {it : X} {b : S} {tg iter : Expr} {body : List Stmt} (hi : PI c tg iter (rdI M Wx it)) (hg : PG c tg (gT c.K t)) (hb : PSs c body (rdS M Wx b))
    (hs : ∀ x, foldedSetIterable iter c.env x = pure x) : PS c (.For tg iter body [] pos) (rdS M Wx (.for_ t it b)) := by
  refine PS.imp (ps_for pw g.calm hi hg hb hs) fun K σ H ⟨A₀, W₀, A, W, ⟨sl, n⟩, E, Kd, e, R, Xs, hw, k⟩ => ?_
  subst e
  refine ⟨A₀, W₀, A, W, sl, n, _, _, rfl, R, Xs.ok R, hw, fun J ds W1 n1 S1 wk q1 => ?_⟩
  have wk : Wk M.G A W1 J ds := wk
  have R1 := R.ste S1
  let step : D → Env → (Env → Prop) → Prop := fun x ρ k => wTg t x ρ.sl fun sl => wS M.Phy b E ⟨sl, ρ.n⟩ { Kd with nx := k, ct := k, bk := Kd.nx }
  let Pv : Nat → L2.St → Hp → Prop := fun i σ' H' => i ≤ ds.length ∧ ∃ A' Wi ρ, Wi.H = H' ∧ Rep M.G A₀ W₀ A' σ' Wi ρ ∧ Stp A W1 A' Wi ∧ forL step (ds.drop i) ρ Kd.nx
  refine ⟨fun i m σ H => m = ds.length - i ∧ Pv i σ H, ⟨ds.length, by simp, Nat.zero_le _, A, W1, _, rfl, R1, .refl A W1, by simpa using q1⟩, ?_⟩
  rintro i m σ' H' ⟨rfl, hi, A', Wi, ⟨sli, ni⟩, rfl, Ri, si, hw⟩
  by_cases hlt : i < ds.length
  · refine .inr ⟨wk.go _ Wi si i hlt, Pv (i + 1), fun σ2 H2 p' => ⟨ds.length - (i + 1), by omega, rfl, p'⟩, fun x H2 y => ?_⟩
    obtain ⟨W2, e2, S2, x2⟩ := wk.yld _ Wi ni si Ri.bas Ri.strm Ri.tabs i ds[i] (List.getElem?_eq_getElem hlt) x H2 y
    rw [List.drop_eq_getElem_cons hlt] at hw
    have R2 := Ri.ste S2
    rw [← e2]
    refine gT_ok R2 x2 hw fun σ3 sl3 R3 _ w3 => ?_
    have s2 := si.trans (Ri.bas.stp S2)
    exact ⟨A₀, W₀, A', W2, _, E, _, rfl, R3, Xs, w3, ⟨fun A4 σ4 W4 ρ4 R4 s4 q => ⟨hlt, A4, W4, ρ4, rfl, R4, s2.trans s4, q⟩, fun A4 σ4 W4 ρ4 R4 s4 q => k.nx A4 σ4 W4 ρ4 R4 (((R.bas.stp S1).trans s2).trans s4) q,
      fun A4 σ4 W4 ρ4 R4 s4 q => ⟨hlt, A4, W4, ρ4, rfl, R4, s2.trans s4, q⟩, k.rt⟩⟩
  · have ei : i = ds.length := by omega
    subst ei
    rw [List.drop_length] at hw
    exact .inl ⟨wk.stop _ Wi si, k.nx A' σ' Wi _ Ri ((R.bas.stp S1).trans si) hw⟩
theorem ss_whl (g : Good c M Wx) (pw : PassesOwn (model c.prog c.w) c.A c.env c.xe) {x : X} {b : S} {e : Expr} {body : List Stmt} (h : PT c e (rdT M Wx x)) (hb : PSs c body (rdS M Wx b)) : PS c (.While e body [] pos) (rdS M Wx (.whl x b)) := by
  refine PS.imp (ps_while pw h hb) fun K σ H ⟨A₀, W₀, A, W, ρ, E, Kd, e, R, Xs, hw, k⟩ => ?_
  subst e
  obtain ⟨m, hw⟩ := hw
  let Lp : Nat → Env → Prop := fun m ρ => whlL (fun ρ k => wT M.Phy (fun e n => E e ⟨ρ.sl, n⟩) x ρ.sl ρ.n fun b n => k b ⟨ρ.sl, n⟩) (fun ρ k => wS M.Phy b E ρ { Kd with nx := k, ct := k, bk := Kd.nx }) m ρ Kd.nx
  refine ⟨fun m σ' H' => ∃ A' W' ρ', W'.H = H' ∧ Rep M.G A₀ W₀ A' σ' W' ρ' ∧ Stp A W A' W' ∧ Lp m ρ', ⟨m, A, W, ρ, rfl, R, .refl A W, hw⟩, ?_⟩
  rintro m σ' H' ⟨A', W', ⟨sl', n'⟩, rfl, R', s', hw⟩
  cases m with
  | zero => exact False.elim hw
  | succ m =>
    refine rdT_of (K := K) R' Xs hw fun t W2 n2 R2 s2 q => ?_
    cases t with
    | false =>
      rw [if_neg Bool.false_ne_true] at q ⊢
      exact k.nx A' σ' W2 _ R2 (s'.trans s2) q
    | true =>
      rw [if_pos rfl] at q ⊢
      refine ⟨fun σ3 H3 => ∃ A3 W3 ρ3, W3.H = H3 ∧ Rep M.G A₀ W₀ A3 σ3 W3 ρ3 ∧ Stp A W A3 W3 ∧ Lp m ρ3, fun σ3 H3 z => ⟨m, Nat.lt_succ_self m, z⟩, A₀, W₀, A', W2, _, E, _, rfl, R2, Xs, q, ?_⟩
      have s3 := s'.trans s2
      exact ⟨fun A4 σ4 W4 ρ4 R4 s4 q => ⟨A4, W4, ρ4, rfl, R4, s3.trans s4, q⟩, fun A4 σ4 W4 ρ4 R4 s4 q => k.nx A4 σ4 W4 ρ4 R4 (s3.trans s4) q, fun A4 σ4 W4 ρ4 R4 s4 q => ⟨A4, W4, ρ4, rfl, R4, s3.trans s4, q⟩, k.rt⟩
end
end Q
/-! Q layer, part r: a list of ours is named, handed on, then grows. -/
namespace Q
open PySem PySem.Spec L2
section
variable {c : Cx} {M : Pm} {Wx : WX} {G : Gb} {A₀ A A' : Addr → Prop} {W₀ W W' : Wd} {σ : L2.St} {sl : Sl} {n m : Nat} {a : Addr} {us ws : List V} {ys : List D}
/-- the named list has grown, and is named no more -/
structure Gro (G : Gb) (A : Addr → Prop) (W : Wd) (A' : Addr → Prop) (W' : Wd) (m : Nat) (a : Addr) (ws : List V) (ys : List D) : Prop where
  hA : A a
  nA : ∀ b, ¬ A b → ¬ A' b
  na : ¬ A' a
  nm : ∀ k, W.iot[k]? = some a → k = m
  me : W.iot[m]? = some a
  ot : ∀ k b, W.iot[k]? = some b → k ≠ m → W'.iot[k]? = some b
  kp : ∀ b o, W.H b = some o → b ≠ a → W'.H b = some o
  nw : W'.H a = some (.lst ws)
  xs : Ats G A' W' ws ys
theorem Gro.ne (g : Gro G A W A' W' m a ws ys) {b : Addr} (h : ¬ A b) : b ≠ a := fun z => h (z ▸ g.hA)
theorem Gro.rd (g : Gro G A W A' W' m a ws ys) {b : Addr} {u : HO} (r : Rd W.H b u) (h : ¬ A b) : Rd W'.H b u := by
  rcases r with e | ⟨ob, e⟩
  · exact .inl (g.kp b _ e (g.ne h))
  · exact .inr ⟨ob, g.kp b _ e (g.ne h)⟩
theorem subK_fst {m : Nat} {ys : List D} : ∀ xs : List (L2.Key × D), (D.subK m ys xs).map Prod.fst = xs.map Prod.fst
  | [] => rfl
  | (_, _) :: xs => by
    exact congrArg (List.cons _) (subK_fst xs)
theorem subK_snd {m : Nat} {ys : List D} : ∀ xs : List (L2.Key × D), (D.subK m ys xs).map Prod.snd = D.subs m ys (xs.map Prod.snd)
  | [] => rfl
  | (_, _) :: xs => by
    exact congrArg (List.cons _) (subK_snd xs)
theorem subT_fst {m : Nat} {ys : List D} : ∀ xs : List (List L2.Key × D), (D.subT m ys xs).map Prod.fst = xs.map Prod.fst
  | [] => rfl
  | (_, _) :: xs => by
    exact congrArg (List.cons _) (subT_fst xs)
theorem subT_snd {m : Nat} {ys : List D} : ∀ xs : List (List L2.Key × D), (D.subT m ys xs).map Prod.snd = D.subs m ys (xs.map Prod.snd)
  | [] => rfl
  | (_, _) :: xs => by
    exact congrArg (List.cons _) (subT_snd xs)
theorem subs_len {m : Nat} {ys : List D} : ∀ xs : List D, (D.subs m ys xs).length = xs.length
  | [] => rfl
  | x :: xs => by
    show (D.subs m ys xs).length + 1 = _
    rw [subs_len xs]; rfl
mutual
theorem At.gro {v : V} {d : D} (g : Gro G A W A' W' m a ws ys) : At G A W v d → At G A' W' v (d.sub m ys)
  | .non => .non
  | .bl => .bl
  | .int => .int
  | .str => .str
  | .lst e n h => .lst (g.kp _ _ e (g.ne n)) (g.nA _ n) (Ats.gro g h)
  | .lsN (n := k) e1 e2 h => by
    by_cases z : k = m
    · subst z
      have : ∀ {b}, W.iot[k]? = some b → b = a := fun e => by
        have := g.me
        rw [e] at this
        exact Option.some.inj this
      cases this e1
      show At G A' W' _ (if k + 1 = k + 1 then .lst 0 ys else _)
      rw [if_pos rfl]
      exact .lst g.nw g.na g.xs
    · show At G A' W' _ (if k + 1 = m + 1 then .lst 0 ys else .lst (k + 1) _)
      rw [if_neg (by omega)]
      exact .lsN (g.ot _ _ e1 z) (g.kp _ _ e2 (fun y => z (g.nm k (y ▸ e1)))) (Ats.gro g h)
  | .tup e n h => .tup (g.kp _ _ e (g.ne n)) (g.nA _ n) (Ats.gro g h)
  | .dK (xs := xs) e n c h => .dK (g.rd e n) (g.nA _ n) (c.trans (subK_fst xs).symm) (by rw [subK_snd]; exact Ats.gro g h)
  | .dT (xs := xs) e n c h => .dT (g.rd e n) (g.nA _ n) (c.trans (subT_fst xs).symm) (by rw [subT_snd]; exact Ats.gro g h)
  | .obj z e n c h => .obj z (g.kp _ _ e (g.ne n)) (g.nA _ n) c (Ats.gro g h)
  | .fn h => .fn h
  | .stm => .stm
theorem Ats.gro {vs : List V} {ds : List D} (g : Gro G A W A' W' m a ws ys) : Ats G A W vs ds → Ats G A' W' vs (D.subs m ys ds)
  | .nil => .nil
  | .cons h t => .cons (At.gro g h) (Ats.gro g t)
end
theorem Mean.gro {o : HO} {z : Slot} (g : Gro G A W A' W' m a ws ys) (h : Mean G A W o z) : Mean G A' W' o (z.sub m ys) := by
  cases z with
  | slf c b ds =>
    obtain ⟨dx, fs, e1, e2, e3, e4, e5⟩ := h
    exact ⟨dx, fs, e1, by rw [subs_len]; exact e2, by rw [subs_len]; exact e3, e4.gro g, e5⟩
  | dic b d =>
    cases d with
    | dK xs =>
      obtain ⟨kvs, e1, e2, e3⟩ := h
      exact ⟨kvs, e1, e2.trans (subK_fst xs).symm, by rw [subK_snd]; exact e3.gro g⟩
    | dT xs =>
      obtain ⟨kvs, e1, e2, e3⟩ := h
      exact ⟨kvs, e1, e2.trans (subT_fst xs).symm, by rw [subT_snd]; exact e3.gro g⟩
    | _ => exact h.elim
  | _ => exact h.elim
theorem atom_at {v : V} {d : D} (h : At G A W v d) (t : d.atom = true) : At G A' W' v d := by
  cases h <;> first | (cases t; done) | (constructor; done)
theorem atoms_at : ∀ {vs : List V} {ds : List D}, Ats G A W vs ds → (∀ d ∈ ds, d.atom = true) → Ats G A' W' vs ds
  | _, _, .nil, _ => .nil
  | _, _, .cons h t, k => .cons (atom_at h (k _ List.mem_cons_self)) (atoms_at t fun d hd => k d (List.mem_cons_of_mem _ hd))

/-- a list of ours gets a name -/
def nmA (A₀ : Addr → Prop) (a : Addr) : Addr → Prop := fun b => A₀ b ∨ b = a
def nmW (W₀ : Wd) (a : Addr) (vs : List V) : Wd := ⟨W₀.iot ++ [a], upd W₀.H a (.lst vs)⟩
def ndW (W : Wd) (a : Addr) : Wd := ⟨W.iot ++ [a], W.H⟩
theorem Stp.nd : Stp A W A (ndW W a) := ⟨fun b o e nb _ => ⟨e ▸ Kp.refl o, nb⟩, fun k b e => ⟨by
  show (W.iot ++ [a])[k]? = _
  rw [List.getElem?_append_left (List.getElem?_eq_some_iff.mp e).1]; exact e, fun _ h => h⟩⟩
theorem noC_no {i g : Nat} {k : Key} (h : sl.all Slot.noC = true) : sl[i]? ≠ some (.clo g k) := fun e => by
  have := List.all_eq_true.mp h _ (List.mem_of_getElem? e)
  cases this
theorem Rep.name (R : Rep G A₀ W₀ A σ W ⟨sl, n⟩) {i : Nat} {xs : List D} {vs : List V} (e : sl[i]? = some (.own xs)) (hs : σ[i]? = some (some (.ref a))) (ha : A a) (n0 : ¬ A₀ a) (eh : W.H a = some (.lst vs)) (hx : Ats G A W vs xs) (nc : sl.all Slot.noC = true) :
    Rep G (nmA A₀ a) (nmW W₀ a vs) A σ (ndW W a) ⟨sl.set i (.val (.lst (W₀.iot.length + 1) xs)), n⟩ := by
  have na : Non W₀.H a := (R.aold a ha).resolve_left n0
  have hi : i < sl.length := (List.getElem?_eq_some_iff.mp e).1
  have oth : ∀ {j : Nat} {y : Slot}, (∀ d, y ≠ .val d) → (sl.set i (.val (.lst (W₀.iot.length + 1) xs)))[j]? = some y → i ≠ j ∧ sl[j]? = some y := fun h e => set_other e (h _)
  have up : ∀ {b o}, upd W₀.H a (.lst vs) b = some o → b ≠ a → W₀.H b = some o := fun e h => by rw [upd_ne h] at e; exact e
  refine ⟨⟨.inl R.b0.st, .inl R.b0.inn, fun x hx => ?_, fun k b eb => ?_⟩, by simp [R.len], R.strm, R.tabs, R.ain, fun x hx => ?_, fun x hx => ?_, ⟨fun x o ex t => ?_, fun x o ex n1 n2 t => ?_⟩, ?_, fun j d ej => ?_, fun j zs ej => ?_, fun j l b us zs e1 e2 e3 e4 => ?_, fun j g kk ej => ?_, fun j z p ej hz => ?_⟩
  · rcases hx with hx | rfl
    · obtain ⟨o, e1, t⟩ := R.b0.ain x hx
      exact ⟨o, by show upd W₀.H a (.lst vs) x = _; rw [upd_ne (show x ≠ a from fun z => n0 (z ▸ hx))]; exact e1, t⟩
    · exact ⟨_, upd_same, fun _ z => nomatch z⟩
  · have eb : (W₀.iot ++ [a])[k]? = some b := eb
    rw [List.getElem?_append] at eb
    split at eb
    · obtain ⟨x1, x2⟩ := R.b0.nam k b eb
      exact ⟨.inl x1, x2⟩
    · rw [List.getElem?_singleton] at eb
      split at eb
      · cases eb
        exact ⟨.inr rfl, fun z => n0 (z ▸ R.b0.st), fun z => n0 (z ▸ R.b0.inn)⟩
      · cases eb
  · rcases hx with hx | rfl
    · exact R.aup x hx
    · exact ha
  · by_cases z : x = a
    · exact .inl (.inr z)
    · rcases R.aold x hx with h | h
      · exact .inl (.inl h)
      · exact .inr fun o eo => h o (up eo z)
  · by_cases z : x = a
    · subst z; exact ⟨_, eh, fun _ z => nomatch z⟩
    · exact R.ext.there x o (up ex z) t
  · by_cases z : x = a
    · subst z
      have ex : upd W₀.H x (.lst vs) x = some o := ex
      rw [upd_same] at ex
      cases ex
      exact ⟨fun _ => eh, by show Kp _ (W.H x); rw [eh]; exact Kp.refl _⟩
    · obtain ⟨k1, k2⟩ := R.ext.keep x o (up ex z) n1 n2 t
      exact ⟨fun h => k1 (h.resolve_right z), k2⟩
  · show W.iot ++ [a] = W₀.iot ++ [a]
    rw [R.iot]
  · by_cases z : i = j
    · subst z
      rw [List.getElem?_set_self hi] at ej
      cases ej
      exact ⟨_, hs, .lsN (by show (W.iot ++ [a])[W₀.iot.length]? = _; rw [R.iot]; simp) eh (hx.stp .nd)⟩
    · have ej : (sl.set i (.val (.lst (W₀.iot.length + 1) xs)))[j]? = some (.val d) := ej
      rw [List.getElem?_set_ne z] at ej
      obtain ⟨v, f1, f2⟩ := R.val j d ej
      exact ⟨v, f1, f2.stp .nd⟩
  · obtain ⟨hj, ej⟩ := oth (y := .own zs) (fun _ z => nomatch z) ej
    obtain ⟨b, us, f1, f2, f3, f4, f5⟩ := R.own j zs ej
    refine ⟨b, us, f1, f2, fun z => ?_, f4, f5.stp .nd⟩
    rcases z with z | rfl
    · exact f3 z
    · exact hj (R.sep i j b xs zs e ej hs f1)
  · obtain ⟨_, e1⟩ := oth (y := .own us) (fun _ z => nomatch z) e1
    obtain ⟨_, e2⟩ := oth (y := .own zs) (fun _ z => nomatch z) e2
    exact R.sep j l b us zs e1 e2 e3 e4
  · exact absurd (oth (y := .clo g kk) (fun _ z => nomatch z) ej).2 (noC_no nc)
  · obtain ⟨o, f1, f2, f3, f4, f5⟩ := R.slf j z p (oth (fun d y => by rw [y] at hz; cases hz) ej).2 hz
    refine ⟨o, f1, f2, fun y => ?_, f4, f5.stp .nd⟩
    rcases y with y | rfl
    · exact f3 y
    · rw [eh] at f4
      exact f5.mut.nlst _ (Option.some.inj f4).symm
theorem Rep.nd_gro (R : Rep G (nmA A₀ a) (nmW W₀ a us) A σ W ⟨sl, n⟩) (b0 : Bas G A₀ W₀) (n0 : ¬ A₀ a) {vs : List V} {w : V} {ys : List D} {d : D} (eh : W.H a = some (.lst vs)) (hy : Ats G A W vs ys) (hd : At G A W w d) (at1 : ∀ y ∈ ys ++ [d], y.atom = true) :
    Gro G A W (fun b => A b ∧ b ≠ a) ⟨W₀.iot, upd W.H a (.lst (vs ++ [w]))⟩ W₀.iot.length a (vs ++ [w]) (ys ++ [d]) := by
  have hiot : W.iot = W₀.iot ++ [a] := R.iot
  refine ⟨R.aup a (.inr rfl), fun b h z => h z.1, fun z => z.2 rfl, fun k e => ?_, ?_, fun k b e hk => ?_, fun b o e h => by show upd W.H a _ b = _; rw [upd_ne h]; exact e, upd_same, atoms_at (hy.append (.cons hd .nil)) at1⟩
  · rw [hiot, List.getElem?_append] at e
    split at e
    · exact absurd (b0.nam k a e).1 n0
    · rw [List.getElem?_singleton] at e
      split at e
      · omega
      · cases e
  · rw [hiot]; simp
  · rw [hiot, List.getElem?_append] at e
    split at e
    · exact e
    · rw [List.getElem?_singleton] at e
      split at e
      · omega
      · cases e
theorem sub_ad {z : Slot} {m : Nat} {ys : List D} : (z.sub m ys).ad = z.ad := by cases z <;> rfl
theorem Rep.grow (R : Rep G (nmA A₀ a) (nmW W₀ a us) A σ W ⟨sl, n⟩) (b0 : Bas G A₀ W₀) (n0 : ¬ A₀ a) (na : Non W₀.H a) {vs : List V} {w : V} {ys : List D} {d : D} (eh : W.H a = some (.lst vs)) (hy : Ats G A W vs ys) (hd : At G A W w d) (at1 : ∀ y ∈ ys ++ [d], y.atom = true) (nc : sl.all Slot.noC = true) :
    Rep G A₀ W₀ (fun b => A b ∧ b ≠ a) σ ⟨W₀.iot, upd W.H a (.lst (vs ++ [w]))⟩ ⟨sl.map (Slot.sub W₀.iot.length (ys ++ [d])), n⟩ := by
  have g := R.nd_gro b0 n0 eh hy hd at1
  have n1 : a ≠ G.st := fun z => n0 (z ▸ b0.st)
  have n2 : a ≠ G.inn := fun z => n0 (z ▸ b0.inn)
  have old : ∀ {x o}, W₀.H x = some o → NTbl o → x ≠ a ∧ (nmW W₀ a us).H x = some o := fun {x o} e t => by
    have hx : x ≠ a := na.ne e t
    exact ⟨hx, by show upd W₀.H a _ x = _; rw [upd_ne hx]; exact e⟩
  have mp : ∀ {j : Nat} {y : Slot}, (sl.map (Slot.sub W₀.iot.length (ys ++ [d])))[j]? = some y → ∃ z, sl[j]? = some z ∧ z.sub W₀.iot.length (ys ++ [d]) = y := fun e => by
    rw [List.getElem?_map, Option.map_eq_some_iff] at e
    exact e
  refine ⟨b0, by simp [R.len], strm_mut R.strm n1 n2, tabs_mut R.tabs eh, fun x hx => ?_, fun x hx => ⟨R.aup x (.inl hx), fun z => n0 (z ▸ hx)⟩, fun x hx => ?_, ⟨fun x o ex t => ?_, fun x o ex m1 m2 t => ?_⟩, rfl, fun j d' ej => ?_, fun j zs ej => ?_, fun j l b ps qs e1 e2 e3 e4 => ?_, fun j g' kk ej => ?_, fun j z p ej hz => ?_⟩
  · obtain ⟨o, e, t⟩ := R.ain x hx.1
    exact ⟨o, g.kp x o e hx.2, t⟩
  · rcases R.aold x hx.1 with h | h
    · exact .inl (h.resolve_right hx.2)
    · exact .inr fun o e => h o (by show upd W₀.H a _ x = _; rw [upd_ne hx.2]; exact e)
  · obtain ⟨hx, e⟩ := old ex t
    obtain ⟨o', e', t'⟩ := R.ext.there x o e t
    exact ⟨o', g.kp x o' e' hx, t'⟩
  · obtain ⟨hx, e⟩ := old ex t
    obtain ⟨k1, k2⟩ := R.ext.keep x o e m1 m2 t
    refine ⟨fun h => g.kp x o (k1 (.inl h)) hx, ?_⟩
    show Kp o (upd W.H a _ x)
    rw [upd_ne hx]
    exact k2
  · obtain ⟨z, ez, hz⟩ := mp ej
    cases z <;> first | (cases hz; done) | skip
    rename_i dd
    cases hz
    obtain ⟨v, f1, f2⟩ := R.val j dd ez
    exact ⟨v, f1, f2.gro g⟩
  · obtain ⟨z, ez, hz⟩ := mp ej
    cases z <;> first | (cases hz; done) | skip
    rename_i dd
    cases hz
    obtain ⟨b, ps, f1, f2, f3, f4, f5⟩ := R.own j dd ez
    have hb : b ≠ a := fun y => f3 (.inr y)
    exact ⟨b, ps, f1, ⟨f2, hb⟩, fun y => f3 (.inl y), g.kp b _ f4 hb, f5.gro g⟩
  · obtain ⟨z, ez, hz⟩ := mp e1
    obtain ⟨z', ez', hz'⟩ := mp e2
    cases z <;> first | (cases hz; done) | skip
    cases z' <;> first | (cases hz'; done) | skip
    exact R.sep j l b _ _ ez ez' e3 e4
  · obtain ⟨z, ez, hz⟩ := mp ej
    cases z <;> first | (cases hz; done) | skip
    exact absurd ez (noC_no nc)
  · obtain ⟨y, ey, hy⟩ := mp ej
    subst hy
    rw [sub_ad] at hz
    obtain ⟨o, f1, f2, f3, f4, f5⟩ := R.slf j y p ey hz
    have hb : p ≠ a := fun y => f3 (.inr y)
    exact ⟨o, f1, ⟨f2, hb⟩, fun y => f3 (.inl y), g.kp p _ f4 hb, f5.gro g⟩
/-- the name is forgotten, and all slots -/
theorem Rep.unnm (R : Rep G (nmA A₀ a) (nmW W₀ a us) A σ W ⟨sl, n⟩) (b0 : Bas G A₀ W₀) (n0 : ¬ A₀ a) (na : Non W₀.H a) : Rep G A₀ W₀ (fun b => A b ∧ b ≠ a) σ ⟨W₀.iot, W.H⟩ ⟨sl.map fun _ => Slot.un, n⟩ := by
  have old : ∀ {x o}, W₀.H x = some o → NTbl o → x ≠ a ∧ (nmW W₀ a us).H x = some o := fun {x o} e t => by
    have hx : x ≠ a := na.ne e t
    exact ⟨hx, by show upd W₀.H a _ x = _; rw [upd_ne hx]; exact e⟩
  have no : ∀ {j : Nat} {y : Slot}, (sl.map fun _ => Slot.un)[j]? = some y → y = .un := fun e => by
    rw [List.getElem?_map, Option.map_eq_some_iff] at e
    obtain ⟨_, _, e⟩ := e
    exact e.symm
  refine ⟨b0, by simp [R.len], R.strm, R.tabs, fun x hx => R.ain x hx.1, fun x hx => ⟨R.aup x (.inl hx), fun z => n0 (z ▸ hx)⟩, fun x hx => ?_, ⟨fun x o ex t => ?_, fun x o ex m1 m2 t => ?_⟩, rfl, (fun j d' ej => nomatch no ej), (fun j zs ej => nomatch no ej), (fun j l b ps qs e1 e2 e3 e4 => nomatch no e1), (fun j g' kk ej => nomatch no ej), fun j z p ej hz => ?_⟩
  · rcases R.aold x hx.1 with h | h
    · exact .inl (h.resolve_right hx.2)
    · exact .inr fun o e => h o (by show upd W₀.H a _ x = _; rw [upd_ne hx.2]; exact e)
  · obtain ⟨hx, e⟩ := old ex t
    exact R.ext.there x o e t
  · obtain ⟨hx, e⟩ := old ex t
    obtain ⟨k1, k2⟩ := R.ext.keep x o e m1 m2 t
    exact ⟨fun h => k1 (.inl h), k2⟩
  · rw [no ej] at hz
    cases hz
theorem atom_any {A A' : Addr → Prop} {W W' : Wd} {v : V} {d : D} (h : At G A W v d) (a : d.atom = true) : At G A' W' v d ∧ (∀ k xs, d ≠ .lst k xs) ∧ d.isD = false := by
  cases h <;> first | (cases a; done) | exact ⟨by constructor, (fun _ _ z => nomatch z), rfl⟩
theorem grow_stp {A2 : Addr → Prop} {W2 : Wd} {o : HO} (b : Bas G A₀ W₀) (hiot : W.iot = W₀.iot) (n0 : ¬ A₀ a) (ha : A a) (s : Stp A W A2 W2) : Stp A W (fun b => A2 b ∧ b ≠ a) ⟨W₀.iot, upd W2.H a o⟩ := by
  refine ⟨fun x u e nx t => ?_, fun k x e => ?_⟩
  · obtain ⟨k1, k2⟩ := s.keep x u e nx t
    refine ⟨?_, fun z => k2 z.1⟩
    show Kp u (upd W2.H a o x)
    rw [upd_ne (show x ≠ a from fun z => nx (z ▸ ha))]
    exact k1
  · obtain ⟨k1, k2⟩ := s.nam k x e
    rw [hiot] at e
    refine ⟨e, fun vs h => ?_⟩
    show upd W2.H a o x = _
    rw [upd_ne (show x ≠ a from fun z => n0 (z ▸ (b.nam k x e).1))]
    exact k2 vs h
theorem ss_hld {i k : Nat} {b r : S} {x : X} {stsb rest : List Stmt} {st : Stmt} (hb : ∀ t, PSs c (st :: rest) t → PSs c (stsb ++ st :: rest) (tSeq (rdS M Wx b) t)) (nb : x.isBor = false) (hx : PS c st (tApp c.K i (rdX M Wx x))) (hr : PSs c rest (rdS M Wx r)) :
    PSs c (stsb ++ st :: rest) (rdS M Wx (.sq (.hld i k b x) r)) := by
  refine PSs.imp (hb _ (pss_cons hx hr)) fun K σ H ⟨A₀, W₀, A, W, ⟨sl, n⟩, E, Kd, e, R, Xs, hw, kk⟩ => ?_
  subst e
  obtain ⟨xs, e, nc, hw⟩ := lookO_some hw
  obtain ⟨a, vs, h1, h2, h3, h4, h5⟩ := R.ownAt e
  have na : Non W₀.H a := (R.aold a h2).resolve_left h3
  have XF : XsS M Wx (nmA A₀ a) (nmW W₀ a vs) (fun _ _ => False) := fun _ _ _ _ _ _ _ _ _ q => q.elim
  refine ⟨nmA A₀ a, nmW W₀ a vs, A, ndW W a, ⟨sl.set i (.val (.lst (W₀.iot.length + 1) xs)), n⟩, fun _ _ => False, _, rfl, R.name e h1 h2 h3 h4 h5 nc, XF, hw W₀.iot.length, ⟨fun A' σ' W' ρ' R' s' q => ?_, fun _ _ _ _ _ _ q => q.elim, fun _ _ _ _ _ _ q => q.elim, fun v d A' σ' W' sl' n' R' x _ q => ?_⟩⟩
  case refine_2 =>
    obtain ⟨x1, x2, x3⟩ := atom_any x q.1
    exact kk.rt v d _ σ' ⟨W₀.iot, W'.H⟩ _ n' (R'.unnm R.b0 h3 na) x1 (fun _ => frs_no x2 x3) q.2
  obtain ⟨sl', n'⟩ := ρ'
  obtain ⟨ys, ei, nc', hw⟩ := q
  have look : ∀ {W3 : Wd} {n3 : Nat}, Rep M.G (nmA A₀ a) (nmW W₀ a vs) A' σ' W3 ⟨sl', n3⟩ → ∃ ws, σ'[i]? = some (some (.ref a)) ∧ W3.H a = some (.lst ws) ∧ Ats M.G A' W3 ws ys := fun {W3 n3} R3 => by
    obtain ⟨v, f1, f2⟩ := R3.val i _ ei
    cases f2 with
    | lsN g1 g2 g3 =>
      rename_i b ws
      have hb : a = b := by
        have z : W3.iot = W₀.iot ++ [a] := R3.iot
        rw [z] at g1
        simpa using g1
      subst hb
      exact ⟨ws, f1, g2, g3⟩
  obtain ⟨ws, f1, f2, f3⟩ := look R'
  refine ⟨_, f1, .inl ⟨rfl, ws, SqL.of f2⟩, ?_⟩
  refine rdX_of (K := K) R' XF hw fun v d W3 n3 S R3 s3 rx q => ?_
  obtain ⟨ws3, _, g2, g3⟩ := look R3
  obtain ⟨q1, q2, q3⟩ := q
  refine ⟨a, ws3, v, rfl, rfl, g2, by rw [g3.length]; exact Nat.lt_trans q1 smax_lt, ?_⟩
  exact ⟨A₀, W₀, _, ⟨W₀.iot, upd W3.H a (.lst (ws3 ++ [v]))⟩, ⟨sl'.map (Slot.sub W₀.iot.length (ys ++ [d])), n3⟩, E, Kd, rfl, R3.grow R.b0 h3 na g2 g3 (rx.2.1 nb) q2 nc', Xs, q3, kk.stp (grow_stp R.b0 R.iot h3 h2 (Stp.nd.trans (s'.trans s3)))⟩
end
end Q
/-! Q layer, part a: instances are made, their methods called. -/
namespace Q
open PySem PySem.Spec L2
section
variable {X : Cx} {CX : CXT} {k : Nat} {f C : Addr} {fd : FuncData} {ps : List Str} {sp : Sp} {E : L2.St → XK} {x m : Str} {p pos apos : Pos} {e o : Expr} {es : List Expr} {ta : TE} {t : TA}
theorem run_makeS {pins : List (Addr × Obj)} {σ : L2.St} {H : Hp} {s : Shared} {Q : VK} {us : List Value} {vs : List V} (M : Mk X.K C f) (F : FnOk X.prog X.w X.K X.mg X.base CX k f fd ps sp) (hr : Room (k + 1) X.A) (hb : Binds X.K fd ps [])
    (hx : PassesAt CX X σ (E σ)) (I : Inv X pins σ H s) (r : Vals vs us)
    (h : ∀ x dx, H x = none → H dx = none → dx ≠ x → sp (.ref x :: vs) (upd (upd H dx (.own x)) x (.ins C dx [])) (fun v H2 => v = .non ∧ Q (.ref x) H2) (E σ)) :
    wpAny (model X.prog X.w) X.A (call (.ref C) us) (EP X pins σ Q) X.xe s := by
  have hq := h (s.heap.objs.size + 1) s.heap.objs.size (I.hok.fresh (Nat.le_succ _)) (I.hok.fresh (Nat.le_refl _)) (Nat.ne_of_lt (Nat.lt_succ_self _))
  have I2 := Inv.made (C := C) I
  have r2 : Vals (V.ref (s.heap.objs.size + 1) :: vs) (Value.ref (s.heap.objs.size + 1) :: us) := .cons rfl r
  have hl : (Value.ref (s.heap.objs.size + 1) :: us).length = ps.length := by
    have e := r2.length
    rw [F.len _ _ _ _ hq] at e
    exact e.symm
  have b := hb _ (Value.ref (s.heap.objs.size + 1) :: us) I2.kIn (by rw [List.append_nil]; exact hl)
  rw [List.append_nil] at b
  refine wpAny_call (make_map (f := f) I.kIn M.makes M.init (beq_iff_eq.mp M.fn) (codeAny_mono (F.run _ X.stack _ _ ⟨Value.ref (s.heap.objs.size + 1) :: us, []⟩ (Value.ref (s.heap.objs.size + 1) :: us) _ _ (E σ) (hr.make C us [])
    (I2.env0.make C us []) b r2 hq) fun r s' hq' => ?_))
  cases r with
  | error e => exact hx pins _ _ e s' I2 hq'
  | ok fl =>
    cases fl with
    | ret u =>
      obtain ⟨v, H', I3, rv, ev, q3⟩ := I2.after hq'
      subst ev
      exact ⟨rv, ⟨V.ref (s.heap.objs.size + 1), H', I3, rfl, q3⟩⟩
    | next => exact False.elim hq'
    | brk => exact False.elim hq'
    | cont => exact False.elim hq'
def tMakeS (C : Addr) (sp : Sp) (E : L2.St → XK) (t : TA) : TE := fun σ H Q => t σ H fun vs H1 => ∀ x dx, H1 x = none → H1 dx = none → dx ≠ x →
  sp (.ref x :: vs) (upd (upd H1 dx (.own x)) x (.ins C dx [])) (fun v H2 => v = .non ∧ Q (.ref x) H2) (E σ)
theorem pe_makeS (M : Mk X.K C f) (F : FnOk X.prog X.w X.K X.mg X.base CX k f fd ps sp) (hr : Room (k + 1) X.A) (hg : Gl X x) (hm : X.mg x = some (.ref C)) (hb : Binds X.K fd ps []) (hx : ∀ σ, PassesAt CX X σ (E σ))
    (ha : PA X (e :: es) t) (hdb : (x == ("__debug__" : Str)) = false) (he : starEach (e :: es) X.env = (false, eval e X.env) :: starEach es X.env) (hpl : (backTo pos (starEach es X.env)).any (·.1) = false) :
    PE X (.Call (.Name x p) (e :: es) [] pos) (tMakeS C sp E t) := by
  refine ⟨fun pins s σ H Q I h => ?_⟩
  refine wpAny_Call_Name_kw (ld_glob I hg hm ?_ hdb)
  refine PySem.W.callWith_K (h₀ := X.base) I.ok.mod.kin M.kp (thn (ha.run pos pins s σ H _ I h) fun us s1 ⟨vs, H1, I1, r, q⟩ => ⟨I1.kIn, ?_⟩) he hpl
  exact run_makeS M F hr hb (hx σ) I1 r q
def tMethS (C : Addr) (m : Str) (sp : Sp) (E : L2.St → XK) (ta : TE) (t : TA) : TE := fun σ H Q => ta σ H fun x H1 => ∃ a dx fs, x = .ref a ∧ H1 a = some (.ins C dx fs) ∧ fs.lookup m = none ∧
  t σ H1 fun vs H2 => sp (x :: vs) H2 Q (E σ)
theorem pe_methS {pl : Sem Bool} (he : PE X o ta) (c : Cls X.K C) (hm : Meth X.K C m f) (F : FnOk X.prog X.w X.K X.mg X.base CX k f fd ps sp) (hr : Room k X.A) (hb : Binds X.K fd ps []) (hx : ∀ σ, PassesAt CX X σ (E σ)) (ha : PA X (e :: es) t)
    (hst : starEach (e :: es) X.env = (false, eval e X.env) :: starEach es X.env) (hpl : (backTo pos (starEach es X.env)).any (·.1) = false)
    (ht : eval (.Call (.Attribute o m apos) (e :: es) [] pos) X.env = (do
      let ov ← eval o X.env
      standAt apos.atName
      let (f, first) ← holding [ov] (getMethod ov m pl)
      callWith pos f first (backTo pos (starEach (e :: es) X.env)) (backToKw pos (keywordEach [] X.env)))) :
    PE X (.Call (.Attribute o m apos) (e :: es) [] pos) (tMethS C m sp E ta t) := by
  refine ⟨fun pins s σ H Q I h => ?_⟩
  refine PySem.W.methodCall_KW (pl := pl) (thn (he.run pins s σ H _ I h) fun u s1 ⟨x, H1, I1, rx, a, dx, fs, ex, ea, l, q⟩ => ?_) ht
  subst ex
  obtain rfl : u = Value.ref a := rx
  refine getmeth_ok I1 ea c hm l ?_
  refine PySem.W.callWith_K (first := [.ref a]) (h₀ := X.base) I.ok.mod.kin hm.kp (thn (ha.run pos pins s1 σ H1 _ I1 q) fun us s2 ⟨vs, H2, I2, r, q2⟩ => ⟨I2.kIn, ?_⟩) hst hpl
  exact run_fnS (us := .ref a :: us) (vs := .ref a :: vs) F hr hb (hx σ) I2 (.cons rfl r) q2
theorem pe_methS0 {pl : Sem Bool} (he : PE X o ta) (c : Cls X.K C) (hm : Meth X.K C m f) (F : FnOk X.prog X.w X.K X.mg X.base CX k f fd ps sp) (hr : Room k X.A) (hb : Binds X.K fd ps []) (hx : ∀ σ, PassesAt CX X σ (E σ))
    (ht : eval (.Call (.Attribute o m apos) [] [] pos) X.env = (do
      let ov ← eval o X.env
      standAt apos.atName
      let (f, first) ← holding [ov] (getMethod ov m pl)
      callWith pos f first (backTo pos (starEach [] X.env)) (backToKw pos (keywordEach [] X.env)))) :
    PE X (.Call (.Attribute o m apos) [] [] pos) (tMethS C m sp E ta tNil) := by
  refine ⟨fun pins s σ H Q I h => ?_⟩
  refine PySem.W.methodCall_KW (pl := pl) (thn (he.run pins s σ H _ I h) fun u s1 ⟨x, H1, I1, rx, a, dx, fs, ex, ea, l, q⟩ => ?_) ht
  subst ex
  obtain rfl : u = Value.ref a := rx
  refine getmeth_ok I1 ea c hm l ?_
  exact PySem.W.callWith_K0 (first := [.ref a]) I1.kIn hm.kp (run_fnS (us := [.ref a]) (vs := [.ref a]) F hr hb (hx σ) I1 (.cons rfl .nil) q)
end
section
variable {c : Cx} {M : Pm} {Wx : WX} {pos : Pos}
theorem mk_rd {k g : Nat} {F : Fn} {xs : X} (hF : M.Phy[g]? = some F) {σ : L2.St} {H : Hp} {Q : VK} (h : rdX M Wx (.mk k g xs) σ H Q) :
    tMakeS (M.G.kap k) (spI M k F) (WE Wx) (rdA M Wx xs) σ H Q := by
  obtain ⟨A₀, W₀, A, W, sl, n, E, Qd, e, R, Xs, hw, kk⟩ := h
  refine ⟨A₀, W₀, A, W, sl, n, E, _, e, R, Xs, hw, fun vs ds W1 n1 S1 r1 q1 => ?_⟩
  have q1 : mkW M.Phy g ds n1 Qd E := q1
  unfold mkW at q1
  rw [hF] at q1
  have r1 : Ats M.G A W1 vs ds := r1
  intro x dx nx nd ne
  refine ⟨by rw [List.length_cons, r1.length]; exact q1.1, x, dx, vs, A, W1, ds, n1, Qd, E, rfl, nx, nd, ne, rfl, (R.ste S1).bas, (R.ste S1).strm, (R.ste S1).tabs, r1, q1.2, fun d W' n' S at' q => ?_, fun e W' n' cls dd S x q => ?_⟩
  · exact ⟨rfl, kk _ d W' n' (S1.trans S) ⟨.inl at', fun _ => at', fun z => nomatch z⟩ q⟩
  · exact Xs e W' n' cls dd (S1.trans S) x q
theorem meth_rd {k g : Nat} {F : Fn} {a xs : X} {m : Str} (hF : M.Phy[g]? = some F) (hm : (M.G.nm k).contains m = false) {σ : L2.St} {H : Hp} {Q : VK} (h : rdX M Wx (.meth k g a xs) σ H Q) :
    tMethS (M.G.kap k) m (spD M F) (WE Wx) (rdX M Wx a) (rdA M Wx xs) σ H Q := by
  obtain ⟨A₀, W₀, A, W, sl, n, E, Qd, e, R, Xs, hw, kk⟩ := h
  refine ⟨A₀, W₀, A, W, sl, n, E, _, e, R, Xs, hw, fun v d W1 n1 S1 r1 q1 => ?_⟩
  obtain ⟨io, q1⟩ := q1
  cases d with
  | obj k' fs' =>
    have io : k' = k := io
    subst io
    have h := r1.1.at (fun _ z => nomatch z)
    have h0 := h
    cases h with
    | @obj p dx fs _ _ z e2 na e3 t =>
      refine ⟨p, dx, fs, rfl, e2, ?_, ?_⟩
      · cases hl : fs.lookup m with
        | none => rfl
        | some u =>
          exfalso
          have : m ∈ M.G.nm k' := by
            rw [← e3]
            exact List.mem_map.mpr ⟨(m, u), PySem.mem_of_lookup hl, rfl⟩
          rw [List.contains_iff_mem.mpr this] at hm
          cases hm
      · refine ⟨A₀, W₀, A, W1, sl, n1, E, _, rfl, R.ste S1, Xs.ste S1, q1, fun vs ds W2 n2 S2 r2 q2 => ?_⟩
        have q2 : callW M.Phy g (D.obj k' fs' :: ds) n2 Qd E := q2
        unfold callW at q2
        rw [hF] at q2
        have r2 : Ats M.G A W2 vs ds := r2
        have R2 := (R.ste S1).ste S2
        have h2 := h0.stp ((R.ste S1).bas.stp S2)
        refine ⟨by rw [List.length_cons, r2.length]; exact q2.1, A, W2, D.obj k' fs' :: ds, n2, Qd, E, rfl, R2.bas, R2.strm, R2.tabs, .cons h2 r2, q2.2, fun v d W' n' S at' _ q => ?_, fun e W' n' cls dd S x q => ?_⟩
        · exact kk v d W' n' ((S1.trans S2).trans S) ⟨.inl at', fun _ => at', fun z => nomatch z⟩ q
        · exact Xs e W' n' cls dd ((S1.trans S2).trans S) x q
  | _ => exact False.elim io
theorem sx_mk (g : Good c M Wx) {k i : Nat} {F : Fn} {xs : X} {e : Expr} {es : List Expr} {p : Pos} (hk : k ∈ M.G.cl) (hi : M.ini k = some i) (hF : (M.Phy.take M.np)[i]? = some F) (hg : Gl c (M.G.cn k)) (hd : (M.G.cn k == ("__debug__" : Str)) = false)
    (ha : PA c (e :: es) (rdA M Wx xs)) (he : starEach (e :: es) c.env = (false, eval e c.env) :: starEach es c.env) (hpl : (backTo pos (starEach es c.env)).any (·.1) = false) : PE c (.Call (.Name (M.G.cn k) p) (e :: es) [] pos) (rdX M Wx (.mk k i xs)) := by
  obtain ⟨h1, ⟨j, h2, h3⟩, h4⟩ := g.fx.ini k i F hk hi hF
  exact PE.imp (pe_makeS h1 h3 (g.rm.mono h2) hg (g.fx.cnm k hk) h4 (passAt g.tk) ha hd he hpl) fun σ H Q h => mk_rd (take_get hF) h
theorem meth_ht {o : Expr} {m : Str} {apos pos : Pos} {es : List Expr} {env : PySem.Env} (hb : attributeBase o m env (eval o env) = eval o env) (hl : (apos.endLine == pos.line) = true)
    (hf : methodCallForm (es.length + ([] : List Keyword).length) (backTo pos (starEach es env)) (backToKw pos (keywordEach [] env)) = true) :
    eval (.Call (.Attribute o m apos) es [] pos) env = (do
      let ov ← eval o env
      standAt apos.atName
      let (f, first) ← holding [ov] (getMethod ov m (do return (← importBound o env).getD true))
      callWith pos f first (backTo pos (starEach es env)) (backToKw pos (keywordEach [] env))) := by
  have hpos : methodCallPos true o env apos pos = pure pos := by unfold methodCallPos; simp [hl]
  rw [arm_eval_Call, hb]
  unfold methodCall
  rw [hf, hpos]
  unfold calleeOf
  simp only [if_true, pure_bind]
theorem few_all : ∀ {es : List Expr} {cp : Pos} {env : PySem.Env}, es.all nst = true → (backTo cp (starEach es env)).all (fun x => !x.1) = true
  | [], _, _, _ => rfl
  | e :: es, cp, env, h => by
    rw [List.all_cons, Bool.and_eq_true] at h
    have he : starEach (e :: es) env = (false, eval e env) :: starEach es env := by
      have h1 := h.1
      cases e <;> first | rfl | (unfold nst at h1; cases h1)
    rw [he]
    show (true && (backTo cp (starEach es env)).all (fun x => !x.1)) = true
    rw [few_all h.2]
    rfl
theorem form_ok {es : List Expr} {cp : Pos} {env : PySem.Env} (h : es.all nst = true) (hl : es.length < 29) : methodCallForm (es.length + ([] : List Keyword).length) (backTo cp (starEach es env)) (backToKw cp (keywordEach [] env)) = true := by
  unfold methodCallForm
  rw [few_all h]
  show decide (es.length + 0 + 0 < 30) = true
  exact decide_eq_true (by omega)
theorem sx_meth (g : Good c M Wx) {k i : Nat} {F : Fn} {a xs : X} {o e : Expr} {es : List Expr} {m : Str} {apos : Pos} (hk : k ∈ M.G.cl) (hi : M.mth k m = some i) (hF : (M.Phy.take M.np)[i]? = some F) (hm : (M.G.nm k).contains m = false)
    (hb : attributeBase o m c.env (eval o c.env) = eval o c.env) (hl : (apos.endLine == pos.line) = true) (hn : (e :: es).all nst = true) (hz : (e :: es).length < 29)
    (ho : PE c o (rdX M Wx a)) (ha : PA c (e :: es) (rdA M Wx xs)) (he : starEach (e :: es) c.env = (false, eval e c.env) :: starEach es c.env) (hpl : (backTo pos (starEach es c.env)).any (·.1) = false) :
    PE c (.Call (.Attribute o m apos) (e :: es) [] pos) (rdX M Wx (.meth k i a xs)) := by
  obtain ⟨h1, h2, h3⟩ := g.fx.mth k m i F hk hi hF
  exact PE.imp (pe_methS ho (g.fx.cls k hk).cls h1 h2 g.rm h3 (passAt g.tk) ha he hpl (meth_ht hb hl (form_ok hn hz))) fun σ H Q h => meth_rd (take_get hF) hm h
theorem sx_meth0 (g : Good c M Wx) {k i : Nat} {F : Fn} {a : X} {o : Expr} {m : Str} {apos : Pos} (hk : k ∈ M.G.cl) (hi : M.mth k m = some i) (hF : (M.Phy.take M.np)[i]? = some F) (hm : (M.G.nm k).contains m = false)
    (hb : attributeBase o m c.env (eval o c.env) = eval o c.env) (hl : (apos.endLine == pos.line) = true) (ho : PE c o (rdX M Wx a)) :
    PE c (.Call (.Attribute o m apos) [] [] pos) (rdX M Wx (.meth k i a .nil)) := by
  obtain ⟨h1, h2, h3⟩ := g.fx.mth k m i F hk hi hF
  refine PE.imp (pe_methS0 ho (g.fx.cls k hk).cls h1 h2 g.rm h3 (passAt g.tk) (meth_ht hb hl (form_ok rfl (by decide)))) fun σ H Q h => ?_
  have h := meth_rd (take_get hF) hm h
  obtain ⟨A₀, W₀, A, W, sl, n, E, Qd, e, R, Xs, hw, k⟩ := h
  refine ⟨A₀, W₀, A, W, sl, n, E, Qd, e, R, Xs, hw, fun v d W1 n1 S1 r1 q1 => ?_⟩
  obtain ⟨p, dx, fs, z1, z2, z3, A₀', W₀', A', W', sl', n', E', Qd', e', R', Xs', hw', k'⟩ := k v d W1 n1 S1 r1 q1
  refine ⟨p, dx, fs, z1, z2, z3, ?_⟩
  have := k' [] [] W' n' R'.refl .nil hw'
  rw [e'] at this
  exact this
end
end Q
/-! Q layer, part L: the check of an expression against the program's own, and that it suffices. -/
namespace Q
open PySem PySem.Spec L2
/-- what a check knows: the built-ins' names, the defs', the classes, their names and fields -/
structure Cf where
  bs : List Str
  fns : List Str
  cl : List Nat
  nm : Nat → List Str
  cn : Nat → Str
  cal : Bool := false
  lm : Bool := false
  gd : Bool := false
  x : Nat := 0
  hf : Nat → Bool := fun _ => false
  pr : Nat → Scope → Expr → Option (List Expr) := fun _ _ _ => none
  init : Nat → Option Nat := fun _ => none
  meth : Nat → Str → Option Nat := fun _ _ => none
  np : Nat := 0
  xc : List Nat := []
  fr : Bool := false
  prf : Nat → Bool := fun _ => false
def Cf.off (cf : Cf) : Cf := { cf with cal := false, lm := false }
/-- arguments one by one -/
inductive ArgsR (env : PySem.Env) (R : X → Expr → Prop) : X → List Expr → Prop
  | nil : ArgsR env R .nil []
  | cons {a r : X} {e : Expr} {es : List Expr} : a.isBor = false → (∀ l, starEach (e :: l) env = (false, eval e env) :: starEach l env) → R a e → ArgsR env R r es → ArgsR env R (.cons a r) (e :: es)
abbrev PEs (c : Cx) (M : Pm) (Wx : WX) (xs : X) (es : List Expr) : Prop := ArgsR c.env (fun a e => PE c e (rdX M Wx a)) xs es
/-- what a lambda's body is checked by -/
def Cf.lamb (cf : Cf) : Cf := { cf.off with x := cf.x - 2, gd := false, pr := if cf.gd = true then fun _ _ _ => none else cf.pr }
structure Fit (M : Pm) (cf : Cf) : Prop where
  bs : M.bs = cf.bs
  fns : (M.Phy.take M.nf).map (·.name) = cf.fns
  cl : M.G.cl = cf.cl
  nm : M.G.nm = cf.nm
  cn : M.G.cn = cf.cn
  cal : cf.cal = true → M.cal = true
  lm : cf.lm = true → M.lm = true
  gd : cf.gd = M.gd
  x : cf.x = M.x
  hf : cf.hf = M.hf
  ini : M.ini = cf.init
  mth : M.mth = cf.meth
  np : M.np = cf.np ∧ M.np ≤ M.Phy.length ∧ M.nf ≤ M.np
  xc : M.G.xc = cf.xc
  prs : ∀ (p : Nat) {c : Cx} {Wx : WX}, ∀ (L : List Fn) (y : Nat), Good c { M.off with Phy := M.Phy ++ L, x := y } Wx → ∀ (e : Expr) (es : List Expr), cf.pr p c.env.scope e = some es → ∀ xs : X, PEs c { M with Phy := M.Phy ++ L } Wx xs es → PE c e (rdX { M with Phy := M.Phy ++ L } Wx (.pri p xs)) ∧ (cf.prf p = true → PE c e (rdX { M with Phy := M.Phy ++ L } Wx (.priF p xs)))
  fr : cf.fr = M.fr
theorem Fit.off {M : Pm} {cf : Cf} (F : Fit M cf) : Fit M.off cf.off := ⟨F.bs, F.fns, F.cl, F.nm, F.cn, (fun h => nomatch h), (fun h => nomatch h), F.gd, F.x, F.hf, F.ini, F.mth, F.np, F.xc, F.prs, F.fr⟩
theorem Good.off {c : Cx} {M : Pm} {Wx : WX} (g : Good c M Wx) : Good c M.off Wx := ⟨⟨g.fx.KG, g.fx.bs, g.fx.fns, g.fx.cls, g.fx.cnm, g.fx.exm, g.fx.xcn, g.fx.exc, g.fx.hof, g.fx.few, g.fx.ini, g.fx.mth, g.fx.mx, g.fx.fty⟩, g.calm, g.nd, g.room, g.tk, (fun h => nomatch h), (fun h => nomatch h), g.gd⟩
structure Ck where
  x : Scope → Expr → Bool
  t : Scope → Expr → Bool
  a : Scope → List Expr → Bool
  ab : Scope → List Expr → Bool
  b : Bool → Scope → List Expr → Bool
  bt : Bool → Scope → List Expr → Bool
  o : Scope → Option Expr → Bool
  i : Scope → Expr → Expr → Bool
def plainT : Expr → Bool
  | .UnaryOp .Not _ _ => false
  | .BoolOp _ _ _ => false
  | .IfExp _ _ _ _ => false
  | .Compare _ _ _ _ => false
  | _ => true
def plainI : Expr → Bool
  | .Slice _ _ _ _ => false
  | _ => true
def noCall : Expr → Bool
  | .Call (.Name _ _) [] [] _ => false
  | _ => true
def noSet : Expr → Bool
  | .Set _ _ _ => false
  | _ => true
def noComp : Expr → Bool
  | .ListComp _ _ _ _ => false
  | .SetComp _ _ _ _ => false
  | .DictComp _ _ _ _ _ => false
  | _ => true
def isTup : Expr → Bool
  | .Tuple _ _ _ => true
  | _ => false
def ckN : Ck := ⟨fun _ _ => false, fun _ _ => false, fun _ _ => false, fun _ _ => false, fun _ _ _ => false, fun _ _ _ => false, fun _ _ => false, fun _ _ _ => false⟩
def ckV (f : Scope → Expr → Bool) : Ck := { ckN with x := f, t := fun sc e => plainT e && f sc e, o := fun sc o => match o with | some e => f sc e | none => false }
def ckI (f : Scope → Expr → Expr → Bool) : Ck := { ckN with i := f }
section
variable (cf : Cf) (N : List Str)
/-- a lambda's parameters: none, or one -/
def lamPs : Arguments → Option (List Str)
  | ⟨[], [], none, [], [], none, []⟩ => some []
  | ⟨[], [⟨x, _, _⟩], none, [], [], none, []⟩ => some [x]
  | _ => none
def lamPB (N : List Str) (sc scope : Scope) (ps : List Str) : Bool :=
  ((decide (scope.kind = .function) && (!scope.isCoroutine && !scope.isGenerator)) && (scope.names.all fun y => !decide (y.2 = .cell) && ((!decide (y.2 = .local) || ps.contains y.1) && (!decide (y.2 = .free) || (decide (sc.names.lookup y.1 = some .cell) || decide (sc.names.lookup y.1 = some .free)))))) &&
    ((ps.all fun x => decide (scope.names.lookup x = some .local)) && decide (N ++ ps).Nodup)
def gnB (sc : Scope) (s : Str) : Bool := glB sc s && cf.bs.contains s
/-- a target's check: its names are the block's own -/
def ckTg : Tg → Scope → Expr → Bool
  | .nm i, so, .Name s _ => decide (N[i]? = some s) && (match so.names.lookup s with | some .local => true | some .cell => true | _ => false)
  | .tp ts, so, .Tuple es _ _ => ckTgs ts so es
  | _, _, _ => false
where ckTgs : Tg → Scope → List Expr → Bool
  | .nil, _, [] => true
  | .cons t ts, so, e :: es => nst e && (ckTg t so e && ckTgs ts so es)
  | _, _, _ => false
def ckTy (sc : Scope) : Ty → Expr → Bool
  | .cls k, .Name s _ => cf.cl.contains k && (decide (s = cf.cn k) && glB sc s)
  | u, .Name s _ => decide (s = u.nm cf.cn) && gnB cf sc s
  | _, _ => false
def ckTys (sc : Scope) : List Ty → List Expr → Bool
  | [], [] => true
  | u :: us, e :: es => nst e && (ckTy cf sc u e && ckTys sc us es)
  | _, _ => false
def X.isTru : X → Bool
  | .bl true => true
  | _ => false
def ckIfs (cc : Scope → Expr → Bool) (tr : Bool) (sc : Scope) : List Expr → Bool
  | [] => tr
  | [f] => cc sc f
  | _ => false
def blkN (t : Tg) : List (Str × Nat) := t.slots.map fun i => ((N[i]?).getD (Str.ofString ""), i)
def chkA : X → Cf → List Str → Ck
  | .var i, cf, N => ckV fun sc e => match e with | .Name s _ => nmB N sc i s | _ => false
  | .bor i, cf, N => ckV fun sc e => match e with | .Name s _ => nmB N sc i s | _ => false
  | .int m, cf, N => ckV fun _ e => match e with | .Constant (.int k) _ _ => decide (k = m) | _ => false
  | .str m, cf, N => ckV fun _ e => match e with | .Constant (.str k) _ _ => decide (k = m) | _ => false
  | .bl m, cf, N => ckV fun _ e => match e with | .Constant (.bool k) _ _ => decide (k = m) | _ => false
  | .non, cf, N => ckV fun _ e => match e with | .Constant .none _ _ => true | _ => false
  | .glo g, cf, N => ckV fun sc e => match e with | .Name s _ => decide (cf.fns[g]? = some s) && glB sc s | _ => false
  | .neg a, cf, N => ckV fun sc e => match e with | .UnaryOp .USub e _ => (chkA a cf N).x sc e | _ => false
  | .bin o a b, cf, N => ckV fun sc e => match e with | .BinOp e op f _ => decide (op = opOf o) && ((chkA a cf N).x sc e && (chkA b cf N).x sc f) | _ => false
  | .cmp o a b, cf, N => { ckV (fun sc e => match e with | .Compare e [op] [f] _ => decide (op = cmOf o) && ((chkA a cf N).x sc e && ((chkA b cf N).x sc f && !(behindInMarks op f))) | _ => false) with
      t := fun sc e => match e with | .Compare e [op] [f] _ => decide (op = cmOf o) && ((chkA a cf N).x sc e && ((chkA b cf N).x sc f && !(behindInMarks op f))) | _ => false }
  | .cmp2 o p a b c, cf, N => { ckV (fun sc e => match e with | .Compare e [op, oq] [f, h] _ => (decide (op = cmOf o) && decide (oq = cmOf p)) && ((chkA a cf N).x sc e && ((chkA b cf N).x sc f && ((chkA c cf N).x sc h && !(lastMarks [op, oq] [f, h])))) | _ => false) with
      t := fun sc e => match e with | .Compare e [op, oq] [f, h] _ => (decide (op = cmOf o) && decide (oq = cmOf p)) && ((chkA a cf N).x sc e && ((chkA b cf N).x sc f && ((chkA c cf N).x sc h && !(lastMarks [op, oq] [f, h])))) | _ => false }
  | .boo con xs, cf, N => { ckV (fun sc e => match e with | .BoolOp op es _ => decide (op = boOf con) && (chkA xs cf N).b con sc es | _ => false) with
      t := fun sc e => match e with | .BoolOp op es _ => decide (op = boOf con) && (chkA xs cf N).bt con sc es | _ => false }
  | .not_ a, cf, N => { ckV (fun sc e => match e with | .UnaryOp .Not e _ => (chkA a cf N).x sc e | _ => false) with t := fun sc e => match e with | .UnaryOp .Not e _ => (chkA a cf N).t sc e | _ => false }
  | .ite c a b, cf, N => ckV fun sc e => match e with | .IfExp e f h _ => (!a.isBor && !b.isBor) && ((chkA c cf N).t sc e && ((chkA a cf N).x sc f && (chkA b cf N).x sc h)) | _ => false
  | .idx a b, cf, N => ckV fun sc e => match e with | .Subscript e f _ => plainI f && ((chkA a cf N).x sc e && (chkA b cf N).x sc f) | _ => false
  | .slc a lo hi, cf, N => ckV fun sc e => match e with | .Subscript e (.Slice l h none _) _ => (chkA a cf N).x sc e && ((chkA lo cf N).o sc l && (chkA hi cf N).o sc h) | _ => false
  | .lst xs, cf, N => ckV fun sc e => match e with | .List es _ => (chkA xs cf N).a sc es | _ => false
  | .tup xs, cf, N => ckV fun sc e => match e with | .Tuple es _ _ => (chkA xs cf N).a sc es | _ => false
  | .call g xs, cf, N => ckV fun sc e => match e with | .Call (.Name s _) (e :: es) [] _ => (decide (cf.fns[g]? = some s) && glB sc s) && ((nst e && es.all nst) && (chkA xs cf N).a sc (e :: es)) | _ => false
  | .bi b xs, cf, N => ckV fun sc e => match e with | .Call (.Name s _) (e :: es) [] _ => (decide (s = b.nm) && gnB cf sc s) && ((nst e && es.all nst) && (chkA xs cf N).ab sc (e :: es)) | _ => false
  | .ist a ts one, cf, N => ckV fun sc e => match e with
      | .Call (.Name s _) [e, .Tuple us _ _] [] _ => (decide (s = "isinstance") && gnB cf sc s) && ((!one && (decide (ts.length ≤ 1000) && nst e)) && ((chkA a cf N).x sc e && ckTys cf sc ts us))
      | .Call (.Name s _) [e, f] [] _ => (decide (s = "isinstance") && gnB cf sc s) && ((one && (nst e && nst f)) && ((chkA a cf N).x sc e && (match ts with | [u] => ckTy cf sc u f | _ => false)))
      | _ => false
  | .fld k f a, cf, N => ckV fun sc e => match e with | .Attribute e nm _ => (cf.cl.contains k && (decide ((cf.nm k)[f]? = some nm) && noCall e)) && (chkA a cf N).x sc e | _ => false
  | .comp t it cond elt, cf, N => ckV fun sc e => match e with
      | .ListComp e [⟨tg, iter, ifs, 0⟩] scope _ => (!elt.isBor && (noSet iter && blkC N sc scope (blkN N t))) && ((chkA it cf N).i sc tg iter && (ckTg N t scope tg && (ckIfs (chkA cond cf.off N).t cond.isTru (relS scope sc) ifs && (chkA elt cf.off N).x (relS scope sc) e)))
      | _ => false
  | .itl a, cf, N => ckI fun sc _ e => !a.isBor && (chkA a cf N).x sc e
  | .itr a, cf, N => ckI fun sc _ e => match e with | .Call (.Name s _) [e] [] _ => (decide (s = "range") && gnB cf sc s) && (nst e && (chkA a cf N).x sc e) | _ => false
  | .itr2 a b, cf, N => ckI fun sc _ e => match e with | .Call (.Name s _) [e, f] [] _ => (decide (s = "range") && gnB cf sc s) && ((nst e && nst f) && ((chkA a cf N).x sc e && (chkA b cf N).x sc f)) | _ => false
  | .itz a b, cf, N => ckI fun sc tg e => match e with | .Call (.Name s _) [e, f] [] _ => (isTup tg && (decide (s = "zip") && gnB cf sc s)) && (((nst e && nst f) && (!a.isBor && !b.isBor)) && ((chkA a cf N).x sc e && (chkA b cf N).x sc f)) | _ => false
  | .ite_ a, cf, N => ckI fun sc tg e => match e with | .Call (.Name s _) [e] [] _ => (isTup tg && (decide (s = "enumerate") && gnB cf sc s)) && ((nst e && !a.isBor) && (chkA a cf N).x sc e) | _ => false
  | .inO neg a i, cf, N => { ckV (fun sc e => match e with | .Compare e [op] [.Name s _] _ => (decide (op = if neg = true then .NotIn else .In) && !a.isBor) && (nmB N sc i s && (chkA a cf N).x sc e) | _ => false) with
      t := fun sc e => match e with | .Compare e [op] [.Name s _] _ => (decide (op = if neg = true then .NotIn else .In) && !a.isBor) && (nmB N sc i s && (chkA a cf N).x sc e) | _ => false }
  | .calV gs i xs, cf, N => ckV fun sc e => match e with | .Call (.Name s _) (e :: es) [] _ => (nmB N sc i s && gs.all fun g => decide (g < cf.fns.length)) && ((nst e && es.all nst) && (chkA xs cf N).a sc (e :: es)) | _ => false
  | .callF g xs, cf, N => ckV fun sc e => match e with | .Call (.Name s _) (e :: es) [] _ => (decide (cf.fns[g]? = some s) && glB sc s) && ((nst e && es.all nst) && (chkA xs cf N).a sc (e :: es)) | _ => false
  | .priF p xs, cf, N => ckV fun sc e => cf.prf p && match cf.pr p sc e with | some es => (chkA xs cf N).a sc es | none => false
  | .dcomp t it cond kx vx, cf, N => ckV fun sc e => match e with
      | .DictComp k v [⟨tg, iter, ifs, 0⟩] scope _ => ((!kx.isBor && !vx.isBor) && (noSet iter && blkC N sc scope (blkN N t))) && ((chkA it cf N).i sc tg iter && (ckTg N t scope tg && (ckIfs (chkA cond cf.off N).t cond.isTru (relS scope sc) ifs && ((chkA kx cf.off N).x (relS scope sc) k && (chkA vx cf.off N).x (relS scope sc) v))))
      | _ => false
  | .dix a b, cf, N => ckV fun sc e => match e with | .Subscript e f _ => (plainI f && !b.isBor) && ((chkA a cf N).x sc e && (chkA b cf N).x sc f) | _ => false
  | .dge1 a b, cf, N => ckV fun sc e => match e with | .Call (.Attribute o m ap) [f] [] cp => ((decide (m = "get") && noCall o) && ((ap.endLine == cp.line) && (nst f && !b.isBor))) && ((chkA a cf N).x sc o && (chkA b cf N).x sc f) | _ => false
  | .dge2 a b z, cf, N => ckV fun sc e => match e with | .Call (.Attribute o m ap) [f, h] [] cp => ((decide (m = "get") && noCall o) && ((ap.endLine == cp.line) && ((nst f && nst h) && (!b.isBor && !z.isBor)))) && ((chkA a cf N).x sc o && ((chkA b cf N).x sc f && (chkA z cf N).x sc h)) | _ => false
  | .din neg a b, cf, N => { ckV (fun sc e => match e with | .Compare e [op] [f] _ => (decide (op = if neg = true then .NotIn else .In) && !a.isBor) && (((chkA a cf N).x sc e && (chkA b cf N).x sc f) && !(behindInMarks op f)) | _ => false) with
      t := fun sc e => match e with | .Compare e [op] [f] _ => (decide (op = if neg = true then .NotIn else .In) && !a.isBor) && (((chkA a cf N).x sc e && (chkA b cf N).x sc f) && !(behindInMarks op f)) | _ => false }
  | .nil, cf, N => { ckN with a := fun _ es => es.isEmpty, ab := fun _ es => es.isEmpty, o := fun _ o => o.isNone }
  | .cons a r, cf, N => { ckN with
      a := fun sc es => match es with | e :: es => (nst e && !a.isBor) && ((chkA a cf N).x sc e && (chkA r cf N).a sc es) | [] => false
      ab := fun sc es => match es with | e :: es => nst e && ((chkA a cf N).x sc e && (chkA r cf N).ab sc es) | [] => false
      b := fun con sc es => match es with
        | [e] => (r.isNil && !a.isBor) && (chkA a cf N).x sc e
        | e :: e2 :: es => !r.isNil && ((chkA a cf N).x sc e && (chkA r cf N).b con sc (e2 :: es))
        | [] => false
      bt := fun con sc es => match es with
        | [e] => r.isNil && (chkA a cf N).t sc e
        | e :: e2 :: es => !r.isNil && ((chkA a cf N).t sc e && (chkA r cf N).bt con sc (e2 :: es))
        | [] => false }
  | .nev, cf, N => { ckN with x := fun _ _ => true, t := fun _ _ => true }
  | .pri p xs, cf, N => ckV fun sc e => match cf.pr p sc e with | some es => (chkA xs cf N).a sc es | none => false
  | .cal i xs, cf, N => ckV fun sc e => match e with | .Call (.Name s _) es [] _ => (cf.cal && nmB N sc i s) && ((es.all nst && (!es.isEmpty || xs.isNil)) && (chkA xs cf N).a sc es) | _ => false
  | .callL i np l, cf, N => ckV fun sc e => match e with
      | .Call (.Name s _) [.Lambda params body scope _] [] _ => ((cf.lm && cf.hf i) && (decide (2 ≤ cf.x) && (decide (cf.fns[i]? = some s) && glB sc s))) && (match lamPs params with
          | some ps => ((np == ps.length) && !l.isBor) && (lamPB N sc scope ps && (chkA l cf.lamb (N ++ ps)).x scope body)
          | none => false)
      | _ => false
  | .callM i a np l, cf, N => ckV fun sc e => match e with
      | .Call (.Name s _) [e, .Lambda params body scope _] [] _ => ((cf.lm && cf.hf i) && (decide (2 ≤ cf.x) && (decide (cf.fns[i]? = some s) && glB sc s))) && (((nst e && !a.isBor) && (chkA a cf N).x sc e) && (match lamPs params with
          | some ps => ((np == ps.length) && !l.isBor) && (lamPB N sc scope ps && (chkA l cf.lamb (N ++ ps)).x scope body)
          | none => false))
      | _ => false
  | .mk k g xs, cf, N => ckV fun sc e => match e with
      | .Call (.Name s _) (e :: es) [] _ => (cf.cl.contains k && (decide (s = cf.cn k) && glB sc s)) && ((decide (cf.init k = some g) && decide (g < cf.np)) && ((nst e && es.all nst) && (chkA xs cf N).a sc (e :: es)))
      | _ => false
  | .meth k g a xs, cf, N => ckV fun sc e => match e with
      | .Call (.Attribute o m ap) es [] cp => ((cf.cl.contains k && decide (cf.meth k m = some g)) && (decide (g < cf.np) && !((cf.nm k).contains m))) && ((noCall o && (ap.endLine == cp.line)) && ((es.all nst && decide (es.length < 29)) && ((chkA a cf N).x sc o && (if es.isEmpty = true then xs.isNil else (chkA xs cf N).a sc es))))
      | _ => false
termination_by structural x => x
end
abbrev chk (cf : Cf) (N : List Str) (x : X) : Ck := chkA x cf N
end Q
/-! Q layer, part M: an expression that passes the check does what its meaning says. -/
namespace Q
open PySem PySem.Spec L2
theorem star_ok {e : Expr} (h : nst e = true) (es : List Expr) (env : PySem.Env) : starEach (e :: es) env = (false, eval e env) :: starEach es env := by
  cases e <;> first | rfl | (unfold nst at h; cases h)
theorem star_all : ∀ {es : List Expr} (env : PySem.Env), es.all nst = true → ∀ pos, (backTo pos (starEach es env)).any (·.1) = false
  | [], _, _, _ => rfl
  | e :: es, env, h, pos => by
    rw [List.all_cons, Bool.and_eq_true] at h
    rw [star_ok h.1]
    show (false || (backTo pos (starEach es env)).any (·.1)) = false
    rw [star_all env h.2 pos]
    rfl
theorem plainT_ok {e : Expr} (h : plainT e = true) (env : PySem.Env) (whole : Sem Value) : PySem.isTrue e env whole = (do let v ← whole; standAt e.pos; holding [v] (truthy v)) := by
  cases e with
  | UnaryOp op a p => cases op <;> first | rfl | (unfold plainT at h; cases h)
  | BoolOp _ _ _ => unfold plainT at h; cases h
  | IfExp _ _ _ _ => unfold plainT at h; cases h
  | Compare _ _ _ _ => unfold plainT at h; cases h
  | _ => rfl
theorem plainI_ok {f : Expr} (h : plainI f = true) : PlainIx f := by
  intro o i
  cases f <;> first | rfl | (unfold plainI at h; cases h)
theorem noCall_ok {e : Expr} (h : noCall e = true) (nm : Str) (env : PySem.Env) (w : Sem Value) : attributeBase e nm env w = w := by
  cases e with
  | Call f args kws p =>
    cases f with
    | Name id q =>
      cases args with
      | nil =>
        cases kws with
        | nil => unfold noCall at h; cases h
        | cons _ _ => rfl
      | cons _ _ => rfl
    | _ => rfl
  | _ => rfl
theorem noSet_ok {e : Expr} (h : noSet e = true) (env : PySem.Env) (x : Value) : foldedSetIterable e env x = pure x := by
  cases e <;> first | rfl | (unfold noSet at h; cases h)
/-- the meaning of an expression that is no and, or, not .. -/
def Vl (Phy : List Fn) (x : X) : Prop := (sem Phy x).t = (ofV (sem Phy x).v).t ∧ (sem Phy x).o = (ofV (sem Phy x).v).o
section
variable {cf : Cf} {N : List Str}
structure Snd (cf : Cf) (N : List Str) (y : X) : Prop where
  x : ∀ {M : Pm} {c : Cx} {Wx : WX}, Good c M Wx → Fit M cf → c.N = N → ∀ e, (chk cf N y).x c.env.scope e = true → PE c e (rdX M Wx y)
  t : ∀ {M : Pm} {c : Cx} {Wx : WX}, Good c M Wx → Fit M cf → c.N = N → ∀ e, (chk cf N y).t c.env.scope e = true → PT c e (rdT M Wx y)
  a : ∀ {M : Pm} {c : Cx} {Wx : WX}, Good c M Wx → Fit M cf → c.N = N → ∀ es, (chk cf N y).a c.env.scope es = true → PA c es (rdA M Wx y)
  p : ∀ {M : Pm} {c : Cx} {Wx : WX}, Good c M Wx → Fit M cf → c.N = N → ∀ es, (chk cf N y).a c.env.scope es = true → PEs c M Wx y es
  ab : ∀ {M : Pm} {c : Cx} {Wx : WX}, Good c M Wx → Fit M cf → c.N = N → ∀ es, (chk cf N y).ab c.env.scope es = true → PA c es (rdAb M Wx y)
  b : ∀ {M : Pm} {c : Cx} {Wx : WX}, Good c M Wx → Fit M cf → c.N = N → ∀ con es pos, (chk cf N y).b con c.env.scope es = true → PE c (.BoolOp (boOf con) es pos) (rdB M Wx con y)
  bt : ∀ {M : Pm} {c : Cx} {Wx : WX}, Good c M Wx → Fit M cf → c.N = N → ∀ con es pos, (chk cf N y).bt con c.env.scope es = true → PW c (.BoolOp (boOf con) es pos) (rdBT M Wx con y)
  o : ∀ {M : Pm} {c : Cx} {Wx : WX}, Good c M Wx → Fit M cf → c.N = N → ∀ e, (chk cf N y).o c.env.scope e = true → PO c e (rdO M Wx y)
  i : ∀ {M : Pm} {c : Cx} {Wx : WX}, Good c M Wx → Fit M cf → c.N = N → ∀ tg e, (chk cf N y).i c.env.scope tg e = true → PI c tg e (rdI M Wx y)
theorem snd_mk {x : X} {f g : Scope → Expr → Bool} (hc : chk cf N x = { ckV f with t := g }) (ho : ∀ Phy, (sem Phy x).o = (ofV (sem Phy x).v).o)
    (hx : ∀ {M : Pm} {c : Cx} {Wx : WX}, Good c M Wx → Fit M cf → c.N = N → ∀ e, f c.env.scope e = true → PE c e (rdX M Wx x))
    (ht : ∀ {M : Pm} {c : Cx} {Wx : WX}, Good c M Wx → Fit M cf → c.N = N → ∀ e, g c.env.scope e = true → PT c e (rdT M Wx x)) : Snd cf N x where
  x := fun G F n e h => hx G F n e (by rw [hc] at h; exact h)
  t := fun G F n e h => ht G F n e (by rw [hc] at h; exact h)
  a := fun G F n e h => by rw [hc] at h; cases h
  p := fun G F n e h => by rw [hc] at h; cases h
  ab := fun G F n e h => by rw [hc] at h; cases h
  b := fun G F n con es pos h => by rw [hc] at h; cases h
  bt := fun G F n con es pos h => by rw [hc] at h; cases h
  o := fun {M c Wx} G F n e h => by
    rw [hc] at h
    cases e with
    | none => cases h
    | some e =>
      refine so_some (fun E ρ n Q => ?_) (hx G F n e h)
      rw [ho]
      rfl
  i := fun G F n tg e h => by rw [hc] at h; cases h
theorem sndV {x : X} {f : Scope → Expr → Bool} (hc : chk cf N x = ckV f) (hs : ∀ Phy, sem Phy x = ofV (sem Phy x).v)
    (hx : ∀ {M : Pm} {c : Cx} {Wx : WX}, Good c M Wx → Fit M cf → c.N = N → ∀ e, f c.env.scope e = true → PE c e (rdX M Wx x)) : Snd cf N x :=
  snd_mk (f := f) (g := (ckV f).t) hc (fun Phy => by rw [hs Phy]; rfl) hx fun {M c Wx} G F n e h => by
    obtain ⟨h1, h2⟩ := Bool.and_eq_true_iff.mp h
    exact sx_test (hx G F n e h2) (fun E ρ n Q => by rw [hs M.Phy]; rfl) (plainT_ok h1 _)
theorem sndI {x : X} {f : Scope → Expr → Expr → Bool} (hc : chk cf N x = ckI f)
    (hx : ∀ {M : Pm} {c : Cx} {Wx : WX}, Good c M Wx → Fit M cf → c.N = N → ∀ tg e, f c.env.scope tg e = true → PI c tg e (rdI M Wx x)) : Snd cf N x where
  x := fun G F n e h => by rw [hc] at h; cases h
  t := fun G F n e h => by rw [hc] at h; cases h
  a := fun G F n e h => by rw [hc] at h; cases h
  p := fun G F n e h => by rw [hc] at h; cases h
  ab := fun G F n e h => by rw [hc] at h; cases h
  b := fun G F n con es pos h => by rw [hc] at h; cases h
  bt := fun G F n con es pos h => by rw [hc] at h; cases h
  o := fun G F n e h => by rw [hc] at h; cases h
  i := fun G F n tg e h => hx G F n tg e (by rw [hc] at h; exact h)
variable {M : Pm} {c : Cx} {Wx : WX}
theorem Good.blk (g : Good c M Wx) (s : Shared) (H : Hp) (scope : Scope) (ce : PySem.Env) (fp : List Addr) : Good (c.blk s H scope ce fp) M.off noW := ⟨g.off.fx, g.calm, g.nd, g.room, takes_none5, (fun h => nomatch h), (fun h => nomatch h), g.gd⟩
theorem gn_ok (F : Fit M cf) {s : Str} (h : gnB cf c.env.scope s = true) : Gl c s ∧ (s == ("__debug__" : Str)) = false ∧ s ∈ M.bs := by
  obtain ⟨h1, h2⟩ := Bool.and_eq_true_iff.mp h
  exact ⟨(gl_ok h1).1, (gl_ok h1).2, by rw [F.bs]; exact List.contains_iff_mem.mp h2⟩
theorem fn_ok (F : Fit M cf) {g : Nat} {s : Str} (h : cf.fns[g]? = some s) : ∃ f, (M.Phy.take M.nf)[g]? = some f ∧ f.name = s := by
  rw [← F.fns, List.getElem?_map, Option.map_eq_some_iff] at h
  exact h
/-- names of a target -/
def StoB (c : Cx) (so : Scope) : Prop := ∀ s, (so.names.lookup s = some .local ∨ so.names.lookup s = some .cell) → Loc c.env.scope s ∧ (c.fn s = true ∨ c.env.scope.names.lookup s = some .local)
theorem assign_len : ∀ {es : List Expr} {env : PySem.Env}, es.all nst = true → (assignEach es env).length = es.length ∧ (assignEach es env).findIdx? (·.1) = none
  | [], _, _ => ⟨rfl, rfl⟩
  | e :: es, env, h => by
    rw [List.all_cons, Bool.and_eq_true] at h
    have he : assignEach (e :: es) env = (false, assign e env) :: assignEach es env := by
      have h1 := h.1
      cases e <;> first | rfl | (unfold nst at h1; cases h1)
    obtain ⟨i1, i2⟩ := assign_len (env := env) h.2
    rw [he]
    refine ⟨by simp [i1], ?_⟩
    simp [List.findIdx?_cons, i2]
theorem ckTgs_all : ∀ {t : Tg} {so : Scope} {es : List Expr}, ckTg.ckTgs N t so es = true → es.all nst = true ∧ es.length = t.len
  | .nil, so, [], _ => ⟨rfl, rfl⟩
  | .nil, so, _ :: _, h => by unfold ckTg.ckTgs at h; cases h
  | .cons t ts, so, [], h => by unfold ckTg.ckTgs at h; cases h
  | .cons t ts, so, e :: es, h => by
    unfold ckTg.ckTgs at h
    simp only [Bool.and_eq_true] at h
    obtain ⟨i1, i2⟩ := ckTgs_all h.2.2
    refine ⟨by rw [List.all_cons, h.1, i1]; rfl, ?_⟩
    show es.length + 1 = ts.len + 1
    rw [i2]
  | .nm _, so, es, h => by unfold ckTg.ckTgs at h; cases h
  | .tp _, so, es, h => by unfold ckTg.ckTgs at h; cases h
mutual
theorem ckTg_ok (calm : c.calm = true) (nd : c.N.Nodup) (n : c.N = N) {so : Scope} (hs : StoB c so) : ∀ (t : Tg) (e : Expr), ckTg N t so e = true → PG c e (gT c.K t)
  | .nm i, e, h => by
    cases e with
    | Name s p =>
      unfold ckTg at h
      simp only [Bool.and_eq_true, decide_eq_true_eq] at h
      have hl : so.names.lookup s = some .local ∨ so.names.lookup s = some .cell := by
        have h2 := h.2
        split at h2 <;> first | (rename_i q; exact .inl q) | (rename_i q; exact .inr q) | cases h2
      exact pg_name nd (by rw [n]; exact h.1) (hs s hl).1 (hs s hl).2
    | _ => unfold ckTg at h; cases h
  | .tp ts, e, h => by
    cases e with
    | Tuple es k p =>
      have h : ckTg.ckTgs N ts so es = true := by unfold ckTg at h; exact h
      obtain ⟨h1, h2⟩ := ckTgs_all h
      obtain ⟨i1, i2⟩ := assign_len (env := c.env) h1
      have p1 := pg_tup (k := k) (pos := p) calm (ckTgs_ok calm nd n hs ts es h) (i1.trans h2) i2
      have p2 := pg_lst (k := k) (pos := p) calm (ckTgs_ok calm nd n hs ts es h) (i1.trans h2) i2
      exact ⟨fun pins s σ H v u Q I r z => z.elim (p1.run pins s σ H v u Q I r) (p2.run pins s σ H v u Q I r)⟩
    | _ => unfold ckTg at h; cases h
  | .nil, e, h => by unfold ckTg at h; cases h
  | .cons _ _, e, h => by unfold ckTg at h; cases h
theorem ckTgs_ok (calm : c.calm = true) (nd : c.N.Nodup) (n : c.N = N) {so : Scope} (hs : StoB c so) : ∀ (t : Tg) (es : List Expr), ckTg.ckTgs N t so es = true → PGs c es (gTs c.K t)
  | .nil, [], _ => pgs_nil
  | .nil, _ :: _, h => by unfold ckTg.ckTgs at h; cases h
  | .cons t ts, [], h => by unfold ckTg.ckTgs at h; cases h
  | .cons t ts, e :: es, h => by
    unfold ckTg.ckTgs at h
    simp only [Bool.and_eq_true] at h
    refine pgs_cons (ckTg_ok calm nd n hs t e h.2.1) (ckTgs_ok calm nd n hs ts es h.2.2) ?_
    have h1 := h.1
    cases e <;> first | rfl | (unfold nst at h1; cases h1)
  | .nm _, es, h => by unfold ckTg.ckTgs at h; cases h
  | .tp _, es, h => by unfold ckTg.ckTgs at h; cases h
end
theorem ty_boot (G : Gb) (cn : Nat → Str) (u : Ty) (h : ∀ k, u ≠ .cls k) : ∃ T, bootBuiltins (u.nm cn) = some (.type T) ∧ tyT G u = .ty T ∧ u.nm cn ≠ ("__name__" : Str) := by
  cases u with
  | cls k => exact absurd rfl (h k)
  | int => exact ⟨"int", show bootBuiltins "int" = _ by decide +kernel, rfl, show ("int" : Str) ≠ "__name__" by decide⟩
  | bool => exact ⟨"bool", show bootBuiltins "bool" = _ by decide +kernel, rfl, show ("bool" : Str) ≠ "__name__" by decide⟩
  | str => exact ⟨"str", show bootBuiltins "str" = _ by decide +kernel, rfl, show ("str" : Str) ≠ "__name__" by decide⟩
  | list => exact ⟨"list", show bootBuiltins "list" = _ by decide +kernel, rfl, show ("list" : Str) ≠ "__name__" by decide⟩
  | tuple => exact ⟨"tuple", show bootBuiltins "tuple" = _ by decide +kernel, rfl, show ("tuple" : Str) ≠ "__name__" by decide⟩
  | dict => exact ⟨"dict", show bootBuiltins "dict" = _ by decide +kernel, rfl, show ("dict" : Str) ≠ "__name__" by decide⟩
theorem ckTy_ok (G : Good c M Wx) (F : Fit M cf) {u : Ty} {e : Expr} (h : ckTy cf c.env.scope u e = true) : TyN c M.G e u := by
  have key : ∀ {s : Str} {p : Pos} {T : String}, u.nm cf.cn = s → bootBuiltins s = some (.type T) → tyT M.G u = .ty T → s ≠ ("__name__" : Str) → gnB cf c.env.scope s = true → PE c (.Name s p) (tC (tyT M.G u)) := fun {s p T} e1 e2 e3 e4 h => by
    obtain ⟨g1, g2, g3⟩ := gn_ok F h
    exact pe_bltn g1 (G.fx.bs s g3) e2 (by rw [e3]; rfl) e4 g2
  have base : ∀ {s : Str} {p : Pos} (u : Ty), (∀ k, u ≠ .cls k) → s = u.nm cf.cn → gnB cf c.env.scope s = true → TyN c M.G (.Name s p) u := fun {s p} u hu h1 h2 => by
    obtain ⟨T, b1, b2, b3⟩ := ty_boot M.G cf.cn u hu
    subst h1
    obtain ⟨g1, g2, g3⟩ := gn_ok F h2
    exact ⟨pe_bltn g1 (G.fx.bs _ g3) b1 (by rw [b2]; rfl) b3 g2, fun k z => absurd z (hu k)⟩
  clear key
  cases u with
  | cls k =>
    cases e with
    | Name s p =>
      unfold ckTy at h
      simp only [Bool.and_eq_true, decide_eq_true_eq] at h
      obtain ⟨h1, h2, h3⟩ := h
      have hk : k ∈ M.G.cl := by rw [F.cl]; exact List.contains_iff_mem.mp h1
      have hm := G.fx.cnm k hk
      rw [F.cn, ← h2] at hm
      exact ⟨pe_glob (gl_ok h3).1 hm rfl (gl_ok h3).2, fun j e => by cases e; exact hk⟩
    | _ => unfold ckTy at h; cases h
  | _ =>
    cases e with
    | Name s p =>
      unfold ckTy at h
      simp only [Bool.and_eq_true, decide_eq_true_eq] at h
      obtain ⟨h1, h2⟩ := h
      exact base _ (by intro k z; cases z) h1 h2
    | _ => unfold ckTy at h; cases h
theorem ckTys_ok (G : Good c M Wx) (F : Fit M cf) : ∀ {us : List Ty} {es : List Expr}, ckTys cf c.env.scope us es = true → TyNs c M.G es us
  | [], [], _ => .nil
  | [], _ :: _, h => by unfold ckTys at h; cases h
  | _ :: _, [], h => by unfold ckTys at h; cases h
  | u :: us, e :: es, h => by
    unfold ckTys at h
    simp only [Bool.and_eq_true] at h
    exact .cons (ckTy_ok G F h.2.1) (star_ok h.1 _ _) (ckTys_ok G F h.2.2)
end
end Q
/-! Q layer, part g: a lambda with parameters is entered. -/
namespace Q
open PySem PySem.Spec L2 LamX
/-- the names of a lambda with the parameters ps in a def with the names N -/
structure LamP (N : List Str) (sc scope : Scope) (ps : List Str) : Prop where
  kind : scope.kind = .function
  co : scope.isCoroutine = false
  gen : scope.isGenerator = false
  own : ∀ y ∈ scope.names, y.2 ≠ .cell
  loc : ∀ y ∈ scope.names, y.2 = .local → y.1 ∈ ps
  par : ∀ x ∈ ps, scope.names.lookup x = some .local
  free : ∀ y ∈ scope.names, y.2 = .free → sc.names.lookup y.1 = some .cell ∨ sc.names.lookup y.1 = some .free
  nd : (N ++ ps).Nodup
theorem lamP_by {N : List Str} {sc scope : Scope} {ps : List Str} (h : lamPB N sc scope ps = true) : LamP N sc scope ps := by
  unfold lamPB at h
  simp only [Bool.and_eq_true, Bool.or_eq_true, Bool.not_eq_true', decide_eq_true_eq, decide_eq_false_iff_not, List.all_eq_true] at h
  obtain ⟨⟨⟨h1, h2, h3⟩, h4⟩, h5, h6⟩ := h
  refine ⟨h1, h2, h3, fun y hy => (h4 y hy).1, fun y hy e => ?_, fun x hx => h5 x hx, fun y hy e => ?_, h6⟩
  · rcases (h4 y hy).2.1 with z | z
    · exact absurd e z
    · exact List.contains_iff_mem.mp z
  · rcases (h4 y hy).2.2 with z | z
    · exact absurd e z
    · exact z
theorem LamP.has {X : Cx} {scope : Scope} {ps : List Str} (L : LamP X.N X.env.scope scope ps) (ok : X.Ok) : ∀ y ∈ scope.names, y.2 = .free → ∃ c, X.env.cells.lookup y.1 = some c := fun y hy e => by
  rcases L.free y hy e with k | k
  · exact ok.has _ (.inl k)
  · exact ok.has _ (.inr k)
/-- the context of its body -/
abbrev lamCxP (X : Cx) (ps : List Str) (A : Around) (outer : List PySem.Env) (s : Shared) (H : Hp) (E : XK) (scope : Scope) (f c' : Addr) : Cx := { lamCx X A outer s H E scope f c' with N := X.N ++ ps }
theorem lookup_nodup {x : Str} {u : Value} : ∀ {l : List (Str × Value)}, (x, u) ∈ l → (l.map Prod.fst).Nodup → l.lookup x = some u
  | [], h, _ => by cases h
  | (y, w) :: r, hm, nd => by
    rw [List.map_cons, List.nodup_cons] at nd
    rw [List.lookup_cons]
    by_cases e : x = y
    · subst e
      rcases List.mem_cons.mp hm with z | z
      · cases z
        simp
      · exact absurd (List.mem_map.mpr ⟨_, z, rfl⟩) nd.1
    · rcases List.mem_cons.mp hm with z | z
      · cases z
        exact absurd rfl e
      · have : (x == y) = false := by rw [beq_eq_false_iff_ne]; exact e
        rw [this]
        exact lookup_nodup z nd.2
theorem zip_rev {ps : List Str} {us : List Value} (nd : ps.Nodup) (hl : us.length = ps.length) {j : Nat} {x : Str} {u : Value} (h1 : ps[j]? = some x) (h2 : us[j]? = some u) : (ps.zip us).reverse.lookup x = some u := by
  refine lookup_nodup ?_ ?_
  · rw [List.mem_reverse]
    have : (ps.zip us)[j]? = some (x, u) := by
      rw [List.getElem?_zip_eq_some]
      exact ⟨h1, h2⟩
    exact List.mem_of_getElem? this
  · rw [List.map_reverse, List.map_fst_zip (by omega)]
    unfold List.Nodup at nd ⊢
    rw [List.pairwise_reverse]
    exact nd.imp fun h => Ne.symm h
section
variable {X : Cx} {pins : List (Addr × Obj)} {σ : L2.St} {H HZ : Hp} {s s1 : Shared}
theorem lamP_start {A : Around} {outer : List PySem.Env} {E : XK} {scope : Scope} {f c' : Addr} {h₁ : Heap} {tk : Nat} {ps : List Str} {vs : List V} {us : List Value} (I : Inv X pins σ H s) (L : LamP X.N X.env.scope scope ps) (e0 : Env0 X.prog X.w X.K X.mg X.base A outer s1 HZ) (hd : A.handled = none)
    (un : Un (frs X.stack) [] H HZ s.heap s1.heap) (rv : Vals vs us) (hl : us.length = ps.length) (hns : h₁.Ns s1.heap.objs.size fun y => (ps.zip us).reverse.lookup y) (kp : ∀ b o, s1.heap.get? b = some o → h₁.get? b = some o) :
    Inv (lamCxP X ps A outer s1 HZ E scope f c') [] (σ ++ vs.map some) HZ { s1 with heap := h₁, toks := tk } := by
  have hfree := L.has I.ok
  have cm : ∀ {y c}, (cloFrom X.env.cells scope.names []).lookup y = some c → X.env.cells.lookup y = some c := fun {y c} e => by
    rcases cloFrom_mem (PySem.mem_of_lookup e) with hm | ⟨h1, h2⟩
    · cases hm
    · obtain ⟨c1, hc⟩ := hfree _ h1 rfl
      have hc : X.env.cells.lookup y = some c1 := hc
      have e2 : c = c1 := by
        rw [h2, hc] <;> rfl
      rw [e2]
      exact hc
  have look : ∀ {y}, scope.names.lookup y = some .free → ∃ c, (cloFrom X.env.cells scope.names []).lookup y = some c := fun {y} hl => by
    have hy : (y, NameKind.free) ∈ scope.names := PySem.mem_of_lookup hl
    exact mem_lookup (cloFrom_has (cells := X.env.cells) (acc := []) hy)
  have cellK : ∀ {c : Addr} {v : Option Value}, H c = none → s.heap.IsCell c v → h₁.IsCell c v := fun {c v} n ⟨o, ho, hd⟩ => by
    obtain ⟨sl, q⟩ := un.any ho n (by simp)
    exact ⟨_, kp _ _ q, hd⟩
  have noA : ∀ b : Addr, b ∉ (lamCxP X ps A outer s1 HZ E scope f c').ex := fun b z => absurd (show b ∈ ([] : List Addr) from z) (by simp)
  have hvl : vs.length = ps.length := by rw [rv.length]; exact hl
  refine ⟨⟨e0.mod, L.kind, rfl, rfl, Nat.le_refl _, fun y z c e1 e2 => I.ok.inj y z c (cm e1) (cm e2), fun y hy => ?_, fun y c z _ => ?_, fun _ => hd, Around.frames_deeper e0.frames, .inr ⟨rfl, rfl⟩, fun b z => absurd z (noA b), e0.bs, e0.bsz, fun b _ _ => noA b,
      fun b z => absurd z (noA b), e0.funs, e0.frf⟩,
    rfl, e0.bare, Un.kept kp, ⟨_, hns, fun i y v e1 e2 e3 => ?_⟩, fun y c e => ?_, e0.hok.fresh (Nat.le_refl _), fun y c e => ?_, fun q hq => absurd (show q ∈ ([] : List (Addr × Obj)) ++ [] from hq) (by simp), e0.hok.kept kp, ?_⟩
  · have hy : scope.names.lookup y = some .cell ∨ scope.names.lookup y = some .free := hy
    rcases hy with hy | hy
    · exact absurd rfl (L.own _ (PySem.mem_of_lookup hy))
    · exact look hy
  · have z : false = true := z
    cases z
  · have e1 : (X.N ++ ps)[i]? = some y := e1
    have e3 : Vis scope y := e3
    by_cases hi : i < X.N.length
    · rw [List.getElem?_append_left hi] at e1
      rw [List.getElem?_append_left (by rw [I.len]; exact hi)] at e2
      have ny : y ∉ ps := fun hm => (List.nodup_append.mp L.nd).2.2 y (List.mem_of_getElem? e1) y hm rfl
      rcases e3 with k | k | k
      · exact absurd (L.loc _ (PySem.mem_of_lookup k) rfl) ny
      · exact absurd rfl (L.own _ (PySem.mem_of_lookup k))
      · obtain ⟨m, hn, hlk⟩ := I.loc
        have hvis : Vis X.env.scope y := (L.free _ (PySem.mem_of_lookup k) rfl).elim (fun k => .inr (.inl k)) (fun k => .inr (.inr k))
        obtain ⟨w', r, q⟩ := hlk i y v e1 e2 hvis
        obtain ⟨c2, h2⟩ := look k
        refine ⟨w', r, .inr ⟨.inr k, c2, h2, ?_⟩⟩
        have c1 := cm h2
        rcases q with ⟨k', _⟩ | ⟨_, c3, e', z⟩
        · have k' : X.env.scope.names.lookup y = some .local := k'
          rcases L.free _ (PySem.mem_of_lookup k) rfl with k2 | k2 <;> rw [show X.env.scope.names.lookup y = _ from k2] at k' <;> cases k'
        · rw [c1] at e'
          cases e'
          exact cellK (I.freeC y _ c1) z
    · have hi : X.N.length ≤ i := Nat.le_of_not_lt hi
      rw [List.getElem?_append_right hi] at e1
      rw [List.getElem?_append_right (by rw [I.len]; exact hi), I.len, List.getElem?_map] at e2
      have e2' : vs[i - X.N.length]? = some v := by
        cases q : vs[i - X.N.length]? with
        | none => rw [q] at e2; cases e2
        | some w => rw [q] at e2; cases e2; rfl
      obtain ⟨u, hu, ru⟩ := rv.get e2'
      exact ⟨u, ru, .inl ⟨L.par y (List.mem_of_getElem? e1), zip_rev (List.nodup_append.mp L.nd).2.1 hl e1 hu⟩⟩
  · obtain ⟨w', z⟩ := I.cell y c (cm e)
    exact ⟨w', cellK (I.freeC y c (cm e)) z⟩
  · obtain ⟨v, o, ho, hd⟩ := I.cell y c (cm e)
    exact un.free c o ho (I.freeC y c (cm e)) (by simp)
  · show (σ ++ vs.map some).length = (X.N ++ ps).length
    rw [List.length_append, List.length_append, List.length_map, I.len, hvl]
end
end Q
/-! Q layer, part h: a lambda that was handed on is called. -/
namespace Q
open PySem PySem.Spec L2 LamX
open PyProof.Rows (envOfC)
section
variable {X : Cx} {pins : List (Addr × Obj)} {σ : L2.St} {H HZ : Hp} {s s1 : Shared}
/-- the callee's context, in a try or not -/
abbrev inDef (X : Cx) (CXg : CXT) (Ng : List Str) (qg : Str) (sg : Scope) (g : Addr) (cdg : Value) (s : Shared) (H : Hp) (Eg : XK) (pn : List (Addr × Obj)) (xe : Value → Shared → Prop) : Cx :=
  (cxOf CXg X.prog X.w X.K X.mg X.base Ng qg sg g cdg X.A X.stack s H Eg).tr pn xe
/-- the function object of the lambda -/
def LamAt (X : Cx) (params : Arguments) (body : Expr) (scope : Scope) (f c' : Addr) (h : Heap) : Prop := ∃ pm ctv, h.get? f = some (PySem.W.kla_obj "<lambda>" (X.env.qual ++ "<lambda>") params body scope (cloFrom X.env.cells scope.names []) pm c' ctv)
theorem run_lamP {CXg : CXT} {Eg : XK} {Ng : List Str} {qg : Str} {sg : Scope} {g f c' : Addr} {cdg : Value} {params : Arguments} {body : Expr} {scope : Scope} {ps : List Str} {k : Nat} {pn : List (Addr × Obj)} {xe : Value → Shared → Prop} {E : XK} {tb : TE}
    {pinsZ : List (Addr × Obj)} {σZ : L2.St} {Q : VK} {vs : List V} {us : List Value}
    (I : Inv X pins σ H s) (L : LamP X.N X.env.scope scope ps) (hf : LamAt X params body scope f c' s.heap) (hfn : H f = none) (hfr : f ∉ frs X.stack)
    (hbind : ∀ (q : Str) (cl : List (Str × Addr)) (pm cv ctv : Value) (us : List Value), us.length = ps.length → bindArgs (PySem.W.kla_fn "<lambda>" q params body scope cl pm cv ctv) ⟨us, []⟩ = pure (ps.zip us))
    (hx : PassesAt (L2.CX X.prog X.w) (inDef X CXg Ng qg sg g cdg s H Eg pn xe) σZ E) (hr : Room (k + 1) (X.A.deeper (envOfC qg sg s.heap.objs.size g cdg)))
    (hbody : ∀ (A : Around) (outer : List PySem.Env) (s : Shared) (H : Hp), Room k (A.deeper (lamEnv X scope s.heap.objs.size f c')) → PE (lamCxP X ps A outer s H E scope f c') body tb)
    (IZ : Inv (inDef X CXg Ng qg sg g cdg s H Eg pn xe) pinsZ σZ HZ s1) (hc : HZ c' = some (CodeO c' (X.env.qual ++ "<lambda>"))) (rv : Vals vs us) (hl : vs.length = ps.length) (ht : tb (σ ++ vs.map some) HZ Q) :
    wpAny (model X.prog X.w) (X.A.deeper (envOfC qg sg s.heap.objs.size g cdg)) (call (.ref f) us) (EP (inDef X CXg Ng qg sg g cdg s H Eg pn xe) pinsZ σZ Q) xe s1 := by
  obtain ⟨pm, ctv, hf⟩ := hf
  have of1 := IZ.base.keep f _ hf hfn hfr (fun z => nomatch (show f ∈ ([] : List Addr) from z))
  have un : Un (frs X.stack) [] H HZ s.heap s1.heap := IZ.base
  obtain ⟨⟨oc, vs', t, hoc, hdc, hvc⟩, _, _⟩ := IZ.hok c' _ hc
  have hul : us.length = ps.length := by rw [← rv.length]; exact hl
  have rc : codeAny (model X.prog X.w) (X.A.deeper (envOfC qg sg s.heap.objs.size g cdg)) (.call (.ref f) ⟨us, []⟩) (CR (L2.CX X.prog X.w) (envOfC qg sg s.heap.objs.size g cdg :: X.stack) X.prog X.w HZ s1 Q E) s1 := by
    refine PySem.W.kla_callFunE hr.depth of1 rfl L.co L.gen rfl ⟨c', oc, vs', t, rfl, hoc, hdc, hvc⟩ ?_
    rw [hbind _ _ _ _ _ us hul]
    refine wpAny_pure (wpAny_newFunctionEnv (fun y hy => L.own y hy) (fun y hy => L.par y.1 (List.of_mem_zip hy).1) (fun h₁ hns hsb => ⟨IZ.nolimit.fresh _ hsb, ?_⟩) L.kind)
    show codeAny _ _ (.expr body (lamEnv X scope s1.heap.objs.size f c')) _ _
    have kp : ∀ b o, s1.heap.get? b = some o → h₁.get? b = some o := fun b o e => hsb.extBut b o (Nat.ne_of_lt (Heap.lt_size e)) (Heap.get?_push_of_some _ e)
    have J := lamP_start (f := f) (c' := c') (E := E) (tk := s1.toks + (ps.zip us).length) I L IZ.env0 hr.hd un rv hul hns kp
    refine PySem.W.kla_codeExpr (wpAny_mono ((hbody _ _ s1 HZ (hr.deeper _)).run [] _ _ HZ Q J ht) (fun v s' hq => ?_) fun e s' hq => hq)
    obtain ⟨w', H', J', rv', q⟩ := hq
    exact ⟨w', H', J'.os, J'.bare, J'.base, J'.hok, rv', q⟩
  refine wpAny_call (codeAny_mono rc fun r s' hq => ?_)
  cases r with
  | error e => exact hx pinsZ HZ s1 e s' IZ hq
  | ok fl =>
    cases fl with
    | ret u => exact IZ.after hq
    | next => exact False.elim hq
    | brk => exact False.elim hq
    | cont => exact False.elim hq
/-- a(e, ..), in the def that got the lambda -/
theorem pe_actP {CXg : CXT} {Eg : XK} {Ng : List Str} {qg : Str} {sg : Scope} {g f c' : Addr} {cdg : Value} {params : Arguments} {body : Expr} {scope : Scope} {ps : List Str} {k i : Nat} {a : Str} {pn : List (Addr × Obj)} {xe : Value → Shared → Prop} {W : WX} {tb : L2.St → TE} {ta : TA}
    {es : List Expr} {p1 p2 : Pos}
    (I : Inv X pins σ H s) (L : LamP X.N X.env.scope scope ps) (hf : LamAt X params body scope f c' s.heap) (hfn : H f = none) (hfr : f ∉ frs X.stack)
    (hbind : ∀ (q : Str) (cl : List (Str × Addr)) (pm cv ctv : Value) (us : List Value), us.length = ps.length → bindArgs (PySem.W.kla_fn "<lambda>" q params body scope cl pm cv ctv) ⟨us, []⟩ = pure (ps.zip us))
    (tk : Takes (inDef X CXg Ng qg sg g cdg s H Eg pn xe) W) (hr : Room (k + 1) (X.A.deeper (envOfC qg sg s.heap.objs.size g cdg)))
    (hbody : ∀ (σZ : L2.St) (A : Around) (outer : List PySem.Env) (s : Shared) (H : Hp), Room k (A.deeper (lamEnv X scope s.heap.objs.size f c')) → PE (lamCxP X ps A outer s H (WE W σZ) scope f c') body (tb σZ))
    (hN : Ng[i]? = some a) (hv : Vis sg a) (hd : (a == ("__debug__" : Str)) = false) (hcd : (a == ("__classdict__" : Str)) = false) (hn : es.all nst = true) (he : es = [] → ta = tNil) (ha : PA (inDef X CXg Ng qg sg g cdg s H Eg pn xe) es ta) :
    PE (inDef X CXg Ng qg sg g cdg s H Eg pn xe) (.Call (.Name a p1) es [] p2)
      (fun σZ HZ Q => σZ[i]? = some (some (.ref f)) ∧ ta σZ HZ fun vs H2 => vs.length = ps.length ∧ H2 c' = some (CodeO c' (X.env.qual ++ "<lambda>")) ∧ tb σZ (σ ++ vs.map some) H2 Q) := by
  refine ⟨fun pinsZ sZ σZ HZ Q IZ h => ?_⟩
  obtain ⟨hs, ht⟩ := h
  have hx := passAt tk σZ
  refine wpAny_Call_Name_kw (thn ((pe_var (pos := p1) (i := i) hN hv hd hcd).run pinsZ sZ σZ HZ (fun v H1 => v = .ref f ∧ H1 = HZ) IZ ⟨.ref f, hs, rfl, rfl⟩) fun u s1 ⟨v, H1, I1, r1, q1⟩ => ?_)
  obtain ⟨ev, eH⟩ := q1
  subst ev
  rw [eH] at I1
  obtain rfl : u = Value.ref f := r1
  have hf' := hf
  obtain ⟨pm, ctv, hf0⟩ := hf'
  have at' : ∀ {s2 : Shared} {σ2 : L2.St} {H2 : Hp}, Inv (inDef X CXg Ng qg sg g cdg s H Eg pn xe) pinsZ σ2 H2 s2 → PySem.W.FnAt f s2.heap := fun J =>
    ⟨_, _, _, _, J.base.keep f _ hf0 hfn hfr (fun z => nomatch (show f ∈ ([] : List Addr) from z))⟩
  cases es with
  | nil =>
    rw [he rfl] at ht
    obtain ⟨hl, hc, q⟩ := ht
    exact PySem.W.callWith_F0 (at' I1) (run_lamP (us := []) I L hf hfn hfr hbind hx hr (hbody σZ) I1 hc .nil hl q)
  | cons e es =>
    rw [List.all_cons, Bool.and_eq_true] at hn
    refine PySem.W.callWith_F (at' I1) (thn (ha.run p2 pinsZ s1 σZ HZ _ I1 ht) fun us s2 ⟨vs, H2, I2, rv, hl, hc, q⟩ => ⟨at' I2, ?_⟩) (star_ok hn.1 _ _) (star_all _ hn.2 _)
    exact run_lamP I L hf hfn hfr hbind hx hr (hbody σZ) I2 hc rv hl q
end
end Q
/-! Q layer, part j: a def is called with a lambda. -/
namespace Q
open PySem PySem.Spec L2 LamX
open PyProof.Rows (envOfC)
section
variable {G : Gb} {A₀ A A1 : Addr → Prop} {W₀ W W1 W2 : Wd} {σ σz : L2.St} {sl slz : Sl} {n n1 n2 : Nat}
theorem ExtS.less {A' : Addr → Prop} {H H' : Hp} (h : ExtS G A H H') (s : ∀ a, A' a → A a) : ExtS G A' H H' := ⟨h.there, fun a o e n1 n2 t => ⟨fun ha => (h.keep a o e n1 n2 t).1 (s a ha), (h.keep a o e n1 n2 t).2⟩⟩
/-- the state of the one that called, seen from the def that it called: A its lists, W where it called, A1 and W1 the def's now -/
theorem Rep.into (R : Rep G A₀ W₀ A σ W ⟨sl, n⟩) (Z : Rep G A W A1 σz W1 ⟨slz, n1⟩) : Rep G A₀ W₀ A1 σ W1 ⟨sl, n1⟩ := by
  have st : Stp A W A1 W1 := by
    refine ⟨fun a o e na t => ⟨(Z.ext.keep a o e (fun z => na (z ▸ Z.b0.st)) (fun z => na (z ▸ Z.b0.inn)) t).2, fun h => ?_⟩, fun m a e => ⟨by rw [Z.iot]; exact e, fun vs h => ?_⟩⟩
    · rcases Z.aold a h with h | h
      · exact na h
      · exact h.ne e t rfl
    · obtain ⟨x1, x2, x3⟩ := Z.b0.nam m a e
      exact (Z.ext.keep a _ h x2 x3 (fun _ z => nomatch z)).1 x1
  have keep : ∀ a o, A a → W.H a = some o → a ≠ G.st → a ≠ G.inn → NTbl o → W1.H a = some o := fun a o ha e n1 n2 t => (Z.ext.keep a o e n1 n2 t).1 ha
  refine ⟨R.b0, R.len, Z.strm, Z.tabs, Z.ain, fun a ha => Z.aup a (R.aup a ha), fun a ha => ?_, R.ext.trans (Z.ext.less R.aup) (fun _ h => h), Z.iot.trans R.iot, fun i d e => ?_, fun i xs e => ?_, R.sep, R.clo, fun i z p e hz => ?_⟩
  · rcases Z.aold a ha with h | h
    · exact R.aold a h
    · exact .inr (R.ext.back h)
  · obtain ⟨v, e1, x⟩ := R.val i d e
    exact ⟨v, e1, x.stp st⟩
  · obtain ⟨a, vs, e1, e2, e3, e4, x⟩ := R.own i xs e
    exact ⟨a, vs, e1, Z.aup a e2, e3, keep a _ e2 e4 (fun z => e3 (z ▸ R.b0.st)) (fun z => e3 (z ▸ R.b0.inn)) (fun _ z => nomatch z), x.stp st⟩
  · exact (R.slf i z p e hz).stp st fun q o h1 h2 h3 h4 => ⟨Z.aup q h1, keep q _ h1 h3 (fun z => h2 (z ▸ R.b0.st)) (fun z => h2 (z ▸ R.b0.inn)) h4.ntbl⟩
/-- more slots behind: the lambda's parameters -/
theorem Rep.args (R : Rep G A₀ W₀ A σ W ⟨sl, n⟩) {vs : List V} {ds : List D} (h : Ats G A W vs ds) : Rep G A₀ W₀ A (σ ++ vs.map some) W ⟨sl ++ ds.map Slot.val, n⟩ := by
  have hl := h.length
  have key : ∀ {i : Nat} {z : Slot}, (sl ++ ds.map Slot.val)[i]? = some z → (i < sl.length ∧ sl[i]? = some z) ∨ (sl.length ≤ i ∧ ∃ d, z = .val d ∧ ds[i - sl.length]? = some d) := fun {i z} e => by
    by_cases hi : i < sl.length
    · rw [List.getElem?_append_left hi] at e
      exact .inl ⟨hi, e⟩
    · rw [List.getElem?_append_right (by omega), List.getElem?_map, Option.map_eq_some_iff] at e
      obtain ⟨x, e1, e2⟩ := e
      exact .inr ⟨by omega, x, e2.symm, e1⟩
  have rl : σ.length = sl.length := R.len
  have left : ∀ {i : Nat}, i < sl.length → (σ ++ vs.map some)[i]? = σ[i]? := fun {i} hi => List.getElem?_append_left (by rw [rl]; exact hi)
  refine ⟨R.b0, by simp [rl, hl], R.strm, R.tabs, R.ain, R.aup, R.aold, R.ext, R.iot, fun i d e => ?_, fun i xs e => ?_, fun i j a xs ys e1 e2 e3 e4 => ?_, fun i g k e => ?_, fun i z p e hz => ?_⟩
  · rcases key e with ⟨hi, e⟩ | ⟨hi, d', z, e⟩
    · rw [left hi]
      exact R.val i d e
    · cases z
      obtain ⟨v, f1, f2⟩ := h.get e
      refine ⟨v, ?_, f2⟩
      rw [List.getElem?_append_right (by rw [rl]; exact hi), rl, List.getElem?_map, f1]
      rfl
  · rcases key e with ⟨hi, e⟩ | ⟨hi, d', z, e⟩
    · rw [left hi]
      exact R.own i xs e
    · cases z
  · rcases key e1 with ⟨hi, e1⟩ | ⟨hi, d', z, _⟩
    · rcases key e2 with ⟨hj, e2⟩ | ⟨hj, d', z, _⟩
      · rw [left hi] at e3
        rw [left hj] at e4
        exact R.sep i j a xs ys e1 e2 e3 e4
      · cases z
    · cases z
  · rcases key e with ⟨hi, e⟩ | ⟨hi, d', z, _⟩
    · rw [left hi]
      exact R.clo i g k e
    · cases z
  · rcases key e with ⟨hi, e⟩ | ⟨hi, d', z', _⟩
    · rw [left hi]
      exact R.slf i z p e hz
    · rw [z'] at hz
      cases hz
end
section
variable {c : Cx} {M : Pm} {Wx : WX} {pos : Pos}
/-- the lambda's reading holds where the def calls it -/
theorem lam_rd {ps : List Str} {l : X} {A₀ A : Addr → Prop} {W₀ W : Wd} {σ σZ : L2.St} {sl : Sl} {n : Nat} {key : Key} {W' : WX} {vs : List V} {H2 : Hp} {Q : VK} (R : Rep M.G A₀ W₀ A σ W ⟨sl, n⟩) (kA : key.A = A) (kW : key.W = W) (nb : l.isBor = false)
    (h : LR M.G key (fun es n Q E => es.length = ps.length ∧ wX M.Phy E l (sl ++ es.map Slot.val) n Q) W' σZ vs H2 Q) : vs.length = ps.length ∧ rdX M (fun cls dd _ H => W' cls dd σZ H) l (σ ++ vs.map some) H2 Q := by
  obtain ⟨A2, W2, σ2, sl2, n2, ds, Qd, Ed, e, Z, ha, ⟨hl, hw⟩, hQ, hE⟩ := h
  subst kA kW
  refine ⟨by rw [ha.length]; exact hl, A₀, W₀, A2, W2, _, n2, Ed, Qd, e, (R.into Z).args ha, fun e W3 n3 cls dd S x q => hE e W3 n3 cls dd S x q, hw, fun v d W3 n3 S r q => hQ v d W3 n3 S (r.2.1 nb) q⟩
end
end Q
/-! Q layer, part k: g(e, lambda ps: l), g a def. -/
namespace Q
open PySem PySem.Spec L2 LamX
open PyProof.Rows (envOfC)
section
variable {c : Cx} {M : Pm} {Wx : WX} {pos : Pos}
theorem PA.mon {es : List Expr} {ta : TA} (h : PA c es ta) : PA c es (fun σ H Q => ∃ Q0, ta σ H Q0 ∧ ∀ vs H2, Q0 vs H2 → Q vs H2) :=
  ⟨fun pos pins s σ H Q I ⟨Q0, h0, hq⟩ => thn (h.run pos pins s σ H Q0 I h0) fun us s1 ⟨vs, H1, I1, r, q⟩ => ⟨vs, H1, I1, r, hq _ _ q⟩⟩
theorem mon_nil : (fun (σ : L2.St) (H : Hp) (Q : List V → Hp → Prop) => ∃ Q0 : List V → Hp → Prop, tNil σ H Q0 ∧ ∀ vs H2, Q0 vs H2 → Q vs H2) = tNil := by
  funext σ H Q
  exact propext ⟨fun ⟨Q0, h0, hq⟩ => hq _ _ h0, fun h => ⟨Q, h, fun _ _ h => h⟩⟩
theorem Strm.extN {G : Gb} {n : Nat} {H H1 : Hp} (s : Strm G n H) (e : ExtN H H1) : Strm G n H1 := by
  obtain ⟨xs, c, h, m, z1, z2, z3, z4, zl, e1, e2, z5⟩ := s
  exact ⟨xs, c, h, m, z1, z2, z3, z4, zl, e _ _ e1 (fun _ z => nomatch z), e _ _ e2 (fun _ z => nomatch z), z5⟩
theorem ste_lam {G : Gb} {A : Addr → Prop} {W : Wd} {n : Nat} {H1 : Hp} (s : Strm G n W.H) (e : ExtN W.H H1) (t : Tabs G.T H1) : Ste G A W ⟨W.iot, H1⟩ n :=
  ⟨rfl, ⟨fun a o h tt => ⟨o, e a o h tt, tt⟩, fun a o h _ _ tt => ⟨fun _ => e a o h tt, ⟨o, e a o h tt, .inl rfl⟩⟩⟩, s.extN e, t⟩
theorem nd_code {c' : Addr} {q : Str} : ¬ DictO (core (CodeO c' q)) := fun h => by
  unfold CodeO at h
  rcases h with ⟨_, h⟩ | ⟨_, h⟩ <;> cases h
theorem code_lst {c' : Addr} {q : Str} {vs : List V} : CodeO c' q ≠ .lst vs := fun h => by
  unfold CodeO at h
  cases h
/-- what a def asks of the lambda that it gets -/
def lamL (Phy : List Fn) (l : X) (np : Nat) (sl : Sl) : DSp := fun es n Q E => es.length = np ∧ wX Phy E l (sl ++ es.map Slot.val) n Q
/-- the arguments are there: the lambda is made, the def is called -/
theorem callL_main (g : Good c M Wx) {i : Nat} {F : Fn} {params : Arguments} {body : Expr} {scope : Scope} {ps : List Str} {l : X} {lpos : Pos} {gam : Addr} {j : Nat} (hj : j + 1 ≤ M.k) (O : HofOk c.prog c.w c.K c.mg c.base M.G j gam F)
    (hlm : M.lm = true) (hF : (M.Phy.take M.np)[i]? = some F) (hx2 : 2 ≤ M.x) (L : LamP c.N c.env.scope scope ps) (hdef : defaultsOf params c.env = ([], []))
    (hbind : ∀ (q : Str) (cl : List (Str × Addr)) (pm cv ctv : Value) (us : List Value), us.length = ps.length → bindArgs (PySem.W.kla_fn "<lambda>" q params body scope cl pm cv ctv) ⟨us, []⟩ = pure (ps.zip us)) (nb : l.isBor = false)
    (hb : ∀ c' W', Good c' { M.off with x := M.x - 2, gd := false } W' → c'.N = c.N ++ ps → c'.env.scope = scope → PE c' body (rdX M W' l))
    {pins : List (Addr × Obj)} {s : Shared} {σ : L2.St} {Q : VK} {A₀ A : Addr → Prop} {W₀ W : Wd} {sl : Sl} {n : Nat} {E : Exc → Nat → Prop} {Qd : D → Nat → Prop} {vs : List V} {us : List Value} {ds : List D} (I : Inv c pins σ W.H s) (R : Rep M.G A₀ W₀ A σ W ⟨sl, n⟩) (Xs : XsOk M Wx A W σ E)
    (rv : Vals vs us) (ha : Ats M.G A W vs ds) (hw : hofW M.Phy i (lamL M.Phy l ps.length sl) ds n Qd E) (hk : ∀ v d W' n', Ste M.G A W W' n' → At M.G A W' v d → Qd d n' → Q v W'.H) :
    wpAny (model c.prog c.w) c.A (eval (.Lambda params body scope lpos) c.env) (fun lv s1 => c.K.In s1.heap ∧ wpAny (model c.prog c.w) c.A (call (.ref gam) (us ++ [lv])) (EP c pins σ Q) c.xe s1) c.xe s := by
  obtain ⟨c0, P, hcode, TB, hm, hu⟩ := g.lmf hlm
  obtain ⟨x, qual, pg, bg, sg, dV, kV, doc, pm0, an, cdv, ct, oc, od, osl, Ng, lk, hcd, Sc, bd, ex⟩ := O.ex
  unfold hofW at hw
  rw [take_get hF] at hw
  obtain ⟨hl, hsp⟩ := hw
  refine lam_make2 (T := M.G.T) I TB hcode hm hu R.tabs hdef (L.has I.ok) fun f c' pm ctv H1 s' I1 eN T1 hf hfn hfr hco => ⟨I1.kIn, ?_⟩
  have S1 : Ste M.G A W ⟨W.iot, H1⟩ n := ste_lam R.strm eN T1
  have R1 := R.ste S1
  have ats1 := ha.stp (R.bas.stp S1)
  have hvl : vs.length + 1 = F.ps.length := by rw [ha.length]; exact hl
  have fx' : Fx c.prog c.w c.K c.mg c.base { M.off with x := M.x - 2, gd := false } := ⟨g.fx.KG, g.fx.bs, g.fx.fns, g.fx.cls, g.fx.cnm, g.fx.exm, g.fx.xcn, g.fx.exc, g.fx.hof, g.fx.few, g.fx.ini, g.fx.mth, g.fx.mx, g.fx.fty⟩
  have rc : codeAny (model c.prog c.w) c.A (.call (.ref gam) ⟨us ++ [.ref f], []⟩) (CR (L2.CX c.prog c.w) c.stack c.prog c.w H1 s' Q (WE Wx σ)) s' := by
    refine run_ofS (k := M.k + M.x - 1) (N := Ng) (ps := F.ps) (us := us ++ [.ref f]) (vs := vs ++ [.ref f]) lk hcd Sc (g.room.mono (by omega)) I1.env0 ?_ (rv.append (.cons (show L2.RelV (V.ref f) (Value.ref f) from rfl) .nil)) (by simp; omega) fun hr' => ?_
    · have := bd s' (us ++ [.ref f]) I1.kIn (by simp [← rv.length]; omega)
      rw [List.append_nil] at this
      exact this
    · refine ex c.A c.stack s' H1 (WE Wx σ) ⟨f, A, ⟨W.iot, H1⟩⟩ (lamL M.Phy l ps.length sl) vs ds n Qd E Q (hr'.mono (by omega)) ?_ rfl R1.bas R1.strm R1.tabs ats1 hl hsp (fun v d W' n' S a q => hk v d W' n' (S1.trans S) a q) (fun e W' n' cls dd S x q => Xs e W' n' cls dd (S1.trans S) x q)
      intro pn xe W' tk i' st p cp es ta hn hall hnil hpa
      obtain ⟨h1, h2, h3, h4⟩ := nm_ok hn
      refine PE.imp (pe_actP (X := c) (CXg := L2.CX c.prog c.w) (Eg := WE Wx σ) (k := M.k + M.x - 2) (tb := fun σZ => rdX M (fun cls dd _ H => W' cls dd σZ H) l) (W := W') I1 L ⟨pm, ctv, hf⟩ hfn hfr hbind tk (hr'.mono (by omega)) (fun σZ A outer s H hr => ?_) h1 h2 h3 h4 hall (fun z => ?_) (PA.mon hpa)) fun σZ HZ Q' h => ?_
      · exact hb _ _ ⟨fx', rfl, L.nd, hr.mono (by show M.k + (M.x - 2) ≤ _; omega), takes_of rfl rfl rfl rfl, (fun z => nomatch z), (fun z => nomatch z), (fun z => nomatch z)⟩ rfl rfl
      · rw [hnil z]
        exact mon_nil
      · refine ⟨h.1, _, h.2, fun ws H2 hr => ?_⟩
        obtain ⟨k1, k2⟩ := lam_rd R1 rfl rfl nb hr
        obtain ⟨A2, W2, σ2, sl2, n2, ds2, Qd2, Ed2, e2, Z, _⟩ := hr
        refine ⟨k1, ?_, k2⟩
        rw [← e2]
        obtain ⟨⟨o1, g1, t1⟩, ⟨o2, g2, t2⟩⟩ := R1.strm.there
        obtain ⟨xs, cc, hh, m, _, _, _, _, _, s1, s2, _⟩ := R1.strm
        exact ((Z.ext.keep c' _ hco (fun z => by
            have hco : H1 c' = some _ := hco
            rw [z] at hco
            exact code_lst (Option.some.inj (hco.symm.trans s1))) (fun z => by
            have hco : H1 c' = some _ := hco
            rw [z] at hco
            exact code_lst (Option.some.inj (hco.symm.trans s2))) codeO_ne).2).exact nd_code
  refine wpAny_call (codeAny_mono rc fun r s2 hq => ?_)
  cases r with
  | error e => exact passAt g.tk σ pins H1 s' e s2 I1 hq
  | ok fl =>
    cases fl with
    | ret u => exact I1.after hq
    | next => exact False.elim hq
    | brk => exact False.elim hq
    | cont => exact False.elim hq
/-- a lambda alone is handed on -/
theorem sx_callL0 (g : Good c M Wx) {i : Nat} {F : Fn} {params : Arguments} {body : Expr} {scope : Scope} {ps : List Str} {l : X} {p lpos : Pos}
    (hlm : M.lm = true) (hhf : M.hf i = true) (hF : (M.Phy.take M.np)[i]? = some F) (hx2 : 2 ≤ M.x) (hg : Gl c F.name) (hd : (F.name == ("__debug__" : Str)) = false) (L : LamP c.N c.env.scope scope ps) (hdef : defaultsOf params c.env = ([], []))
    (hbind : ∀ (q : Str) (cl : List (Str × Addr)) (pm cv ctv : Value) (us : List Value), us.length = ps.length → bindArgs (PySem.W.kla_fn "<lambda>" q params body scope cl pm cv ctv) ⟨us, []⟩ = pure (ps.zip us)) (nb : l.isBor = false)
    (hb : ∀ c' W', Good c' { M.off with x := M.x - 2, gd := false } W' → c'.N = c.N ++ ps → c'.env.scope = scope → PE c' body (rdX M W' l)) :
    PE c (.Call (.Name F.name p) [.Lambda params body scope lpos] [] pos) (rdX M Wx (.callL i ps.length l)) := by
  obtain ⟨j, hj, O⟩ := g.fx.hof i F hhf hF
  refine ⟨fun pins s σ H Q I ⟨A₀, W₀, A, W, sl, n, E, Qd, e, R, Xs, hw, k⟩ => ?_⟩
  subst e
  have hw : hofW M.Phy i (lamL M.Phy l ps.length sl) [] n Qd E := hw
  refine wpAny_Call_Name_kw (ld_glob I hg O.mgn ?_ hd)
  refine PySem.W.callWith_K (h₀ := c.base) I.ok.mod.kin O.kp ?_ (by rfl) (by rfl)
  show wpAny _ _ (spliced ((false, eval (.Lambda params body scope lpos) c.env) :: backTo pos (starEach [] c.env))) _ _ s
  refine Calls.spliced_cons (thn (callL_main g hj O hlm hF hx2 L hdef hbind nb hb I R Xs .nil .nil hw fun v d W' n' S a q => k v d W' n' S ⟨.inl a, fun _ => a, fun z => nomatch z⟩ q) fun lv s1 h => ?_)
  exact Calls.spliced_nil ⟨h.1, h.2⟩
/-- a thing and a lambda are handed on -/
theorem sx_callL1 (g : Good c M Wx) {i : Nat} {F : Fn} {params : Arguments} {body e : Expr} {scope : Scope} {ps : List Str} {l a : X} {p lpos : Pos}
    (hlm : M.lm = true) (hhf : M.hf i = true) (hF : (M.Phy.take M.np)[i]? = some F) (hx2 : 2 ≤ M.x) (hg : Gl c F.name) (hd : (F.name == ("__debug__" : Str)) = false) (L : LamP c.N c.env.scope scope ps) (hdef : defaultsOf params c.env = ([], []))
    (hbind : ∀ (q : Str) (cl : List (Str × Addr)) (pm cv ctv : Value) (us : List Value), us.length = ps.length → bindArgs (PySem.W.kla_fn "<lambda>" q params body scope cl pm cv ctv) ⟨us, []⟩ = pure (ps.zip us)) (nb : l.isBor = false)
    (hb : ∀ c' W', Good c' { M.off with x := M.x - 2, gd := false } W' → c'.N = c.N ++ ps → c'.env.scope = scope → PE c' body (rdX M W' l)) (hs : nst e = true) (na : a.isBor = false) (ha : PE c e (rdX M Wx a)) :
    PE c (.Call (.Name F.name p) [e, .Lambda params body scope lpos] [] pos) (rdX M Wx (.callM i a ps.length l)) := by
  obtain ⟨j, hj, O⟩ := g.fx.hof i F hhf hF
  refine ⟨fun pins s σ H Q I ⟨A₀, W₀, A, W, sl, n, E, Qd, e, R, Xs, hw, k⟩ => ?_⟩
  subst e
  refine wpAny_Call_Name_kw (ld_glob I hg O.mgn ?_ hd)
  refine PySem.W.callWith_K (h₀ := c.base) I.ok.mod.kin O.kp ?_ (star_ok hs _ _) (by rfl)
  rw [star_ok hs]
  show wpAny _ _ (spliced ((false, eval e c.env) :: (false, eval (.Lambda params body scope lpos) c.env) :: backTo pos (starEach [] c.env))) _ _ s
  refine Calls.spliced_cons (thn (ha.run pins s σ W.H (fun v H1 => ∃ (d : D) (W1 : Wd) (n1 : Nat), W1.H = H1 ∧ Ste M.G A W W1 n1 ∧ relX M a A W W1 v d ∧ hofW M.Phy i (lamL M.Phy l ps.length sl) [d] n1 Qd E) I ⟨A₀, W₀, A, W, sl, n, E, _, rfl, R, Xs, hw, fun v d W1 n1 S1 r q => ⟨d, W1, n1, rfl, S1, r, q⟩⟩) fun u s1 ⟨v, H1, I1, r1, d, W1, n1, e1, S1, rx, q1⟩ => ?_)
  subst e1
  refine Calls.spliced_cons (thn (callL_main g hj O hlm hF hx2 L hdef hbind nb hb I1 (R.ste S1) (Xs.ste S1) (.cons r1 .nil) (.cons (rx.2.1 na) .nil) q1 fun v d W' n' S a q => k v d W' n' (S1.trans S) ⟨.inl a, fun _ => a, fun z => nomatch z⟩ q) fun lv s1 h => ?_)
  exact Calls.spliced_nil ⟨h.1, h.2⟩
end
end Q
/-! Q layer, part m: dicts of our own are read. -/
namespace Q
open PySem PySem.Spec L2
section
variable {G : Gb} {A : Addr → Prop} {W : Wd}
theorem at_key {v : V} {d : D} {k : L2.Key} (h : At G A W v d) (e : kyOf d = some k) : v = kV k := by
  cases h <;> first | (cases e; rfl) | cases e
theorem ats_keys : ∀ {vs : List V} {ds : List D} {ks : List L2.Key}, Ats G A W vs ds → kysOf ds = some ks → vs = ks.map kV
  | _, _, ks, .nil, e => by cases e; rfl
  | _, _, ks, .cons (d := d) (ds := ds) h t, e => by
    unfold kysOf at e
    cases e1 : kyOf d with
    | none => rw [e1] at e; cases e
    | some k =>
      cases e2 : kysOf ds with
      | none => rw [e1, e2] at e; cases e
      | some r =>
        rw [e1, e2] at e
        cases e
        rw [at_key h e1, ats_keys t e2]
        rfl
section
variable {kap : Type} [DecidableEq kap]
theorem get_ats : ∀ {kvs : List (kap × V)} {xs : List (kap × D)} {k : kap}, kvs.map Prod.fst = xs.map Prod.fst → Ats G A W (kvs.map Prod.snd) (xs.map Prod.snd) → (valV kvs k = none ∧ getK xs k = none) ∨ ∃ v d, valV kvs k = some v ∧ getK xs k = some d ∧ At G A W v d
  | [], [], k, _, _ => .inl ⟨rfl, rfl⟩
  | [], _ :: _, k, e, _ => by cases e
  | _ :: _, [], k, e, _ => by cases e
  | (a, v) :: kvs, (b, d) :: xs, k, e, h => by
    cases h with
    | cons h t =>
      rw [List.map_cons, List.map_cons] at e
      obtain ⟨e1, e2⟩ := List.cons.inj e
      have e1 : a = b := e1
      subst e1
      by_cases hk : a = k
      · refine .inr ⟨v, d, ?_, ?_, h⟩
        · simp [valV, List.find?_cons, hk]
        · simp [getK, List.find?_cons, hk]
      · have := get_ats (k := k) e2 t
        have e3 : valV ((a, v) :: kvs) k = valV kvs k := by simp [valV, List.find?_cons, hk]
        have e4 : getK ((a, d) :: xs) k = getK xs k := by simp [getK, List.find?_cons, hk]
        rw [e3, e4]
        exact this
theorem any_fst : ∀ {kvs : List (kap × V)} {xs : List (kap × D)} {k : kap}, kvs.map Prod.fst = xs.map Prod.fst → (kvs.any fun kv => decide (kv.1 = k)) = xs.any fun kv => decide (kv.1 = k)
  | [], [], k, _ => rfl
  | [], _ :: _, k, e => by cases e
  | _ :: _, [], k, e => by cases e
  | (a, v) :: kvs, (b, d) :: xs, k, e => by
    rw [List.map_cons, List.map_cons] at e
    obtain ⟨e1, e2⟩ := List.cons.inj e
    have e1 : a = b := e1
    subst e1
    rw [List.any_cons, List.any_cons, any_fst e2]
theorem put_ats {kvs : List (kap × V)} {xs : List (kap × D)} {k : kap} {v : V} {d : D} (e : kvs.map Prod.fst = xs.map Prod.fst) (h : Ats G A W (kvs.map Prod.snd) (xs.map Prod.snd)) (hv : At G A W v d) :
    (putK kvs k v).map Prod.fst = (setK xs k d).map Prod.fst ∧ Ats G A W ((putK kvs k v).map Prod.snd) ((setK xs k d).map Prod.snd) := by
  unfold putK setK
  rw [any_fst (k := k) e]
  split
  · have key : ∀ (kvs : List (kap × V)) (xs : List (kap × D)), kvs.map Prod.fst = xs.map Prod.fst → Ats G A W (kvs.map Prod.snd) (xs.map Prod.snd) →
        (kvs.map fun kv => if kv.1 = k then (kv.1, v) else kv).map Prod.fst = (xs.map fun kv => if kv.1 = k then (kv.1, d) else kv).map Prod.fst ∧
          Ats G A W ((kvs.map fun kv => if kv.1 = k then (kv.1, v) else kv).map Prod.snd) ((xs.map fun kv => if kv.1 = k then (kv.1, d) else kv).map Prod.snd) := by
      intro kvs
      induction kvs with
      | nil =>
        intro xs e h
        cases xs with
        | nil => exact ⟨rfl, .nil⟩
        | cons _ _ => cases e
      | cons p kvs ih =>
        intro xs e h
        cases xs with
        | nil => cases e
        | cons q xs =>
          obtain ⟨a, u⟩ := p
          obtain ⟨b, c⟩ := q
          rw [List.map_cons, List.map_cons] at e
          obtain ⟨e1, e2⟩ := List.cons.inj e
          have e1 : a = b := e1
          subst e1
          cases h with
          | cons h t =>
            obtain ⟨i1, i2⟩ := ih xs e2 t
            simp only [List.map_cons]
            by_cases hk : a = k
            · simp only [if_pos hk]
              exact ⟨by rw [i1], .cons hv i2⟩
            · simp only [if_neg hk]
              exact ⟨by rw [i1], .cons h i2⟩
    exact key kvs xs e h
  · rw [List.map_append, List.map_append, List.map_append, List.map_append, e]
    exact ⟨rfl, h.append (.cons hv .nil)⟩
end
end
section
variable {c : Cx} {M : Pm} {Wx : WX} {pos : Pos} {G : Gb} {A₀ A : Addr → Prop} {W₀ W : Wd} {σ : L2.St} {sl : Sl} {n : Nat}
def rInO (neg : Bool) : R2 := fun x y H Q => ∃ a o, y = .ref a ∧ DGet H a x o ∧ Q (.bl (if neg = true then !o.isSome else o.isSome)) H
theorem op_inO (hu : c.A.units + 1 < cLine) (neg : Bool) : OpR c (compareOp (if neg = true then .NotIn else .In)) (rInO neg) := by
  intro pins s σ H x y v u Q I rx ry h
  obtain ⟨a, o, rfl, g, q⟩ := h
  cases (show u = Value.ref a from ry)
  cases neg with
  | false => exact d_in hu I g rx fun s' I' => ⟨.bl _, H, I', rfl, q⟩
  | true => exact d_notIn hu I g rx fun s' I' => ⟨.bl _, H, I', rfl, q⟩
theorem lookD_some {i : Nat} {Q : Addr → D → Prop} (h : lookD sl i Q) : ∃ p u, sl[i]? = some (.dic p u) ∧ Q p u := by
  unfold lookD at h
  split at h
  case h_2 => exact h.elim
  rename_i p u e
  exact ⟨p, u, e, h⟩
/-- a dict of our own is asked -/
theorem lk_get {H : Hp} {p : Addr} {o : HO} {u k : D} {v : V} {Q : Option D → Prop} {z : Addr} (e : W.H p = some o) (me : Mean G A W o (.dic z u)) (hv : At G A W v k) (h : lkW u k Q) :
    ∃ r r', DGet W.H p v r ∧ Q r' ∧ ((r = none ∧ r' = none) ∨ ∃ x d, r = some x ∧ r' = some d ∧ At G A W x d) := by
  unfold lkW at h
  cases u with
  | dK xs =>
    obtain ⟨key, hk, q⟩ := h
    obtain ⟨kvs, rfl, e2, e3⟩ := me
    refine ⟨valV kvs key, getK xs key, ?_, q, get_ats e2 e3⟩
    rw [at_key hv hk]
    exact .k e
  | dT xs =>
    cases k with
    | tup ds =>
      obtain ⟨ks, hk, q⟩ := h
      obtain ⟨kvs, rfl, e2, e3⟩ := me
      obtain ⟨b, vs, rfl, hb, ht⟩ := hv.ist
      refine ⟨valV kvs ks, getK xs ks, ?_, q, get_ats e2 e3⟩
      rw [ats_keys ht hk] at hb
      exact .t e hb
    | _ => exact False.elim h
  | _ => exact False.elim h
theorem inO_rd {neg : Bool} {a : X} {i : Nat} {σ : L2.St} {H : Hp} {Q : VK} {E : Exn} {P : Bool → Nat → Prop} (nb : a.isBor = false) (e : W.H = H) (R : Rep M.G A₀ W₀ A σ W ⟨sl, n⟩) (Xs : XsOk M Wx A W σ E)
    (hw : wX M.Phy E a sl n fun x n => lookD sl i fun _ u => lkW u x fun r => P (if neg = true then !r.isSome else r.isSome) n) (k : ∀ b W' n', Ste M.G A W W' n' → P b n' → Q (.bl b) W'.H) : tOp (rInO neg) (rdX M Wx a) (tVar i) σ H Q := by
  refine ⟨A₀, W₀, A, W, sl, n, E, _, e, R, Xs, hw, fun x dx W1 n1 S1 r1 q1 => ?_⟩
  obtain ⟨p, u, e1, q1⟩ := lookD_some q1
  have R1 := R.ste S1
  obtain ⟨o, f1, f2, f3, f4, f5⟩ := R1.slf i _ p e1 rfl
  obtain ⟨r, r', g1, g2, g3⟩ := lk_get (H := W1.H) f4 f5 (r1.2.1 nb) q1
  refine ⟨_, f1, p, r, rfl, g1, ?_⟩
  have e2 : r.isSome = r'.isSome := by
    rcases g3 with ⟨rfl, rfl⟩ | ⟨x, d, rfl, rfl, _⟩ <;> rfl
  rw [e2]
  exact k _ W1 n1 S1 g2
theorem sx_inO (g : Good c M Wx) {neg : Bool} {a : X} {i : Nat} {e : Expr} {s : Str} {p : Pos} (nb : a.isBor = false) (hn : nmB c.N c.env.scope i s = true) (ha : PE c e (rdX M Wx a)) :
    PE c (.Compare e [if neg = true then .NotIn else .In] [.Name s p] pos) (rdX M Wx (.inO neg a i)) := by
  obtain ⟨h1, h2, h3, h4⟩ := nm_ok hn
  have hu : c.A.units + 1 < cLine := by have := g.rm.un; omega
  exact PE.imp (pe_cmpR (op_inO hu neg) ha (pe_var (pos := p) (i := i) h1 h2 h3 h4) (by cases neg <;> rfl)) fun σ H Q ⟨A₀, W₀, A, W, sl, n, E, Qd, e, R, Xs, hw, k⟩ =>
    inO_rd nb e R Xs (P := fun b n => Qd (.bl b) n) hw fun b W' n' S q => k _ _ W' n' S (relX_flat .bl (fun _ _ z => nomatch z)) q
theorem sx_inOT (g : Good c M Wx) {neg : Bool} {a : X} {i : Nat} {e : Expr} {s : Str} {p : Pos} (nb : a.isBor = false) (hn : nmB c.N c.env.scope i s = true) (ha : PE c e (rdX M Wx a)) :
    PT c (.Compare e [if neg = true then .NotIn else .In] [.Name s p] pos) (rdT M Wx (.inO neg a i)) := by
  obtain ⟨h1, h2, h3, h4⟩ := nm_ok hn
  have hu : c.A.units + 1 < cLine := by have := g.rm.un; omega
  exact PT.imp (pt_cmpR (op_inO hu neg) ha (pe_var (pos := p) (i := i) h1 h2 h3 h4) (by cases neg <;> rfl)) fun σ H Q ⟨A₀, W₀, A, W, sl, n, E, Qd, e, R, Xs, hw, k⟩ =>
    inO_rd nb e R Xs (P := Qd) hw fun b W' n' S q => ⟨b, rfl, k b b W' n' S rfl q⟩
end
end Q
/-! Q layer, part v: dicts as values: asked, made by a comprehension. -/
namespace Q
open PySem PySem.Spec L2
theorem noSl_ok {f : Expr} (h : plainI f = true) : NoSl f := by
  intro o i
  cases f <;> first | rfl | (unfold plainI at h; cases h)
section
variable {c : Cx} {M : Pm} {Wx : WX} {pos : Pos} {G : Gb} {A₀ A : Addr → Prop} {W₀ W : Wd} {σ : L2.St} {sl : Sl} {n : Nat}
theorem strm_upd {H : Hp} {a : Addr} {o : HO} (s : Strm G n H) (n1 : a ≠ G.st) (n2 : a ≠ G.inn) : Strm G n (upd H a o) := by
  obtain ⟨xs, c, h, m, z1, z2, z3, z4, zl, e1, e2, z5⟩ := s
  exact ⟨xs, c, h, m, z1, z2, z3, z4, zl, by rw [upd_ne (Ne.symm n1)]; exact e1, by rw [upd_ne (Ne.symm n2)]; exact e2, z5⟩
theorem tabs_ins {H : Hp} {T : List (Addr × Str)} {a : Addr} {o o' : HO} (t : LamX.Tabs T H) (e : H a = some o) (mo : MutO o) : LamX.Tabs T (upd H a o') := fun p hp => by
  obtain ⟨ps, h1, h2, h3⟩ := t p hp
  have n1 : p.1 ≠ a := fun z => by
    rw [z, e] at h1
    exact mo.ntbl ps (Option.some.inj h1)
  refine ⟨ps, by rw [upd_ne n1]; exact h1, h2, fun pos cv hc => ?_⟩
  obtain ⟨c, e1, e2⟩ := h3 pos cv hc
  have n2 : c ≠ a := fun z => by
    rw [z, e] at e2
    have e2 := Option.some.inj e2
    unfold LamX.CodeO at e2
    rcases mo with ⟨_, _, _, h⟩ | ⟨_, h⟩ | ⟨_, h⟩ <;> (rw [h] at e2; cases e2)
  exact ⟨c, e1, by rw [upd_ne n2]; exact e2⟩
/-- a dict is asked, whosever it is -/
theorem lk_any {x y : V} {u k : D} {Q : Option D → Prop} (hu : AtB G A W x u) (hk : At G A W y k) (h : lkW u k Q) :
    ∃ p, x = .ref p ∧ IsD W.H p ∧ ∃ r r', DGet W.H p y r ∧ Q r' ∧ ((r = none ∧ r' = none) ∨ ∃ v d, r = some v ∧ r' = some d ∧ At G A W v d) := by
  rcases hu with hu | ⟨_, _, _, _, rfl, _⟩ | ⟨p, o, rfl, _, _, _, e, me⟩
  · unfold lkW at h
    cases u with
    | dK xs =>
      obtain ⟨key, hy, q⟩ := h
      cases hu with
      | dK rd _ e2 e3 =>
        refine ⟨_, rfl, .inl ⟨_, rd⟩, _, getK xs key, ?_, q, get_ats e2 e3⟩
        rw [at_key hk hy]
        exact .inl ⟨_, key, rd, rfl, rfl⟩
    | dT xs =>
      cases k with
      | tup ds =>
        obtain ⟨ks, hy, q⟩ := h
        cases hu with
        | dT rd _ e2 e3 =>
          obtain ⟨b, vs, rfl, hb, ht⟩ := hk.ist
          refine ⟨_, rfl, .inr ⟨_, rd⟩, _, getK xs ks, ?_, q, get_ats e2 e3⟩
          rw [ats_keys ht hy] at hb
          exact .inr ⟨_, ks, b, rd, rfl, hb, rfl⟩
      | _ => exact False.elim h
    | _ => exact False.elim h
  · unfold lkW at h
    exact h.elim
  · obtain ⟨r, r', h1, h2, h3⟩ := lk_get (H := W.H) e me hk h
    refine ⟨p, rfl, ?_, r, r', h1, h2, h3⟩
    cases u with
    | dK xs =>
      obtain ⟨kvs, rfl, _⟩ := me
      exact .inl ⟨kvs, .inl e⟩
    | dT xs =>
      obtain ⟨kvs, rfl, _⟩ := me
      exact .inr ⟨kvs, .inl e⟩
    | _ => exact me.elim
theorem sx_dix (g : Good c M Wx) {a b : X} {e f : Expr} (hp : plainI f = true) (nb : b.isBor = false) (ha : PE c e (rdX M Wx a)) (hb : PE c f (rdX M Wx b)) : PE c (.Subscript e f pos) (rdX M Wx (.dix a b)) := by
  have hu : c.A.units + 1 < cLine := by have := g.rm.un; omega
  refine PE.imp (pe_dget hu ha hb (noSl_ok hp)) fun σ H Q ⟨A₀, W₀, A, W, sl, n, E, Qd, e, R, Xs, hw, k⟩ => ?_
  refine ⟨A₀, W₀, A, W, sl, n, E, _, e, R, Xs, hw, fun x dx W1 n1 S1 r1 q1 => ?_⟩
  refine ⟨A₀, W₀, A, W1, sl, n1, E, _, rfl, R.ste S1, Xs.ste S1, q1, fun y dy W2 n2 S2 r2 q2 => ?_⟩
  obtain ⟨p, rfl, _, r, r', h1, ⟨d, e1, q3⟩, h3⟩ := lk_any (r1.1.ste (R.ste S1).bas S2) (r2.2.1 nb) q2
  subst e1
  rcases h3 with ⟨_, z⟩ | ⟨v, d', rfl, e2, a3⟩
  · cases z
  · cases e2
    exact ⟨p, v, rfl, h1, k _ _ W2 n2 (S1.trans S2) ⟨.inl a3, fun _ => a3, fun z => nomatch z⟩ q3⟩
theorem m1_ok {o e : Expr} {m : Str} {ap cp : Pos} (h1 : noCall o = true) (h2 : nst e = true) (h3 : (ap.endLine == cp.line) = true) : M1 c o m ap e cp := by
  have s := star_ok h2 [] c.env
  refine ⟨noCall_ok h1 _ _ _, ?_, h3, ?_⟩
  · rw [s]; rfl
  · rw [s]; rfl
theorem m2_ok {o e f : Expr} {m : Str} {ap cp : Pos} (h1 : noCall o = true) (h2 : nst e = true) (h2' : nst f = true) (h3 : (ap.endLine == cp.line) = true) : M2 c o m ap e f cp := by
  have s := star_ok h2 [f] c.env
  have s' := star_ok h2' [] c.env
  refine ⟨noCall_ok h1 _ _ _, ?_, h3, ?_⟩
  · rw [s, s']; rfl
  · rw [s, s']; rfl
theorem lk_isD {x : V} {u : D} (hu : AtB G A W x u) (h : u.isD = true) : ∃ p, x = .ref p ∧ IsD W.H p := by
  rcases hu with hu | ⟨_, _, _, _, rfl, _⟩ | ⟨p, o, rfl, _, _, _, e, me⟩
  · cases hu with
    | dK rd _ _ _ => exact ⟨_, rfl, .inl ⟨_, rd⟩⟩
    | dT rd _ _ _ => exact ⟨_, rfl, .inr ⟨_, rd⟩⟩
    | _ => cases h
  · cases h
  · refine ⟨p, rfl, ?_⟩
    cases u with
    | dK xs =>
      obtain ⟨kvs, rfl, _⟩ := me
      exact .inl ⟨kvs, .inl e⟩
    | dT xs =>
      obtain ⟨kvs, rfl, _⟩ := me
      exact .inr ⟨kvs, .inl e⟩
    | _ => exact me.elim
theorem sx_dge1 (g : Good c M Wx) {a b : X} {o e : Expr} {ap cp : Pos} (h1 : noCall o = true) (h2 : nst e = true) (h3 : (ap.endLine == cp.line) = true) (nb : b.isBor = false) (ha : PE c o (rdX M Wx a)) (hb : PE c e (rdX M Wx b)) : PE c (.Call (.Attribute o "get" ap) [e] [] cp) (rdX M Wx (.dge1 a b)) := by
  have hu : c.A.units + 1 < cLine := by have := g.rm.un; omega
  refine PE.imp (pe_dget1 hu ha hb (m1_ok h1 h2 h3)) fun σ H Q ⟨A₀, W₀, A, W, sl, n, E, Qd, e, R, Xs, hw, k⟩ => ?_
  refine ⟨A₀, W₀, A, W, sl, n, E, _, e, R, Xs, hw, fun x dx W1 n1 S1 r1 q1 => ?_⟩
  obtain ⟨p, rfl, hd⟩ := lk_isD r1.1 q1.1
  refine ⟨p, rfl, hd, A₀, W₀, A, W1, sl, n1, E, _, rfl, R.ste S1, Xs.ste S1, q1.2, fun y dy W2 n2 S2 r2 q2 => ?_⟩
  obtain ⟨p', e1, _, r, r', h1, q3, h3⟩ := lk_any (r1.1.ste (R.ste S1).bas S2) (r2.2.1 nb) q2
  cases e1
  refine ⟨r, h1, ?_⟩
  have a3 : At M.G A W2 (r.getD .non) (r'.getD .non) := by
    rcases h3 with ⟨rfl, rfl⟩ | ⟨v, d', rfl, rfl, a3⟩
    · exact .non
    · exact a3
  exact k _ _ W2 n2 (S1.trans S2) ⟨.inl a3, fun _ => a3, fun z => nomatch z⟩ q3
theorem sx_dge2 (g : Good c M Wx) {a b z : X} {o e f : Expr} {ap cp : Pos} (h1 : noCall o = true) (h2 : nst e = true) (h2' : nst f = true) (h3 : (ap.endLine == cp.line) = true) (nb : b.isBor = false) (nz : z.isBor = false) (ha : PE c o (rdX M Wx a)) (hb : PE c e (rdX M Wx b)) (hz : PE c f (rdX M Wx z)) :
    PE c (.Call (.Attribute o "get" ap) [e, f] [] cp) (rdX M Wx (.dge2 a b z)) := by
  have hu : c.A.units + 1 < cLine := by have := g.rm.un; omega
  refine PE.imp (pe_dget2 hu ha hb hz (m2_ok h1 h2 h2' h3)) fun σ H Q ⟨A₀, W₀, A, W, sl, n, E, Qd, e, R, Xs, hw, k⟩ => ?_
  refine ⟨A₀, W₀, A, W, sl, n, E, _, e, R, Xs, hw, fun x dx W1 n1 S1 r1 q1 => ?_⟩
  obtain ⟨p, rfl, hd⟩ := lk_isD r1.1 q1.1
  have R1 := R.ste S1
  refine ⟨p, rfl, hd, A₀, W₀, A, W1, sl, n1, E, _, rfl, R1, Xs.ste S1, q1.2, fun y dy W2 n2 S2 r2 q2 => ?_⟩
  have R2 := R1.ste S2
  refine ⟨A₀, W₀, A, W2, sl, n2, E, _, rfl, R2, (Xs.ste S1).ste S2, q2, fun w dw W3 n3 S3 r3 q3 => ?_⟩
  obtain ⟨p', e1, _, r, r', h1, q4, h3⟩ := lk_any (r1.1.ste R1.bas (S2.trans S3)) ((r2.2.1 nb).stp (R2.bas.stp S3)) q3
  cases e1
  refine ⟨r, h1, ?_⟩
  have a3 : At M.G A W3 (r.getD w) (r'.getD dw) := by
    rcases h3 with ⟨rfl, rfl⟩ | ⟨v, d', rfl, rfl, a3⟩
    · exact r3.2.1 nz
    · exact a3
  exact k _ _ W3 n3 ((S1.trans S2).trans S3) ⟨.inl a3, fun _ => a3, fun z => nomatch z⟩ q4
theorem din_rd {neg : Bool} {a b : X} {σ : L2.St} {H : Hp} {Q : VK} {E : Exn} {P : Bool → Nat → Prop} (nb : a.isBor = false) (e : W.H = H) (R : Rep M.G A₀ W₀ A σ W ⟨sl, n⟩) (Xs : XsOk M Wx A W σ E)
    (hw : wX M.Phy E a sl n fun x n => wX M.Phy E b sl n fun y n => lkW y x fun r => P (if neg = true then !r.isSome else r.isSome) n) (k : ∀ b W' n', Ste M.G A W W' n' → P b n' → Q (.bl b) W'.H) : tOp (rInO neg) (rdX M Wx a) (rdX M Wx b) σ H Q := by
  refine ⟨A₀, W₀, A, W, sl, n, E, _, e, R, Xs, hw, fun x dx W1 n1 S1 r1 q1 => ?_⟩
  have R1 := R.ste S1
  refine ⟨A₀, W₀, A, W1, sl, n1, E, _, rfl, R1, Xs.ste S1, q1, fun y dy W2 n2 S2 r2 q2 => ?_⟩
  obtain ⟨p, rfl, _, r, r', h1, q3, h3⟩ := lk_any r2.1 ((r1.2.1 nb).stp (R1.bas.stp S2)) q2
  refine ⟨p, r, rfl, h1, ?_⟩
  have e2 : r.isSome = r'.isSome := by
    rcases h3 with ⟨rfl, rfl⟩ | ⟨x, d, rfl, rfl, _⟩ <;> rfl
  rw [e2]
  exact k _ W2 n2 (S1.trans S2) q3
theorem sx_din (g : Good c M Wx) {neg : Bool} {a b : X} {e f : Expr} (nb : a.isBor = false) (hm : behindInMarks (if neg = true then .NotIn else .In) f = false) (ha : PE c e (rdX M Wx a)) (hb : PE c f (rdX M Wx b)) :
    PE c (.Compare e [if neg = true then .NotIn else .In] [f] pos) (rdX M Wx (.din neg a b)) := by
  have hu : c.A.units + 1 < cLine := by have := g.rm.un; omega
  exact PE.imp (pe_cmpR (op_inO hu neg) ha hb hm) fun σ H Q ⟨A₀, W₀, A, W, sl, n, E, Qd, e, R, Xs, hw, k⟩ =>
    din_rd nb e R Xs (P := fun b n => Qd (.bl b) n) hw fun b W' n' S q => k _ _ W' n' S (relX_flat .bl (fun _ _ z => nomatch z)) q
theorem sx_dinT (g : Good c M Wx) {neg : Bool} {a b : X} {e f : Expr} (nb : a.isBor = false) (hm : behindInMarks (if neg = true then .NotIn else .In) f = false) (ha : PE c e (rdX M Wx a)) (hb : PE c f (rdX M Wx b)) :
    PT c (.Compare e [if neg = true then .NotIn else .In] [f] pos) (rdT M Wx (.din neg a b)) := by
  have hu : c.A.units + 1 < cLine := by have := g.rm.un; omega
  exact PT.imp (pt_cmpR (op_inO hu neg) ha hb hm) fun σ H Q ⟨A₀, W₀, A, W, sl, n, E, Qd, e, R, Xs, hw, k⟩ =>
    din_rd nb e R Xs (P := Qd) hw fun b W' n' S q => ⟨b, rfl, k b b W' n' S rfl q⟩
/-! ### comprehensions -/
/-- a dict of ours that stands in no slot changes -/
theorem Rep.mutD (R : Rep G A₀ W₀ A σ W ⟨sl, n⟩) {a : Addr} {o o' : HO} (ha : A a) (n0 : ¬ A₀ a) (eh : W.H a = some o) (mo : MutO o) (nt : NTbl o') (no : noAd sl a) : Rep G A₀ W₀ A σ ⟨W.iot, upd W.H a o'⟩ ⟨sl, n⟩ := by
  have st := stp_mut (W := W) (o := o') R.b0 R.iot ha n0
  have na : Non W₀.H a := (R.aold a ha).resolve_left n0
  have kp : ∀ y u, W.H y = some u → y ≠ a → upd W.H a o' y = some u := fun y u e1 e2 => by rw [upd_ne e2]; exact e1
  refine ⟨R.b0, R.len, strm_upd R.strm (fun z => n0 (z ▸ R.b0.st)) (fun z => n0 (z ▸ R.b0.inn)), tabs_ins R.tabs eh mo, fun y hy => ?_, R.aup, R.aold, ⟨fun y u e1 t => ?_, fun y u e1 e2 e3 t => ?_⟩, R.iot, fun j d e1 => ?_, fun j xs e1 => ?_, R.sep, R.clo, fun j z q e1 hz => ?_⟩
  · by_cases h : y = a
    · subst h
      exact ⟨_, upd_same, nt⟩
    · obtain ⟨o, e1, t⟩ := R.ain y hy
      exact ⟨o, kp y o e1 h, t⟩
  · have hx : y ≠ a := na.ne e1 t
    obtain ⟨o, e2, t2⟩ := R.ext.there y u e1 t
    exact ⟨o, kp y o e2 hx, t2⟩
  · have hx : y ≠ a := na.ne e1 t
    obtain ⟨k1, k2⟩ := R.ext.keep y u e1 e2 e3 t
    refine ⟨fun h => kp y u (k1 h) hx, ?_⟩
    show Kp u (upd W.H a _ y)
    rw [upd_ne hx]
    exact k2
  · obtain ⟨v, f1, f2⟩ := R.val j d e1
    exact ⟨v, f1, f2.stp st⟩
  · obtain ⟨b, us, f1, f2, f3, f4, f5⟩ := R.own j xs e1
    exact ⟨b, us, f1, f2, f3, kp b _ f4 (fun z => by rw [z, eh] at f4; exact mo.nlst _ (Option.some.inj f4)), f5.stp st⟩
  · obtain ⟨u, f1, f2, f3, f4, f5⟩ := R.slf j z q e1 hz
    exact ⟨u, f1, f2, f3, kp q _ f4 (fun y => no z (List.mem_of_getElem? e1) (y ▸ hz)), f5.stp st⟩
end
section
variable {c : Cx} {M : Pm} {Wx : WX} {pos : Pos}
def stepD (M : Pm) (t : Tg) (cond kx vx : X) (sl : Sl) (x : D) (n : Nat) (k : Option (L2.Key × D) → Nat → Prop) : Prop :=
  wTg t x (wipeS sl t.slots) fun ρ => (sem M.Phy cond).t noE ρ n fun b n => if b = true then (sem M.Phy kx).v noE ρ n fun y n => (sem M.Phy vx).v noE ρ n fun d n => ∃ key, kyOf y = some key ∧ k (some (key, d)) n else k none n
/-- the state between two turns -/
structure DcI (M : Pm) (A₀ : Addr → Prop) (W₀ : Wd) (A : Addr → Prop) (σ : L2.St) (W W1 : Wd) (sl : Sl) (Da : Addr) (t : Tg) (cond kx vx : X) (Qd : List (L2.Key × D) → Nat → Prop) (ds : List D) (H : Hp) (Wi : Wd) (n : Nat) (acc : List (L2.Key × V)) (accD : List (L2.Key × D)) : Prop where
  h : Wi.H = H
  S : Ste M.G A W Wi n
  R : Rep M.G A₀ W₀ (fun a => A a ∨ a = Da) σ Wi ⟨sl, n⟩
  e : Wi.H Da = some (.dK acc)
  c : acc.map Prod.fst = accD.map Prod.fst
  x : Ats M.G (fun a => A a ∨ a = Da) Wi (acc.map Prod.snd) (accD.map Prod.snd)
  s : Stp A W1 (fun a => A a ∨ a = Da) Wi
  w : dcompL (stepD M t cond kx vx sl) ds accD n Qd
theorem dcomp_rd {t : Tg} {it cond kx vx : X} {own : List (Str × Nat)} (nk : kx.isBor = false) (nb : vx.isBor = false) (hown : own.map (·.2) = t.slots) {σ : L2.St} {H : Hp} {Qv : VK} (hh : rdX M Wx (.dcomp t it cond kx vx) σ H Qv) :
    tDc (rdI M Wx it) (gT c.K t) (rdT M noW cond) (rdX M noW kx) (rdX M noW vx) (own.map (·.2)) σ H Qv := by
  obtain ⟨A₀, W₀, A, W, sl, n, E, Qd, e, R, Xs, hw, k⟩ := hh
  rw [hown]
  refine ⟨A₀, W₀, A, W, sl, n, E, _, e, R, Xs, hw, fun J ds W1 n1 S1 wk q1 => ?_⟩
  have q1 : dcompL (stepD M t cond kx vx sl) ds [] n1 (fun ds n => Qd (.dK ds) n) := q1
  have wk : Wk M.G A W1 J ds := wk
  intro Da nD
  have R1 := R.ste S1
  have nA : ¬ A Da := fun z => by
    obtain ⟨o, e, _⟩ := R1.ain Da z
    rw [nD] at e
    cases e
  have n0 : ¬ A₀ Da := fun z => nA (R.aup Da z)
  have noD : noAd sl Da := fun z hz ez => by
    obtain ⟨j, hj⟩ := List.getElem?_of_mem hz
    obtain ⟨o, _, _, _, e4, _⟩ := R1.slf j z Da hj ez
    rw [nD] at e4
    cases e4
  let Pv : Nat → Hp → Prop := fun i H => i ≤ ds.length ∧ ∃ Wi ni acc accD, DcI M A₀ W₀ A σ W W1 sl Da t cond kx vx (fun ds n => Qd (.dK ds) n) (ds.drop i) H Wi ni acc accD
  refine ⟨fun i m H => m = ds.length - i ∧ Pv i H, ⟨ds.length, by simp, Nat.zero_le _, ⟨W1.iot, upd W1.H Da (.dK [])⟩, n1, [], [], ?_⟩, ?_⟩
  · exact ⟨rfl, S1.trans (.lay S1.strm S1.tabs nD), R1.moreO (fun _ z => nomatch z) nD, upd_same, rfl, .nil, (Stp.more nD).trans (Stp.lay nD), by simpa using q1⟩
  · rintro i m H ⟨rfl, hi, Wi, ni, acc, accD, I⟩
    have hH := I.h
    subst hH
    by_cases hlt : i < ds.length
    · refine .inr ⟨wk.go _ Wi I.s i hlt, Pv (i + 1), fun H' p' => ⟨ds.length - (i + 1), by omega, rfl, p'⟩, fun x H' y => ?_⟩
      obtain ⟨W2, e2, S2, x2⟩ := wk.yld _ Wi ni I.s I.R.bas I.S.strm I.S.tabs i ds[i] (List.getElem?_eq_getElem hlt) x H' y
      have hw := I.w
      rw [List.drop_eq_getElem_cons hlt] at hw
      have R2 := I.R.ste S2
      rw [← e2]
      refine gT_ok (R2.wipe t.slots) x2 hw fun σ' sl' R3 o w3 => ⟨(off_wipe.tr o).wipe, ?_⟩
      refine ⟨A₀, W₀, _, W2, sl', ni, noE, _, rfl, R3, xs_no, w3, fun b d W3 n3 S3 r3 q3 => ?_⟩
      cases (show b = d from r3)
      have S23 := S2.trans S3
      have lift : ∀ {W' : Wd} {n' : Nat}, Ste M.G (fun a => A a ∨ a = Da) Wi W' n' → Ste M.G A W W' n' := fun S => ⟨S.iot.trans I.S.iot, I.S.ext.trans S.ext fun _ h => .inl h, S.strm, S.tabs⟩
      have keep : ∀ {W' : Wd} {n' : Nat}, Ste M.G (fun a => A a ∨ a = Da) Wi W' n' → W'.H Da = some (.dK acc) := fun S => (S.ext.keep Da _ I.e (fun z => n0 (z ▸ R.b0.st)) (fun z => n0 (z ▸ R.b0.inn)) (fun _ z => nomatch z)).1 (.inr rfl)
      cases b with
      | false =>
        rw [if_neg Bool.false_ne_true] at q3 ⊢
        exact ⟨hlt, W3, n3, acc, accD, rfl, lift S23, I.R.ste S23, keep S23, I.c, I.x.stp (I.R.bas.stp S23), I.s.trans (I.R.bas.stp S23), q3⟩
      | true =>
        rw [if_pos rfl] at q3 ⊢
        refine ⟨A₀, W₀, _, W3, sl', n3, noE, _, rfl, R3.ste S3, xs_no, q3, fun ky dk W4 n4 S4 r4 q4 => ?_⟩
        refine ⟨A₀, W₀, _, W4, sl', n4, noE, _, rfl, (R3.ste S3).ste S4, xs_no, q4, fun v dv W5 n5 S5 r5 q5 => ?_⟩
        obtain ⟨key, hk, lz, q5⟩ := q5
        have S25 := (S23.trans S4).trans S5
        have e5 := keep S25
        have x5 := I.x.stp (I.R.bas.stp S25)
        have R5 := I.R.ste S25
        have hv := r5.2.1 nb
        have mu := stp_mut (A := fun a => A a ∨ a = Da) (W := W5) (a := Da) (o := .dK (putK acc key v)) R.b0 R5.iot (.inr rfl) n0
        obtain ⟨p1, p2⟩ := put_ats (k := key) I.c x5 hv
        refine ⟨acc, key, at_key (r4.2.1 nk) hk, e5, ?_, hlt, ⟨W5.iot, upd W5.H Da (.dK (putK acc key v))⟩, n5, putK acc key v, setK accD key dv, rfl, ?_, R5.mutD (.inr rfl) n0 e5 (.inr (.inl ⟨_, rfl⟩)) (fun _ z => nomatch z) noD, upd_same, p1, p2.stp mu, (I.s.trans (I.R.bas.stp S25)).trans mu, q5⟩
        · have := congrArg List.length I.c
          rw [List.length_map, List.length_map] at this
          rw [this]
          exact Nat.lt_trans lz smax_lt
        · have S5' := lift S25
          have nW : Non W.H Da := S1.ext.back (.of nD)
          have kp : ∀ x u, W5.H x = some u → x ≠ Da → upd W5.H Da (.dK (putK acc key v)) x = some u := fun x u e1 e2 => by rw [upd_ne e2]; exact e1
          refine ⟨S5'.iot, ⟨fun x u e1 tt => ?_, fun x u e1 e2 e3 tt => ?_⟩, strm_upd S5'.strm (fun z => n0 (z ▸ R.b0.st)) (fun z => n0 (z ▸ R.b0.inn)), tabs_ins S5'.tabs e5 (.inr (.inl ⟨_, rfl⟩))⟩
          · have hx : x ≠ Da := nW.ne e1 tt
            obtain ⟨o, e2, t2⟩ := S5'.ext.there x u e1 tt
            exact ⟨o, kp x o e2 hx, t2⟩
          · have hx : x ≠ Da := nW.ne e1 tt
            obtain ⟨k1, k2⟩ := S5'.ext.keep x u e1 e2 e3 tt
            refine ⟨fun h => kp x u (k1 h) hx, ?_⟩
            show Kp u (upd W5.H Da (.dK (putK acc key v)) x)
            rw [upd_ne hx]
            exact k2
    · have ei : i = ds.length := by omega
      subst ei
      refine .inl ⟨wk.stop _ Wi I.s, ?_⟩
      have hw := I.w
      rw [List.drop_length] at hw
      refine k _ _ Wi ni I.S (relX_at (.dK (.inl I.e) nA I.c (I.x.stp (.less fun _ h => .inl h))) ⟨(fun j xs e => nomatch e), fun _ => ?_⟩) hw
      exact ⟨Da, _, rfl, S1.ext.back (.of nD), I.e, acc, rfl, I.c, I.x⟩
theorem sx_dcomp (g : Good c M Wx) {t : Tg} {it cond kx vx : X} {own : List (Str × Nat)} {scope : Scope} {tg iter ek ev : Expr} {ifs : List Expr} (nk : kx.isBor = false) (nb : vx.isBor = false) (hi : PI c tg iter (rdI M Wx it)) (ok : BlkOk c.N c.env.scope scope own) (hown : own.map (·.2) = t.slots)
    (hg : ∀ (s : Shared) (H : Hp) (C : Addr) (cl : List (Str × Addr)) (fp : List Addr), PG (c.blk s H scope (compEnvC scope cl C c.env) fp) tg (gT c.K t))
    (ht : ∀ (s : Shared) (H : Hp) (C : Addr) (cl : List (Str × Addr)) (fp : List Addr), PTs (c.blk s H scope (compEnvC scope cl C c.env) fp) ifs (rdT M noW cond))
    (hk : ∀ (s : Shared) (H : Hp) (C : Addr) (cl : List (Str × Addr)) (fp : List Addr), PE (c.blk s H scope (compEnvC scope cl C c.env) fp) ek (rdX M noW kx))
    (he : ∀ (s : Shared) (H : Hp) (C : Addr) (cl : List (Str × Addr)) (fp : List Addr), PE (c.blk s H scope (compEnvC scope cl C c.env) fp) ev (rdX M noW vx)) (hs : ∀ x, foldedSetIterable iter c.env x = pure x) :
    PE c (.DictComp ek ev [⟨tg, iter, ifs, 0⟩] scope pos) (rdX M Wx (.dcomp t it cond kx vx)) :=
  PE.imp (pe_dc g.calm g.nd hi ok hg ht hk he hs) fun σ H Qv h => dcomp_rd nk nb hown h
end
end Q
/-! Q layer, part N: every expression that passes the check. -/
namespace Q
open PySem PySem.Spec L2
section
variable {cf : Cf} {N : List Str}
theorem blk_sto {c : Cx} {s : Shared} {H : Hp} {scope : Scope} {C : Addr} {cl : List (Str × Addr)} {fp : List Addr} : StoB (c.blk s H scope (compEnvC scope cl C c.env) fp) scope := fun x hx => by
  rcases hx with h | h
  · have k := lookup_relS_keep (sc := c.env.scope) (by decide) h
    exact ⟨.inl k, .inr k⟩
  · have k := lookup_relS_keep (sc := c.env.scope) (by decide) h
    refine ⟨.inr k, .inl ?_⟩
    show (scope.names.lookup x == some .cell) = true
    rw [h]
    rfl
theorem blkN_ix {t : Tg} : (blkN N t).map (·.2) = t.slots := by
  unfold blkN
  rw [List.map_map]
  exact List.map_id _
/-- and, or by their operands -/
theorem boo_of {con : Bool} {op : BoolOp} (h : op = boOf con) : op = boOf con := h
theorem isTru_ok {x : X} (h : x.isTru = true) : x = .bl true := by
  cases x with
  | bl b => cases b <;> first | rfl | cases h
  | _ => cases h
/-- the ifs of a comprehension -/
theorem ifs_ok {M : Pm} {c : Cx} {cond : X} {ifs : List Expr} (hc : ∀ e, (chk cf N cond).t c.env.scope e = true → PT c e (rdT M noW cond)) (h : ckIfs (chk cf N cond).t cond.isTru c.env.scope ifs = true) : PTs c ifs (rdT M noW cond) := by
  match ifs, h with
  | [], h =>
    have := isTru_ok h
    subst this
    refine ⟨fun pins s' σ H' Q I h => pts_nil.run pins s' σ H' Q I ?_⟩
    obtain ⟨A₀, W₀, A, W, sl, n, E, Qd, e, R, Xs, hw, k⟩ := h
    subst e
    exact k true true W n R.refl rfl hw
  | [f], h => exact pts_one (hc f h)
theorem snd_no {x : X} (hc : chk cf N x = ckN) : Snd cf N x where
  x := fun G F n e h => by rw [hc] at h; cases h
  t := fun G F n e h => by rw [hc] at h; cases h
  a := fun G F n e h => by rw [hc] at h; cases h
  p := fun G F n e h => by rw [hc] at h; cases h
  ab := fun G F n e h => by rw [hc] at h; cases h
  b := fun G F n con es pos h => by rw [hc] at h; cases h
  bt := fun G F n con es pos h => by rw [hc] at h; cases h
  o := fun G F n e h => by rw [hc] at h; cases h
  i := fun G F n tg e h => by rw [hc] at h; cases h
theorem rg_nev {M : Pm} {Wx : WX} {α β : Type} {Rel : (Addr → Prop) → Wd → Wd → β → α → Prop} {σ : L2.St} {H : Hp} {Q : β → Hp → Prop} (h : Rg M Wx (fun (_ : Exn) _ _ (_ : α → Nat → Prop) => False) Rel σ H Q) : False := by
  obtain ⟨A₀, W₀, A, W, sl, n, E, Qd, e, R, Xs, hw, k⟩ := h
  exact hw
theorem take_le {α : Type} {l : List α} {m n i : Nat} {x : α} (h : m ≤ n) (e : (l.take m)[i]? = some x) : (l.take n)[i]? = some x := by
  rw [List.getElem?_take] at e ⊢
  split at e
  · rename_i hi
    rw [if_pos (Nat.lt_of_lt_of_le hi h)]
    exact e
  · cases e
theorem Fit.lamb {M : Pm} {cf : Cf} (F : Fit M cf) : Fit { M.off with x := M.x - 2, gd := false } cf.lamb := by
  refine ⟨F.bs, F.fns, F.cl, F.nm, F.cn, (fun h => nomatch h), (fun h => nomatch h), rfl, congrArg (· - 2) F.x, F.hf, F.ini, F.mth, F.np, F.xc, (fun p {c Wx} L y g e es h xs hx => ?_), F.fr⟩
  unfold Cf.lamb at h
  dsimp only at h
  by_cases hg : cf.gd = true
  · rw [if_pos hg] at h
    cases h
  · rw [if_neg hg] at h
    have hg : M.gd = false := by
      rw [← F.gd]
      simpa using hg
    exact F.prs p L y ⟨⟨g.fx.KG, g.fx.bs, g.fx.fns, g.fx.cls, g.fx.cnm, g.fx.exm, g.fx.xcn, g.fx.exc, g.fx.hof, g.fx.few, g.fx.ini, g.fx.mth, g.fx.mx, g.fx.fty⟩, g.calm, g.nd, g.room, g.tk, g.lam, g.lmf, (fun z => by rw [show M.gd = true from z] at hg; cases hg)⟩ e es h xs hx
theorem lamPs_ok {env : PySem.Env} {params : Arguments} {body : Expr} {scope : Scope} {ps : List Str} (h : lamPs params = some ps) : defaultsOf params env = ([], []) ∧
    ∀ (q : Str) (cl : List (Str × Addr)) (pm cv ctv : Value) (us : List Value), us.length = ps.length → bindArgs (PySem.W.kla_fn "<lambda>" q params body scope cl pm cv ctv) ⟨us, []⟩ = pure (ps.zip us) := by
  unfold lamPs at h
  split at h
  · cases h
    refine ⟨by simp [defaultsOf, evalEach, evalEachOpt], fun q cl pm cv ctv us hl => ?_⟩
    cases us with
    | nil => rfl
    | cons _ _ => cases hl
  · rename_i x an ps
    cases h
    refine ⟨by simp [defaultsOf, evalEach, evalEachOpt], fun q cl pm cv ctv us hl => ?_⟩
    match us, hl with
    | [u], _ =>
      simp [bindArgs, PySem.W.kla_fn, seqItems?]
      rfl
  · cases h
theorem chk_ok : ∀ (x : X) (cf : Cf) {N : List Str}, Snd cf N x
  | .var i, cf, N => sndV rfl (fun _ => rfl) fun {M c Wx} G F n e h => by
    split at h
    · exact sx_var (by rw [n]; exact h)
    · cases h
  | .bor i, cf, N => sndV rfl (fun _ => rfl) fun {M c Wx} G F n e h => by
    split at h
    · exact sx_bor (by rw [n]; exact h)
    · cases h
  | .int m, cf, N => sndV rfl (fun _ => rfl) fun {M c Wx} G F n e h => by
    split at h
    · have := of_decide_eq_true h
      subst this
      exact sx_int
    · cases h
  | .str m, cf, N => sndV rfl (fun _ => rfl) fun {M c Wx} G F n e h => by
    split at h
    · have := of_decide_eq_true h
      subst this
      exact sx_str
    · cases h
  | .bl m, cf, N => sndV rfl (fun _ => rfl) fun {M c Wx} G F n e h => by
    split at h
    · have := of_decide_eq_true h
      subst this
      exact sx_bl
    · cases h
  | .non, cf, N => sndV rfl (fun _ => rfl) fun {M c Wx} G F n e h => by
    split at h
    · exact sx_non
    · cases h
  | .glo g, cf, N => sndV rfl (fun _ => rfl) fun {M c Wx} G F n e h => by
    split at h
    · rw [Bool.and_eq_true] at h
      obtain ⟨f, hf, rfl⟩ := fn_ok F (of_decide_eq_true h.1)
      exact sx_glo G hf h.2
    · cases h
  | .neg a, cf, N => sndV rfl (fun _ => rfl) fun {M c Wx} G F n e h => by
    split at h
    · exact sx_neg ((chk_ok a _).x G F n _ h)
    · cases h
  | .bin o a b, cf, N => sndV rfl (fun _ => rfl) fun {M c Wx} G F n e h => by
    split at h
    · simp only [Bool.and_eq_true, decide_eq_true_eq] at h
      obtain ⟨rfl, h1, h2⟩ := h
      exact sx_bin ((chk_ok a _).x G F n _ h1) ((chk_ok b _).x G F n _ h2)
    · cases h
  | .cmp o a b, cf, N => snd_mk rfl (fun _ => rfl) (fun {M c Wx} G F n e h => by
    split at h
    · simp only [Bool.and_eq_true, decide_eq_true_eq, Bool.not_eq_true'] at h
      obtain ⟨rfl, h1, h2, h3⟩ := h
      exact sx_cmp G ((chk_ok a _).x G F n _ h1) ((chk_ok b _).x G F n _ h2) h3
    · cases h) fun {M c Wx} G F n e h => by
    split at h
    · simp only [Bool.and_eq_true, decide_eq_true_eq, Bool.not_eq_true'] at h
      obtain ⟨rfl, h1, h2, h3⟩ := h
      exact sx_cmpT G ((chk_ok a _).x G F n _ h1) ((chk_ok b _).x G F n _ h2) h3
    · cases h
  | .cmp2 o p a b d, cf, N => snd_mk rfl (fun _ => rfl) (fun {M c Wx} G F n e h => by
    split at h
    · simp only [Bool.and_eq_true, decide_eq_true_eq, Bool.not_eq_true'] at h
      obtain ⟨⟨rfl, rfl⟩, h1, h2, h3, h4⟩ := h
      exact sx_cmp2 G ((chk_ok a _).x G F n _ h1) ((chk_ok b _).x G F n _ h2) ((chk_ok d _).x G F n _ h3) h4
    · cases h) fun {M c Wx} G F n e h => by
    split at h
    · simp only [Bool.and_eq_true, decide_eq_true_eq, Bool.not_eq_true'] at h
      obtain ⟨⟨rfl, rfl⟩, h1, h2, h3, h4⟩ := h
      exact sx_cmp2T G ((chk_ok a _).x G F n _ h1) ((chk_ok b _).x G F n _ h2) ((chk_ok d _).x G F n _ h3) h4
    · cases h
  | .boo con xs, cf, N => snd_mk rfl (fun _ => rfl) (fun {M c Wx} G F n e h => by
    split at h
    · simp only [Bool.and_eq_true, decide_eq_true_eq] at h
      obtain ⟨rfl, h1⟩ := h
      exact sx_boo ((chk_ok xs _).b G F n con _ _ h1)
    · cases h) fun {M c Wx} G F n e h => by
    split at h
    · simp only [Bool.and_eq_true, decide_eq_true_eq] at h
      obtain ⟨rfl, h1⟩ := h
      exact sx_booT ((chk_ok xs _).bt G F n con _ _ h1)
    · cases h
  | .not_ a, cf, N => snd_mk rfl (fun _ => rfl) (fun {M c Wx} G F n e h => by
    split at h
    · exact sx_not ((chk_ok a _).x G F n _ h)
    · cases h) fun {M c Wx} G F n e h => by
    split at h
    · exact sx_notT ((chk_ok a _).t G F n _ h)
    · cases h
  | .ite t a b, cf, N => sndV rfl (fun _ => rfl) fun {M c Wx} G F n e h => by
    split at h
    · simp only [Bool.and_eq_true, Bool.not_eq_true'] at h
      obtain ⟨⟨h1, h2⟩, h3, h4, h5⟩ := h
      exact sx_ite h1 h2 ((chk_ok t _).t G F n _ h3) ((chk_ok a _).x G F n _ h4) ((chk_ok b _).x G F n _ h5)
    · cases h
  | .idx a b, cf, N => sndV rfl (fun _ => rfl) fun {M c Wx} G F n e h => by
    split at h
    · simp only [Bool.and_eq_true] at h
      exact sx_idx (plainI_ok h.1) ((chk_ok a _).x G F n _ h.2.1) ((chk_ok b _).x G F n _ h.2.2)
    · cases h
  | .slc a lo hi, cf, N => sndV rfl (fun _ => rfl) fun {M c Wx} G F n e h => by
    split at h
    · simp only [Bool.and_eq_true] at h
      exact sx_slc ((chk_ok a _).x G F n _ h.1) ((chk_ok lo _).o G F n _ h.2.1) ((chk_ok hi _).o G F n _ h.2.2)
    · cases h
  | .lst xs, cf, N => sndV rfl (fun _ => rfl) fun {M c Wx} G F n e h => by
    split at h
    · exact sx_lst ((chk_ok xs _).a G F n _ h)
    · cases h
  | .tup xs, cf, N => sndV rfl (fun _ => rfl) fun {M c Wx} G F n e h => by
    split at h
    · exact sx_tup ((chk_ok xs _).a G F n _ h)
    · cases h
  | .call g xs, cf, N => sndV rfl (fun _ => rfl) fun {M c Wx} G F n e h => by
    split at h
    · simp only [Bool.and_eq_true, decide_eq_true_eq] at h
      obtain ⟨⟨h1, h2⟩, ⟨h3, h4⟩, h5⟩ := h
      obtain ⟨f, hf, rfl⟩ := fn_ok F h1
      exact sx_call G hf (gl_ok h2).1 (gl_ok h2).2 ((chk_ok xs _).a G F n _ h5) (star_ok h3 _ _) (star_all _ h4 _)
    · cases h
  | .bi b xs, cf, N => sndV rfl (fun _ => rfl) fun {M c Wx} G F n e h => by
    split at h
    · simp only [Bool.and_eq_true, decide_eq_true_eq] at h
      obtain ⟨⟨rfl, h2⟩, ⟨h3, h4⟩, h5⟩ := h
      obtain ⟨g1, g2, g3⟩ := gn_ok F h2
      exact sx_bi G g3 g1 ((chk_ok xs _).ab G F n _ h5) (star_ok h3 _ _) (star_all _ h4 _)
    · cases h
  | .ist a ts one, cf, N => sndV rfl (fun _ => rfl) fun {M c Wx} G F n e h => by
    split at h
    · simp only [Bool.and_eq_true, decide_eq_true_eq, Bool.not_eq_true'] at h
      obtain ⟨⟨rfl, h2⟩, ⟨rfl, h3, h4⟩, h5, h6⟩ := h
      obtain ⟨g1, g2, g3⟩ := gn_ok F h2
      exact sx_istN G g3 g1 (Nat.le_trans h3 (by decide)) ((chk_ok a _).x G F n _ h5) (ckTys_ok G F h6) (star_ok h4 _ _)
    · simp only [Bool.and_eq_true, decide_eq_true_eq] at h
      obtain ⟨⟨rfl, h2⟩, ⟨rfl, h3, h4⟩, h5, h6⟩ := h
      obtain ⟨g1, g2, g3⟩ := gn_ok F h2
      split at h6
      · exact sx_ist1 G g3 g1 ((chk_ok a _).x G F n _ h5) (ckTy_ok G F h6) (star_ok h3 _ _) (star_ok h4 _ _)
      · cases h6
    · cases h
  | .fld k f a, cf, N => sndV rfl (fun _ => rfl) fun {M c Wx} G F n e h => by
    split at h
    · simp only [Bool.and_eq_true, decide_eq_true_eq] at h
      obtain ⟨⟨h1, h2, h3⟩, h4⟩ := h
      exact sx_fld G (by rw [F.cl]; exact List.contains_iff_mem.mp h1) (by rw [F.nm]; exact h2) (noCall_ok h3 _ _ _) ((chk_ok a _).x G F n _ h4)
    · cases h
  | .comp t it cond elt, cf, N => sndV rfl (fun _ => rfl) fun {M c Wx} G F n e h => by
    split at h
    · rename_i e tg iter ifs scope pos
      simp only [Bool.and_eq_true, Bool.not_eq_true'] at h
      obtain ⟨⟨h1, h2, h3⟩, h4, h5, h6, h7⟩ := h
      refine sx_comp (own := blkN N t) G h1 ((chk_ok it _).i G F n _ _ h4) (by rw [n]; exact blkOk_by h3) blkN_ix (fun s H C cl fp => ?_) (fun s H C cl fp => ?_) (fun s H C cl fp => ?_) (noSet_ok h2 _)
      · exact ckTg_ok (c := c.blk s H scope (compEnvC scope cl C c.env) fp) G.calm G.nd n blk_sto t tg h5
      · exact ifs_ok (c := c.blk s H scope (compEnvC scope cl C c.env) fp) (fun e he => (chk_ok cond _).t (G.blk s H scope (compEnvC scope cl C c.env) fp) F.off n e he) h6
      · exact (chk_ok elt _).x (G.blk s H scope (compEnvC scope cl C c.env) fp) F.off n _ h7
    · cases h
  | .nev, cf, N => {
      x := fun G F n e h => ⟨fun pins s σ H Q I q => (rg_nev q).elim⟩
      t := fun G F n e h => ⟨fun pins s σ H Q I q => (rg_nev q).elim⟩
      a := fun G F n e h => nomatch (show false = true from h)
      p := fun G F n e h => nomatch (show false = true from h)
      ab := fun G F n e h => nomatch (show false = true from h)
      b := fun G F n con es pos h => nomatch (show false = true from h)
      bt := fun G F n con es pos h => nomatch (show false = true from h)
      o := fun G F n e h => nomatch (show false = true from h)
      i := fun G F n tg e h => nomatch (show false = true from h) }
  | .pri p xs, cf, N => sndV rfl (fun _ => rfl) fun {M c Wx} G F n e h => by
    split at h
    · rename_i es he
      have h1 := (F.prs p [] M.x (by simpa using G.off) e es he xs (by simpa using (chk_ok xs _).p G F n es h)).1
      simpa using h1
    · cases h
  | .priF p xs, cf, N => sndV rfl (fun _ => rfl) fun {M c Wx} G F n e h => by
    obtain ⟨hf, h⟩ := Bool.and_eq_true_iff.mp h
    split at h
    · rename_i es he
      have h1 := (F.prs p [] M.x (by simpa using G.off) e es he xs (by simpa using (chk_ok xs _).p G F n es h)).2 hf
      simpa using h1
    · cases h
  | .calV gs i xs, cf, N => sndV rfl (fun _ => rfl) fun {M c Wx} G F n e h => by
    split at h
    · simp only [Bool.and_eq_true] at h
      obtain ⟨⟨h1, h2⟩, ⟨h3, h4⟩, h5⟩ := h
      obtain ⟨m1, m2, m3, m4⟩ := nm_ok (by rw [← n] at h1; exact h1)
      refine sx_calV G (fun k hk => ?_) m1 m2 m3 m4 ((chk_ok xs _).a G F n _ h5) (star_ok h3 _ _) (star_all _ h4 _)
      have hk := of_decide_eq_true (List.all_eq_true.mp h2 k hk)
      have hl : k < (M.Phy.take M.nf).length := by
        have e := congrArg List.length F.fns
        rw [List.length_map] at e
        rw [e]
        exact hk
      exact ⟨_, List.getElem?_eq_getElem hl⟩
    · cases h
  | .callF g xs, cf, N => sndV rfl (fun _ => rfl) fun {M c Wx} G F n e h => by
    split at h
    · simp only [Bool.and_eq_true, decide_eq_true_eq] at h
      obtain ⟨⟨h1, h2⟩, ⟨h3, h4⟩, h5⟩ := h
      obtain ⟨f, hf, rfl⟩ := fn_ok F h1
      exact sx_callF G hf (gl_ok h2).1 (gl_ok h2).2 ((chk_ok xs _).a G F n _ h5) (star_ok h3 _ _) (star_all _ h4 _)
    · cases h
  | .dcomp t it cond kx vx, cf, N => sndV rfl (fun _ => rfl) fun {M c Wx} G F n e h => by
    split at h
    · rename_i ek ev tg iter ifs scope pos
      simp only [Bool.and_eq_true, Bool.not_eq_true'] at h
      obtain ⟨⟨⟨h0, h1⟩, h2, h3⟩, h4, h5, h6, h7, h8⟩ := h
      refine sx_dcomp (own := blkN N t) G h0 h1 ((chk_ok it _).i G F n _ _ h4) (by rw [n]; exact blkOk_by h3) blkN_ix (fun s H C cl fp => ?_) (fun s H C cl fp => ?_) (fun s H C cl fp => ?_) (fun s H C cl fp => ?_) (noSet_ok h2 _)
      · exact ckTg_ok (c := c.blk s H scope (compEnvC scope cl C c.env) fp) G.calm G.nd n blk_sto t tg h5
      · exact ifs_ok (c := c.blk s H scope (compEnvC scope cl C c.env) fp) (fun e he => (chk_ok cond _).t (G.blk s H scope (compEnvC scope cl C c.env) fp) F.off n e he) h6
      · exact (chk_ok kx _).x (G.blk s H scope (compEnvC scope cl C c.env) fp) F.off n _ h7
      · exact (chk_ok vx _).x (G.blk s H scope (compEnvC scope cl C c.env) fp) F.off n _ h8
    · cases h
  | .dix a b, cf, N => sndV rfl (fun _ => rfl) fun {M c Wx} G F n e h => by
    split at h
    · simp only [Bool.and_eq_true, Bool.not_eq_true'] at h
      exact sx_dix G h.1.1 h.1.2 ((chk_ok a _).x G F n _ h.2.1) ((chk_ok b _).x G F n _ h.2.2)
    · cases h
  | .dge1 a b, cf, N => sndV rfl (fun _ => rfl) fun {M c Wx} G F n e h => by
    split at h
    · simp only [Bool.and_eq_true, Bool.not_eq_true', decide_eq_true_eq] at h
      obtain ⟨⟨⟨rfl, h1⟩, h2, h3, h4⟩, h5, h6⟩ := h
      exact sx_dge1 G h1 h3 h2 h4 ((chk_ok a _).x G F n _ h5) ((chk_ok b _).x G F n _ h6)
    · cases h
  | .dge2 a b z, cf, N => sndV rfl (fun _ => rfl) fun {M c Wx} G F n e h => by
    split at h
    · simp only [Bool.and_eq_true, Bool.not_eq_true', decide_eq_true_eq] at h
      obtain ⟨⟨⟨rfl, h1⟩, h2, ⟨h3, h3'⟩, h4, h4'⟩, h5, h6, h7⟩ := h
      exact sx_dge2 G h1 h3 h3' h2 h4 h4' ((chk_ok a _).x G F n _ h5) ((chk_ok b _).x G F n _ h6) ((chk_ok z _).x G F n _ h7)
    · cases h
  | .din neg a b, cf, N => snd_mk rfl (fun _ => rfl) (fun {M c Wx} G F n e h => by
    split at h
    · simp only [Bool.and_eq_true, Bool.not_eq_true', decide_eq_true_eq] at h
      obtain ⟨⟨rfl, h1⟩, ⟨h2, h3⟩, h4⟩ := h
      exact sx_din G h1 h4 ((chk_ok a _).x G F n _ h2) ((chk_ok b _).x G F n _ h3)
    · cases h) fun {M c Wx} G F n e h => by
    split at h
    · simp only [Bool.and_eq_true, Bool.not_eq_true', decide_eq_true_eq] at h
      obtain ⟨⟨rfl, h1⟩, ⟨h2, h3⟩, h4⟩ := h
      exact sx_dinT G h1 h4 ((chk_ok a _).x G F n _ h2) ((chk_ok b _).x G F n _ h3)
    · cases h
  | .cal i xs, cf, N => sndV rfl (fun _ => rfl) fun {M c Wx} G F n e h => by
    split at h
    · simp only [Bool.and_eq_true] at h
      obtain ⟨⟨h1, h2⟩, ⟨h3, h5⟩, h4⟩ := h
      refine G.lam (F.cal h1) c.pn c.xe Wx G.tk i _ _ _ _ xs (by rw [n]; exact h2) h3 (fun e => ?_) ((chk_ok xs _).a G F n _ h4)
      subst e
      cases xs <;> first | rfl | (exact nomatch (show false = true from h5))
    · cases h
  | .callL i np l, cf, N => sndV rfl (fun _ => rfl) fun {M c Wx} G F n e h => by
    split at h
    · simp only [Bool.and_eq_true, decide_eq_true_eq] at h
      obtain ⟨⟨⟨h1, h2⟩, h3, h4, h5⟩, h6⟩ := h
      split at h6
      · rename_i ps hps
        simp only [Bool.and_eq_true, Bool.not_eq_true', beq_iff_eq] at h6
        obtain ⟨⟨rfl, h7⟩, h8, h9⟩ := h6
        obtain ⟨f, hf, rfl⟩ := fn_ok F h4
        obtain ⟨hdef, hbind⟩ := lamPs_ok (env := c.env) hps
        exact sx_callL0 G (F.lm h1) (by rw [← F.hf]; exact h2) (take_le F.np.2.2 hf) (by rw [← F.x]; exact h3) (gl_ok h5).1 (gl_ok h5).2 (lamP_by (by rw [n]; exact h8)) hdef hbind h7
          (fun c' W' g' n' s' => (chk_ok l _).x g' (F.lamb) (by rw [n', n]) _ (by rw [s']; exact h9))
      · cases h6
    · cases h
  | .callM i a np l, cf, N => sndV rfl (fun _ => rfl) fun {M c Wx} G F n e h => by
    split at h
    · simp only [Bool.and_eq_true, decide_eq_true_eq] at h
      obtain ⟨⟨⟨h1, h2⟩, h3, h4, h5⟩, ⟨⟨ha, hb⟩, hc⟩, h6⟩ := h
      split at h6
      · rename_i ps hps
        simp only [Bool.and_eq_true, Bool.not_eq_true', beq_iff_eq] at h6 hb
        obtain ⟨⟨rfl, h7⟩, h8, h9⟩ := h6
        obtain ⟨f, hf, rfl⟩ := fn_ok F h4
        obtain ⟨hdef, hbind⟩ := lamPs_ok (env := c.env) hps
        exact sx_callL1 G (F.lm h1) (by rw [← F.hf]; exact h2) (take_le F.np.2.2 hf) (by rw [← F.x]; exact h3) (gl_ok h5).1 (gl_ok h5).2 (lamP_by (by rw [n]; exact h8)) hdef hbind h7
          (fun c' W' g' n' s' => (chk_ok l _).x g' (F.lamb) (by rw [n', n]) _ (by rw [s']; exact h9)) ha hb ((chk_ok a _).x G F n _ hc)
      · cases h6
    · cases h
  | .mk k g xs, cf, N => sndV rfl (fun _ => rfl) fun {M c Wx} G F n e h => by
    split at h
    · simp only [Bool.and_eq_true, decide_eq_true_eq] at h
      obtain ⟨⟨h1, h2, h3⟩, ⟨h4, h5⟩, ⟨h6, h7⟩, h8⟩ := h
      have hk : k ∈ M.G.cl := by rw [F.cl]; exact List.contains_iff_mem.mp h1
      have hl : g < (M.Phy.take M.np).length := by rw [List.length_take, Nat.min_eq_left F.np.2.1, F.np.1]; exact h5
      subst h2
      obtain ⟨g1, g2⟩ := gl_ok h3
      rw [← F.cn] at g1 g2 ⊢
      exact sx_mk G hk (by rw [F.ini]; exact h4) (List.getElem?_eq_getElem hl) g1 g2 ((chk_ok xs _).a G F n _ h8) (star_ok h6 _ _) (star_all _ h7 _)
    · cases h
  | .meth k g a xs, cf, N => sndV rfl (fun _ => rfl) fun {M c Wx} G F n e h => by
    split at h
    · rename_i o m ap es cp
      simp only [Bool.and_eq_true, decide_eq_true_eq, Bool.not_eq_true'] at h
      obtain ⟨⟨⟨h1, h2⟩, h3, h4⟩, ⟨h5, h6⟩, ⟨h7, h8⟩, h9, h10⟩ := h
      have hk : k ∈ M.G.cl := by rw [F.cl]; exact List.contains_iff_mem.mp h1
      have hl : g < (M.Phy.take M.np).length := by rw [List.length_take, Nat.min_eq_left F.np.2.1, F.np.1]; exact h3
      have hi : M.mth k m = some g := by rw [F.mth]; exact h2
      have hm : (M.G.nm k).contains m = false := by rw [F.nm]; exact h4
      have ha := (chk_ok a _).x G F n _ h9
      cases es with
      | nil =>
        cases xs <;> first | (exact nomatch (show false = true from h10)) | skip
        exact sx_meth0 G hk hi (List.getElem?_eq_getElem hl) hm (noCall_ok h5 _ _ _) h6 ha
      | cons e es =>
        have h10 : (chk cf N xs).a c.env.scope (e :: es) = true := h10
        have h7' := h7
        rw [List.all_cons, Bool.and_eq_true] at h7'
        exact sx_meth G hk hi (List.getElem?_eq_getElem hl) hm (noCall_ok h5 _ _ _) h6 h7 h8 ha ((chk_ok xs _).a G F n _ h10) (star_ok h7'.1 _ _) (star_all _ h7'.2 _)
    · cases h
  | .itl a, cf, N => sndI rfl fun {M c Wx} G F n tg e h => by
    simp only [Bool.and_eq_true, Bool.not_eq_true'] at h
    exact si_l h.1 ((chk_ok a _).x G F n _ h.2)
  | .itr a, cf, N => sndI rfl fun {M c Wx} G F n tg e h => by
    split at h
    · simp only [Bool.and_eq_true, decide_eq_true_eq] at h
      obtain ⟨⟨rfl, h2⟩, h3, h4⟩ := h
      obtain ⟨g1, g2, g3⟩ := gn_ok F h2
      exact si_r G g3 g1 (star_ok h3 _ _) (sab_cons (star_ok h3 _ _) ((chk_ok a _).x G F n _ h4) sab_nil)
    · cases h
  | .itr2 a b, cf, N => sndI rfl fun {M c Wx} G F n tg e h => by
    split at h
    · simp only [Bool.and_eq_true, decide_eq_true_eq] at h
      obtain ⟨⟨rfl, h2⟩, ⟨h3, h4⟩, h5, h6⟩ := h
      obtain ⟨g1, g2, g3⟩ := gn_ok F h2
      exact si_r2 G g3 g1 (by rw [star_ok h3, star_ok h4]; rfl) (star_ok h4 _ _) (sab_cons (star_ok h3 _ _) ((chk_ok a _).x G F n _ h5) (sab_cons (star_ok h4 _ _) ((chk_ok b _).x G F n _ h6) sab_nil))
    · cases h
  | .itz a b, cf, N => sndI rfl fun {M c Wx} G F n tg e h => by
    split at h
    · simp only [Bool.and_eq_true, decide_eq_true_eq, Bool.not_eq_true'] at h
      obtain ⟨⟨h0, rfl, h2⟩, ⟨⟨h3, h4⟩, h5, h6⟩, h7, h8⟩ := h
      obtain ⟨g1, g2, g3⟩ := gn_ok F h2
      cases tg with
      | Tuple es k tp => exact si_z G g3 g1 (star_ok h3 _ _) (by rw [star_ok h4]; rfl) (sa_cons h5 (star_ok h3 _ _) ((chk_ok a _).x G F n _ h7) (sa_cons h6 (star_ok h4 _ _) ((chk_ok b _).x G F n _ h8) sa_nil))
      | _ => unfold isTup at h0; cases h0
    · cases h
  | .ite_ a, cf, N => sndI rfl fun {M c Wx} G F n tg e h => by
    split at h
    · simp only [Bool.and_eq_true, decide_eq_true_eq, Bool.not_eq_true'] at h
      obtain ⟨⟨h0, rfl, h2⟩, ⟨h3, h5⟩, h7⟩ := h
      obtain ⟨g1, g2, g3⟩ := gn_ok F h2
      cases tg with
      | Tuple es k tp => exact si_e G g3 g1 (star_ok h3 _ _) (sa_cons h5 (star_ok h3 _ _) ((chk_ok a _).x G F n _ h7) sa_nil)
      | _ => unfold isTup at h0; cases h0
    · cases h
  | .inO neg a i, cf, N => snd_mk rfl (fun _ => rfl) (fun {M c Wx} G F n e h => by
    split at h
    · simp only [Bool.and_eq_true, decide_eq_true_eq, Bool.not_eq_true'] at h
      obtain ⟨⟨rfl, h1⟩, h2, h3⟩ := h
      exact sx_inO G h1 (by rw [n]; exact h2) ((chk_ok a _).x G F n _ h3)
    · cases h) fun {M c Wx} G F n e h => by
    split at h
    · simp only [Bool.and_eq_true, decide_eq_true_eq, Bool.not_eq_true'] at h
      obtain ⟨⟨rfl, h1⟩, h2, h3⟩ := h
      exact sx_inOT G h1 (by rw [n]; exact h2) ((chk_ok a _).x G F n _ h3)
    · cases h
  | .nil, cf, N =>
            { x := fun G F n e h => (nomatch h), t := fun G F n e h => (nomatch h)
              a := fun G F n es h => by
                cases es with
                | nil => exact sa_nil
                | cons _ _ => cases h
              p := fun G F n es h => by
                cases es with
                | nil => exact .nil
                | cons _ _ => cases h
              ab := fun G F n es h => by
                cases es with
                | nil => exact sab_nil
                | cons _ _ => cases h
              b := fun G F n con es pos h => (nomatch h), bt := fun G F n con es pos h => (nomatch h)
              o := fun G F n e h => by
                cases e with
                | none => exact so_nil
                | some _ => cases h
              i := fun G F n tg e h => (nomatch h) }
  | .cons a r, cf, N =>
                 { x := fun G F n e h => (nomatch h), t := fun G F n e h => (nomatch h)
                   a := fun {M c Wx} G F n es h => by
                     cases es with
                     | nil => cases h
                     | cons e es =>
                       have h : ((nst e && !a.isBor) && ((chk cf N a).x c.env.scope e && (chk cf N r).a c.env.scope es)) = true := h
                       simp only [Bool.and_eq_true, Bool.not_eq_true'] at h
                       exact sa_cons h.1.2 (star_ok h.1.1 _ _) ((chk_ok a _).x G F n _ h.2.1) ((chk_ok r _).a G F n _ h.2.2)
                   p := fun {M c Wx} G F n es h => by
                     cases es with
                     | nil => cases h
                     | cons e es =>
                       have h : ((nst e && !a.isBor) && ((chk cf N a).x c.env.scope e && (chk cf N r).a c.env.scope es)) = true := h
                       simp only [Bool.and_eq_true, Bool.not_eq_true'] at h
                       exact .cons h.1.2 (fun l => star_ok h.1.1 l _) ((chk_ok a _).x G F n _ h.2.1) ((chk_ok r _).p G F n _ h.2.2)
                   ab := fun {M c Wx} G F n es h => by
                     cases es with
                     | nil => cases h
                     | cons e es =>
                       have h : (nst e && ((chk cf N a).x c.env.scope e && (chk cf N r).ab c.env.scope es)) = true := h
                       simp only [Bool.and_eq_true] at h
                       exact sab_cons (star_ok h.1 _ _) ((chk_ok a _).x G F n _ h.2.1) ((chk_ok r _).ab G F n _ h.2.2)
                   b := fun {M c Wx} G F n con es pos h => by
                     cases es with
                     | nil => cases h
                     | cons e es =>
                       cases es with
                       | nil =>
                         have h : ((r.isNil && !a.isBor) && (chk cf N a).x c.env.scope e) = true := h
                         simp only [Bool.and_eq_true, Bool.not_eq_true'] at h
                         exact sb_one h.1.1 h.1.2 ((chk_ok a _).x G F n _ h.2)
                       | cons e2 es =>
                         have h : (!r.isNil && ((chk cf N a).x c.env.scope e && (chk cf N r).b con c.env.scope (e2 :: es))) = true := h
                         simp only [Bool.and_eq_true, Bool.not_eq_true'] at h
                         exact sb_cons h.1 ((chk_ok a _).x G F n _ h.2.1) ((chk_ok r _).b G F n con _ pos h.2.2)
                   bt := fun {M c Wx} G F n con es pos h => by
                     cases es with
                     | nil => cases h
                     | cons e es =>
                       cases es with
                       | nil =>
                         have h : (r.isNil && (chk cf N a).t c.env.scope e) = true := h
                         simp only [Bool.and_eq_true] at h
                         exact sbt_one h.1 ((chk_ok a _).t G F n _ h.2)
                       | cons e2 es =>
                         have h : (!r.isNil && ((chk cf N a).t c.env.scope e && (chk cf N r).bt con c.env.scope (e2 :: es))) = true := h
                         simp only [Bool.and_eq_true, Bool.not_eq_true'] at h
                         exact sbt_cons h.1 ((chk_ok a _).t G F n _ h.2.1) ((chk_ok r _).bt G F n con _ pos h.2.2)
                   o := fun G F n e h => (nomatch h), i := fun G F n tg e h => (nomatch h) }
end
end Q
/-! Q layer, part O: a, b = x, y. -/
namespace Q
open PySem PySem.Spec L2
section
variable {c : Cx} {M : Pm} {Wx : WX} {pos : Pos} {G : Gb} {A₀ A A1 A' : Addr → Prop} {W₀ W W' W1 W2 : Wd} {σ : L2.St} {sl : Sl} {n : Nat}
/-- the values for the slots: those that are to be ours are new lists, each at a place of its own -/
inductive PAt (G : Gb) (A₀ A : Addr → Prop) (W : Wd) (σ : L2.St) (sl : Sl) : List Addr → List (Nat × Bool) → List V → List D → Prop
  | nil {P} : PAt G A₀ A W σ sl P [] [] []
  | val {P i ts v vs d ds} : At G A W v d → PAt G A₀ A W σ sl P ts vs ds → PAt G A₀ A W σ sl P ((i, false) :: ts) (v :: vs) (d :: ds)
  | own {P i ts a us xs vs ds} : A a → ¬ A₀ a → W.H a = some (.lst us) → Ats G A W us xs → (∀ (j : Nat) (ys : List D), sl[j]? = some (.own ys) → σ[j]? ≠ some (some (.ref a))) → a ∉ P → PAt G A₀ A W σ sl (a :: P) ts vs ds →
      PAt G A₀ A W σ sl P ((i, true) :: ts) (.ref a :: vs) (.lst 0 xs :: ds)
  | dic {P i ts a o kvs vs ds} : A a → ¬ A₀ a → W.H a = some o → Mean G A W o (.dic a (.dK kvs)) → noAd sl a → a ∉ P → PAt G A₀ A W σ sl (a :: P) ts vs ds → PAt G A₀ A W σ sl P ((i, true) :: ts) (.ref a :: vs) (.dK kvs :: ds)
  | bad {P i ts v vs d ds} : (∀ xs, d ≠ .lst 0 xs) → (∀ kvs, d ≠ .dK kvs) → vs.length = ds.length → PAt G A₀ A W σ sl P ((i, true) :: ts) (v :: vs) (d :: ds)
theorem PAt.len {P : List Addr} {ts : List (Nat × Bool)} {vs : List V} {ds : List D} (h : PAt G A₀ A W σ sl P ts vs ds) : vs.length = ds.length := by
  induction h with
  | nil => rfl
  | val _ _ ih => simp [ih]
  | own _ _ _ _ _ _ _ ih => simp [ih]
  | dic _ _ _ _ _ _ _ ih => simp [ih]
  | bad _ _ e => simp [e]
def rdP (M : Pm) (Wx : WX) (ts : List (Nat × Bool)) (x : X) : TA := fun σ H Q => ∃ A₀ W₀ A W sl n E Qd P, W.H = H ∧ Rep M.G A₀ W₀ A σ W ⟨sl, n⟩ ∧ XsS M Wx A₀ W₀ E ∧ (∀ a ∈ P, ∃ o, W.H a = some o ∧ NTbl o) ∧ wA M.Phy (fun e n => E e ⟨sl, n⟩) x sl n Qd ∧
  ∀ vs ds A' W' n', Stp A W A' W' → (∀ a, A a → a ≠ M.G.st → a ≠ M.G.inn → ∀ o, W.H a = some o → W'.H a = some o) → (∀ a, A a → A' a) → Rep M.G A₀ W₀ A' σ W' ⟨sl, n'⟩ → PAt M.G A₀ A' W' σ sl P ts vs ds → Qd ds n' → Q vs W'.H
/-- something new becomes ours -/
theorem Rep.adopt {n' : Nat} (R : Rep M.G A₀ W₀ A σ W ⟨sl, n⟩) (S : Ste M.G A W W' n') {p : Addr} {o : HO} (np : Non W.H p) (e : W'.H p = some o) (t : NTbl o) :
    Rep M.G A₀ W₀ (fun a => A a ∨ a = p) σ W' ⟨sl, n'⟩ ∧ Stp A W (fun a => A a ∨ a = p) W' := by
  have R' := R.ste S
  have s1 := R.bas.stp S
  have n0 : ¬ A₀ p := fun z => by
    obtain ⟨o, e, t⟩ := R.ain p (R.aup p z)
    exact np.ne e t rfl
  have s2 : Stp (fun a => A a ∨ a = p) W (fun a => A a ∨ a = p) W' := ⟨fun a o e na t => ⟨(s1.keep a o e (fun z => na (.inl z)) t).1, na⟩, s1.nam⟩
  have st : Stp A W (fun a => A a ∨ a = p) W' := (Stp.moreN np).trans s2
  refine ⟨⟨R.b0, R.len, R'.strm, R'.tabs, fun a ha => ?_, fun a ha => .inl (R.aup a ha), fun a ha => ?_, R'.ext, R'.iot, fun j d e1 => ?_, fun j ys e1 => ?_, R.sep, R.clo, fun j z q e1 hz => ?_⟩, st⟩
  · rcases ha with ha | rfl
    · exact R'.ain a ha
    · exact ⟨_, e, t⟩
  · rcases ha with ha | rfl
    · exact R.aold a ha
    · exact .inr (R.ext.back np)
  · obtain ⟨v, f1, f2⟩ := R.val j d e1
    exact ⟨v, f1, f2.stp st⟩
  · obtain ⟨a, us, f1, f2, f3, f4, f5⟩ := R.own j ys e1
    exact ⟨a, us, f1, .inl f2, f3, (S.ext.keep a _ f4 (fun z => f3 (z ▸ R.b0.st)) (fun z => f3 (z ▸ R.b0.inn)) (fun _ z => nomatch z)).1 f2, f5.stp st⟩
  · refine (R.slf j z q e1 hz).stp st fun q o h1 h2 h3 h4 => ⟨.inl h1, ?_⟩
    exact (S.ext.keep q _ h3 (fun z => h2 (z ▸ R.b0.st)) (fun z => h2 (z ▸ R.b0.inn)) h4.ntbl).1 h1
theorem sp_nil : PA c [] (rdP M Wx [] .nil) := PA.imp pa_nil fun σ H Q ⟨A₀, W₀, A, W, sl, n, E, Qd, P, e, R, Xs, hP, hw, k⟩ => by
  subst e
  exact k [] [] A W n (.refl A W) (fun _ _ _ _ _ h => h) (fun _ h => h) R .nil hw
theorem sp_val {i : Nat} {ts : List (Nat × Bool)} {a r : X} {e : Expr} {es : List Expr} (nb : a.isBor = false) (hs : starEach (e :: es) c.env = (false, eval e c.env) :: starEach es c.env) (ha : PE c e (rdX M Wx a)) (hr : PA c es (rdP M Wx ts r)) :
    PA c (e :: es) (rdP M Wx ((i, false) :: ts) (.cons a r)) := by
  refine PA.imp (pa_cons ha hr hs) fun σ H Q ⟨A₀, W₀, A, W, sl, n, E, Qd, P, e, R, Xs, hP, hw, k⟩ => ?_
  subst e
  refine ⟨A₀, W₀, A, W, sl, n, _, _, rfl, R, Xs.ok R, hw, fun x dx W1 n1 S1 r1 q1 => ?_⟩
  have R1 := R.ste S1
  have s1 := R.bas.stp S1
  refine ⟨A₀, W₀, A, W1, sl, n1, E, _, P, rfl, R1, Xs, fun a ha => ?_, q1, fun vs ds A' W' n' s' f' g' R' p' q' => ?_⟩
  · obtain ⟨o, h, t⟩ := hP a ha
    exact S1.ext.there a o h t
  · refine k _ _ A' W' n' (s1.trans s') (fun a ha h1 h2 o ho => f' a ha h1 h2 o ?_) g' R' (.val ((r1.2.1 nb).stp s') p') q'
    by_cases t : NTbl o
    · exact (S1.ext.keep a o ho h1 h2 t).1 ha
    · exfalso
      obtain ⟨o', e', t'⟩ := R.ain a ha
      rw [ho] at e'
      cases e'
      exact t t'
theorem sp_own {i : Nat} {ts : List (Nat × Bool)} {a r : X} {e : Expr} {es : List Expr} (fr : a.fresh = true) (hs : starEach (e :: es) c.env = (false, eval e c.env) :: starEach es c.env) (ha : PE c e (rdX M Wx a)) (hr : PA c es (rdP M Wx ts r)) :
    PA c (e :: es) (rdP M Wx ((i, true) :: ts) (.cons a r)) := by
  refine PA.imp (pa_cons ha hr hs) fun σ H Q ⟨A₀, W₀, A, W, sl, n, E, Qd, P, e, R, Xs, hP, hw, k⟩ => ?_
  subst e
  refine ⟨A₀, W₀, A, W, sl, n, _, _, rfl, R, Xs.ok R, hw, fun x dx W1 n1 S1 r1 q1 => ?_⟩
  have R1 := R.ste S1
  have s1 := R.bas.stp S1
  have keepA : ∀ a, A a → a ≠ M.G.st → a ≠ M.G.inn → ∀ o, W.H a = some o → W1.H a = some o := fun a ha h1 h2 o ho => by
    obtain ⟨o', e', t'⟩ := R.ain a ha
    rw [ho] at e'
    cases e'
    exact (S1.ext.keep a o ho h1 h2 t').1 ha
  by_cases hd : ∃ xs, dx = .lst 0 xs
  · obtain ⟨xs, rfl⟩ := hd
    obtain ⟨p, us, rfl, np, ep, xp⟩ := (r1.2.2 fr).1 0 xs rfl
    -- p becomes ours
    have n0 : ¬ A₀ p := fun z => by
      obtain ⟨o, e, t⟩ := R.ain p (R.aup p z)
      exact np.ne e t rfl
    have nA : ¬ A p := fun z => by
      obtain ⟨o, e, t⟩ := R.ain p z
      exact np.ne e t rfl
    obtain ⟨R2, s2⟩ := R.putO S1 σ.length np ep xp
    have R3 : Rep M.G A₀ W₀ (fun a => A a ∨ a = p) σ W1 ⟨sl, n1⟩ := by
      rw [R.len] at R2
      have e1 : σ.set sl.length (some (.ref p)) = σ := List.set_eq_of_length_le (by rw [R.len]; exact Nat.le_refl _)
      have e2 : sl.set sl.length (.own xs) = sl := List.set_eq_of_length_le (Nat.le_refl _)
      simp only [e1, e2] at R2
      exact R2
    have noslot : ∀ (j : Nat) (ys : List D), sl[j]? = some (.own ys) → σ[j]? ≠ some (some (.ref p)) := fun j ys e1 e2 => by
      obtain ⟨b, vs, f1, f2, _⟩ := R.own j ys e1
      rw [f1] at e2
      cases e2
      exact nA f2
    refine ⟨A₀, W₀, _, W1, sl, n1, E, _, p :: P, rfl, R3, Xs, fun a ha => ?_, q1, fun vs ds A' W' n' s' f' g' R' p' q' => ?_⟩
    · rcases List.mem_cons.mp ha with rfl | ha
      · exact ⟨_, ep, fun _ z => nomatch z⟩
      · obtain ⟨o, h, t⟩ := hP a ha
        exact S1.ext.there a o h t
    · have hp1 : p ≠ M.G.st := fun z => n0 (z ▸ R.b0.st)
      have hp2 : p ≠ M.G.inn := fun z => n0 (z ▸ R.b0.inn)
      refine k _ _ A' W' n' (s2.trans s') (fun a ha h1 h2 o ho => f' a (.inl ha) h1 h2 o (keepA a ha h1 h2 o ho)) (fun a ha => g' a (.inl ha)) R'
        (.own (g' p (.inr rfl)) n0 (f' p (.inr rfl) hp1 hp2 _ ep) (xp.stp s') noslot (fun hm => ?_) p') q'
      obtain ⟨o, h, t⟩ := hP p hm
      exact np.ne h t rfl
  · by_cases hk : ∃ kvs, dx = .dK kvs
    · obtain ⟨kvs, rfl⟩ := hk
      obtain ⟨p, o, rfl, np, ep, me⟩ := (r1.2.2 fr).2 rfl
      have n0 : ¬ A₀ p := fun z => by
        obtain ⟨o, e, t⟩ := R.ain p (R.aup p z)
        exact np.ne e t rfl
      have nA : ¬ A p := fun z => by
        obtain ⟨o, e, t⟩ := R.ain p z
        exact np.ne e t rfl
      obtain ⟨R3, s2⟩ := R.adopt S1 np ep me.mut.ntbl
      have na : noAd sl p := fun z hz ez => by
        obtain ⟨j, hj⟩ := List.getElem?_of_mem hz
        obtain ⟨o, _, e2, _⟩ := R.slf j z p hj ez
        exact nA e2
      refine ⟨A₀, W₀, _, W1, sl, n1, E, _, p :: P, rfl, R3, Xs, fun a ha => ?_, q1, fun vs ds A' W' n' s' f' g' R' p' q' => ?_⟩
      · rcases List.mem_cons.mp ha with rfl | ha
        · exact ⟨_, ep, me.mut.ntbl⟩
        · obtain ⟨o, h, t⟩ := hP a ha
          exact S1.ext.there a o h t
      · have hp1 : p ≠ M.G.st := fun z => n0 (z ▸ R.b0.st)
        have hp2 : p ≠ M.G.inn := fun z => n0 (z ▸ R.b0.inn)
        refine k _ _ A' W' n' (s2.trans s') (fun a ha h1 h2 o ho => f' a (.inl ha) h1 h2 o (keepA a ha h1 h2 o ho)) (fun a ha => g' a (.inl ha)) R'
          (.dic (g' p (.inr rfl)) n0 (f' p (.inr rfl) hp1 hp2 _ ep) (me.stp s') na (fun hm => ?_) p') q'
        obtain ⟨o, h, t⟩ := hP p hm
        exact np.ne h t rfl
    · refine ⟨A₀, W₀, A, W1, sl, n1, E, _, P, rfl, R1, Xs, fun a ha => ?_, q1, fun vs ds A' W' n' s' f' g' R' p' q' => ?_⟩
      · obtain ⟨o, h, t⟩ := hP a ha
        exact S1.ext.there a o h t
      · exact k _ _ A' W' n' (s1.trans s') (fun a ha h1 h2 o ho => f' a ha h1 h2 o (keepA a ha h1 h2 o ho)) g' R' (.bad (fun xs z => hd ⟨xs, z⟩) (fun xs z => hk ⟨xs, z⟩) p'.len) q'
/-- a list of ours is put into a slot -/
theorem Rep.putA (R : Rep G A₀ W₀ A σ W ⟨sl, n⟩) (i : Nat) {a : Addr} {us : List V} {xs : List D} (ha : A a) (n0 : ¬ A₀ a) (e : W.H a = some (.lst us)) (x : Ats G A W us xs) (no : ∀ (j : Nat) (ys : List D), sl[j]? = some (.own ys) → σ[j]? ≠ some (some (.ref a))) :
    Rep G A₀ W₀ A (σ.set i (some (.ref a))) W ⟨sl.set i (.own xs), n⟩ := by
  have key : ∀ {j : Nat} {s : Slot}, (sl.set i (.own xs))[j]? = some s → (i = j ∧ s = .own xs ∧ i < sl.length) ∨ (i ≠ j ∧ sl[j]? = some s) := fun {j s} e => by
    rw [List.getElem?_set] at e
    by_cases hj : i = j
    · subst hj
      rw [if_pos rfl] at e
      split at e
      · rename_i hl
        exact .inl ⟨rfl, (Option.some.inj e).symm, hl⟩
      · cases e
    · rw [if_neg hj] at e
      exact .inr ⟨hj, e⟩
  refine ⟨R.b0, by simp [R.len], R.strm, R.tabs, R.ain, R.aup, R.aold, R.ext, R.iot, fun j d e1 => ?_, fun j ys e1 => ?_, fun j l b ys zs e1 e2 e3 e4 => ?_, fun j g k e1 => (set_other e1 (fun z => nomatch z)).elim fun hj e => by rw [List.getElem?_set_ne hj]; exact R.clo j g k e, fun j z p e1 hz => (set_other e1 (ad_ne hz rfl)).elim fun hj e => by rw [List.getElem?_set_ne hj]; exact R.slf j z p e hz⟩
  · rcases key e1 with ⟨_, z, _⟩ | ⟨hj, e1⟩
    · cases z
    · obtain ⟨v, f1, f2⟩ := R.val j d e1
      exact ⟨v, by rw [List.getElem?_set_ne hj]; exact f1, f2⟩
  · rcases key e1 with ⟨rfl, z, hl⟩ | ⟨hj, e1⟩
    · cases z
      have hl : i < σ.length := by rw [R.len]; exact hl
      exact ⟨a, us, by simp [hl], ha, n0, e, x⟩
    · obtain ⟨b, vs, f1, f⟩ := R.own j ys e1
      exact ⟨b, vs, by rw [List.getElem?_set_ne hj]; exact f1, f⟩
  · rcases key e1 with ⟨rfl, z, hl⟩ | ⟨hj, e1⟩ <;> rcases key e2 with ⟨rfl, z', hl'⟩ | ⟨hk, e2⟩
    · rfl
    · exfalso
      have hl : i < σ.length := by rw [R.len]; exact hl
      rw [List.getElem?_set_self hl] at e3
      cases e3
      rw [List.getElem?_set_ne hk] at e4
      exact no l zs e2 e4
    · exfalso
      have hl : i < σ.length := by rw [R.len]; exact hl'
      rw [List.getElem?_set_self hl] at e4
      cases e4
      rw [List.getElem?_set_ne hj] at e3
      exact no j ys e1 e3
    · rw [List.getElem?_set_ne hj] at e3
      rw [List.getElem?_set_ne hk] at e4
      exact R.sep j l b ys zs e1 e2 e3 e4
/-- all of them are stored, one after the other -/
def setAll (σ : L2.St) : List (Nat × Bool) → List V → L2.St
  | (i, _) :: ts, v :: vs => setAll (σ.set i (some v)) ts vs
  | _, _ => σ
/-- what may change is put into a slot -/
theorem Rep.putM (R : Rep G A₀ W₀ A σ W ⟨sl, n⟩) (i : Nat) {p : Addr} {o : HO} {z : Slot} (ha : A p) (n0 : ¬ A₀ p) (e : W.H p = some o) (hz : z.ad = some p) (me : Mean G A W o z) : Rep G A₀ W₀ A (σ.set i (some (.ref p))) W ⟨sl.set i z, n⟩ := by
  have oth : ∀ {j : Nat} {y : Slot}, y ≠ z → (sl.set i z)[j]? = some y → i ≠ j ∧ sl[j]? = some y := fun h e => set_other e h
  refine ⟨R.b0, by simp [R.len], R.strm, R.tabs, R.ain, R.aup, R.aold, R.ext, R.iot, fun j d e1 => ?_, fun j xs e1 => ?_, fun j l b us zs e1 e2 e3 e4 => ?_, fun j g k e1 => ?_, fun j y q e1 hq => ?_⟩
  · obtain ⟨hj, e2⟩ := oth (Ne.symm (ad_ne hz rfl)) e1
    rw [List.getElem?_set_ne hj]
    exact R.val j d e2
  · obtain ⟨hj, e2⟩ := oth (Ne.symm (ad_ne hz rfl)) e1
    rw [List.getElem?_set_ne hj]
    exact R.own j xs e2
  · obtain ⟨hj, e1⟩ := oth (Ne.symm (ad_ne hz rfl)) e1
    obtain ⟨hl, e2⟩ := oth (Ne.symm (ad_ne hz rfl)) e2
    rw [List.getElem?_set_ne hj] at e3
    rw [List.getElem?_set_ne hl] at e4
    exact R.sep j l b us zs e1 e2 e3 e4
  · obtain ⟨hj, e2⟩ := oth (Ne.symm (ad_ne hz rfl)) e1
    rw [List.getElem?_set_ne hj]
    exact R.clo j g k e2
  · have e1 : (sl.set i z)[j]? = some y := e1
    by_cases hj : i = j
    · subst hj
      have hi : i < (sl.set i z).length := (List.getElem?_eq_some_iff.mp e1).1
      rw [List.length_set] at hi
      rw [List.getElem?_set_self hi] at e1
      cases e1
      rw [hz] at hq
      cases hq
      have hi : i < σ.length := by rw [R.len]; exact hi
      exact ⟨o, by rw [List.getElem?_set_self hi], ha, n0, e, me⟩
    · rw [List.getElem?_set_ne hj] at e1
      rw [List.getElem?_set_ne hj]
      exact R.slf j y q e1 hq
theorem par_ok {σ₀ : L2.St} {sl₀ : Sl} : ∀ {ts : List (Nat × Bool)} {P : List Addr} {vs : List V} {ds : List D} {σ : L2.St} {sl : Sl} {k : Sl → Prop}, PAt G A₀ A W σ₀ sl₀ P ts vs ds → Rep G A₀ W₀ A σ W ⟨sl, n⟩ →
    (∀ (j : Nat) (ys : List D) (b : Addr), sl[j]? = some (.own ys) → σ[j]? = some (some (.ref b)) → b ∈ P ∨ ∃ (j' : Nat) (ys' : List D), sl₀[j']? = some (.own ys') ∧ σ₀[j']? = some (some (.ref b))) →
    (∀ (j : Nat) (y : Slot) (b : Addr), sl[j]? = some y → y.ad = some b → b ∈ P ∨ ∃ y' ∈ sl₀, y'.ad = some b) →
    wPar ts ds sl k → ∃ sl', Rep G A₀ W₀ A (setAll σ ts vs) W ⟨sl', n⟩ ∧ k sl'
  | _, _, _, _, σ, sl, k, .nil, R, _, _, w => ⟨sl, R, w⟩
  | (i, false) :: ts, P, v :: vs, d :: ds, σ, sl, k, .val h t, R, inv, iad, w => par_ok (ts := ts) t (R.put i h) (fun j ys b e1 e2 => by
      rw [List.getElem?_set] at e1
      by_cases hj : i = j
      · subst hj
        rw [if_pos rfl] at e1
        split at e1 <;> simp at e1
      · rw [if_neg hj] at e1
        rw [List.getElem?_set_ne hj] at e2
        exact inv j ys b e1 e2) (fun j y b e1 hb => iad j y b (set_other e1 (ad_ne hb rfl)).2 hb) w
  | (i, true) :: ts, P, _ :: vs, _ :: ds, σ, sl, k, .own (a := a) ha n0 e x no np t, R, inv, iad, w => par_ok (ts := ts) t (R.putA i ha n0 e x (fun j ys e1 e2 => by
      rcases inv j ys a e1 e2 with h | ⟨j', ys', f1, f2⟩
      · exact np h
      · exact no j' ys' f1 f2)) (fun j ys b e1 e2 => by
      rw [List.getElem?_set] at e1
      by_cases hj : i = j
      · subst hj
        rw [if_pos rfl] at e1
        split at e1
        · rename_i hl
          have hl : i < σ.length := by rw [R.len]; exact hl
          rw [List.getElem?_set_self hl] at e2
          cases e2
          exact .inl List.mem_cons_self
        · cases e1
      · rw [if_neg hj] at e1
        rw [List.getElem?_set_ne hj] at e2
        rcases inv j ys b e1 e2 with h | h
        · exact .inl (List.mem_cons_of_mem _ h)
        · exact .inr h) (fun j y b e1 hb => (iad j y b (set_other e1 (ad_ne hb rfl)).2 hb).imp (List.mem_cons_of_mem _) id) w
  | (i, true) :: ts, P, _ :: vs, _ :: ds, σ, sl, k, .dic (a := a) (kvs := kvs) ha n0 e me na np t, R, inv, iad, w => by
    have na' : noAd sl a := fun z hz ez => by
      obtain ⟨j, hj⟩ := List.getElem?_of_mem hz
      rcases iad j z a hj ez with h | ⟨y', h1, h2⟩
      · exact np h
      · exact na y' h1 h2
    refine par_ok (ts := ts) t (R.putM i (z := .dic a (.dK kvs)) ha n0 e rfl me) (fun j ys b e1 e2 => ?_) (fun j y b e1 hb => ?_) (w a na')
    · obtain ⟨hj, e1⟩ := set_other e1 (fun z => nomatch z)
      rw [List.getElem?_set_ne hj] at e2
      rcases inv j ys b e1 e2 with h | h
      · exact .inl (List.mem_cons_of_mem _ h)
      · exact .inr h
    · rw [List.getElem?_set] at e1
      by_cases hj : i = j
      · subst hj
        rw [if_pos rfl] at e1
        split at e1
        · cases e1
          cases hb
          exact .inl List.mem_cons_self
        · cases e1
      · rw [if_neg hj] at e1
        exact (iad j y b e1 hb).imp (List.mem_cons_of_mem _) id
  | (i, true) :: ts, P, v :: vs, d :: ds, σ, sl, k, .bad h h2 _, R, inv, iad, w => by
    exfalso
    cases d with
    | lst j xs =>
      cases j with
      | zero => exact h xs rfl
      | succ j => exact w
    | dK kvs => exact h2 kvs rfl
    | _ => exact w
theorem exists_noAd (sl : Sl) : ∃ a, noAd sl a := by
  have key : ∀ l : Sl, ∃ m : Nat, ∀ z ∈ l, ∀ b, z.ad = some b → b < m := by
    intro l
    induction l with
    | nil => exact ⟨0, fun z h => nomatch h⟩
    | cons y l ih =>
      obtain ⟨m, hm⟩ := ih
      cases hy : y.ad with
      | none => exact ⟨m, fun z hz b hb => by
          rcases List.mem_cons.mp hz with rfl | hz
          · rw [hy] at hb; cases hb
          · exact hm z hz b hb⟩
      | some c => exact ⟨m + c + 1, fun z hz b hb => by
          rcases List.mem_cons.mp hz with rfl | hz
          · rw [hy] at hb; cases hb; exact Nat.lt_succ_of_le (Nat.le_add_left _ _)
          · exact Nat.lt_of_lt_of_le (hm z hz b hb) (Nat.le_trans (Nat.le_add_right _ _) (Nat.le_succ _))⟩
  obtain ⟨m, hm⟩ := key sl
  exact ⟨m, fun z hz e => Nat.lt_irrefl _ (hm z hz m e)⟩
theorem wPar_len : ∀ {ts : List (Nat × Bool)} {ds : List D} {sl : Sl} {k : Sl → Prop}, wPar ts ds sl k → ds.length = ts.length
  | [], [], _, _, _ => rfl
  | [], _ :: _, _, _, h => False.elim h
  | (_, false) :: _, [], _, _, h => False.elim h
  | (_, true) :: _, [], _, _, h => False.elim h
  | (i, false) :: ts, d :: ds, sl, k, h => by
    show ds.length + 1 = ts.length + 1
    rw [wPar_len (ts := ts) h]
  | (i, true) :: ts, d :: ds, sl, k, h => by
    cases d with
    | lst j xs =>
      cases j with
      | zero =>
        show ds.length + 1 = ts.length + 1
        rw [wPar_len (ts := ts) h]
      | succ j => exact False.elim h
    | dK kvs =>
      show ds.length + 1 = ts.length + 1
      rw [wPar_len (ts := ts) (h (Classical.choose (exists_noAd sl)) (Classical.choose_spec (exists_noAd sl)))]
    | _ => exact False.elim h
theorem par_rd {ts : List (Nat × Bool)} {xs : X} {Ks : Ends} {σ : L2.St} {H : Hp} (h : rdS M Wx (.par ts xs) Ks σ H) : rdP M Wx ts xs σ H fun vs H1 => vs.length = ts.length ∧ Ks.nx (setAll σ ts vs) H1 := by
  obtain ⟨A₀, W₀, A, W, ⟨sl, n⟩, E, Kd, e, R, Xs, hw, k⟩ := h
  subst e
  refine ⟨A₀, W₀, A, W, sl, n, E, _, [], rfl, R, Xs, (fun a ha => by cases ha), hw, fun vs ds A' W' n' s' f' g' R' p' q' => ?_⟩
  obtain ⟨sl', R2, q2⟩ := par_ok p' R' (fun j ys b e1 e2 => .inr ⟨j, ys, e1, e2⟩) (fun j y b e1 hb => .inr ⟨y, List.mem_of_getElem? e1, hb⟩) q'
  exact ⟨p'.len.trans (wPar_len q'), k.nx A' _ W' _ R2 s' q2⟩
end
end Q
/-! Q layer, part b: an instance that is being made gets its fields. -/
namespace Q
open PySem PySem.Spec L2
section
variable {c : Cx} {M : Pm} {Wx : WX} {pos : Pos} {G : Gb} {A₀ A A1 A' : Addr → Prop} {W₀ W W' W1 W2 : Wd} {σ : L2.St} {sl : Sl} {n : Nat}
/-- what may change changes -/
theorem Rep.mutAt (R : Rep G A₀ W₀ A σ W ⟨sl, n⟩) {i : Nat} {z z' : Slot} {p : Addr} {o o' : HO} (e : sl[i]? = some z) (hz : z.ad = some p) (hs : σ[i]? = some (some (.ref p))) (ha : A p) (n0 : ¬ A₀ p)
    (eh : W.H p = some o) (mo : MutO o) (hz' : z'.ad = some p) (me : Mean G A W o' z') (no : noAd (sl.set i .un) p) :
    Rep G A₀ W₀ A σ ⟨W.iot, upd W.H p o'⟩ ⟨sl.set i z', n⟩ ∧ Stp A W A ⟨W.iot, upd W.H p o'⟩ := by
  have st := stp_mut (W := W) (o := o') R.b0 R.iot ha n0
  have na : Non W₀.H p := (R.aold p ha).resolve_left n0
  have kp : ∀ y u, W.H y = some u → y ≠ p → upd W.H p o' y = some u := fun y u e1 e2 => by rw [upd_ne e2]; exact e1
  have hi : i < sl.length := (List.getElem?_eq_some_iff.mp e).1
  have oth : ∀ {j : Nat} {y : Slot}, y ≠ z' → (sl.set i z')[j]? = some y → i ≠ j ∧ sl[j]? = some y := fun h e => set_other e h
  refine ⟨⟨R.b0, by simp [R.len], strm_upd R.strm (fun z => n0 (z ▸ R.b0.st)) (fun z => n0 (z ▸ R.b0.inn)), tabs_ins R.tabs eh mo, fun y hy => ?_, R.aup, R.aold, ⟨fun y u e1 t => ?_, fun y u e1 e2 e3 t => ?_⟩, R.iot, fun j d e1 => ?_, fun j xs e1 => ?_,
    fun j l b us zs e1 e2 e3 e4 => ?_, fun j g k e1 => R.clo j g k (oth (Ne.symm (ad_ne hz' rfl)) e1).2, fun j y q e1 hq => ?_⟩, st⟩
  · by_cases h : y = p
    · subst h
      exact ⟨_, upd_same, me.mut.ntbl⟩
    · obtain ⟨o, e1, t⟩ := R.ain y hy
      exact ⟨o, kp y o e1 h, t⟩
  · have hx : y ≠ p := na.ne e1 t
    obtain ⟨o, e2, t2⟩ := R.ext.there y u e1 t
    exact ⟨o, kp y o e2 hx, t2⟩
  · have hx : y ≠ p := na.ne e1 t
    obtain ⟨k1, k2⟩ := R.ext.keep y u e1 e2 e3 t
    refine ⟨fun h => kp y u (k1 h) hx, ?_⟩
    show Kp u (upd W.H p _ y)
    rw [upd_ne hx]
    exact k2
  · obtain ⟨v, f1, f2⟩ := R.val j d (oth (Ne.symm (ad_ne hz' rfl)) e1).2
    exact ⟨v, f1, f2.stp st⟩
  · obtain ⟨b, us, f1, f2, f3, f4, f5⟩ := R.own j xs (oth (Ne.symm (ad_ne hz' rfl)) e1).2
    exact ⟨b, us, f1, f2, f3, kp b _ f4 (fun z => by rw [z, eh] at f4; exact mo.nlst _ (Option.some.inj f4)), f5.stp st⟩
  · exact R.sep j l b us zs (oth (Ne.symm (ad_ne hz' rfl)) e1).2 (oth (Ne.symm (ad_ne hz' rfl)) e2).2 e3 e4
  · have e1 : (sl.set i z')[j]? = some y := e1
    by_cases hj : i = j
    · subst hj
      rw [List.getElem?_set_self hi] at e1
      cases e1
      rw [hz'] at hq
      cases hq
      exact ⟨o', hs, ha, n0, upd_same, me.stp st⟩
    · have e2 : sl[j]? = some y := by
        rw [List.getElem?_set_ne hj] at e1
        exact e1
      have hqp : q ≠ p := fun z => by
        have hm : (sl.set i .un)[j]? = some y := by
          rw [List.getElem?_set_ne hj]
          exact e2
        exact no y (List.mem_of_getElem? hm) (z ▸ hq)
      obtain ⟨u, f1, f2, f3, f4, f5⟩ := R.slf j y q e2 hq
      exact ⟨u, f1, f2, f3, kp q u f4 hqp, f5.stp st⟩
theorem putF_new {f : Str} {v : V} : ∀ {fs : List (Str × V)}, f ∉ fs.map Prod.fst → putF f v fs = fs ++ [(f, v)]
  | [], _ => rfl
  | (g, x) :: r, h => by
    rw [List.map_cons, List.mem_cons, not_or] at h
    show (if g = f then (g, v) :: r else (g, x) :: putF f v r) = _
    rw [if_neg (Ne.symm h.1), putF_new h.2]
    rfl
theorem slf_rd (g : Good c M Wx) {k f : Nat} {x : X} {nm : Str} {Ks : Ends} {σ : L2.St} {H : Hp} (hf : (M.G.nm k)[f]? = some nm) (nb : x.isBor = false) (h : rdS M Wx (.slf k f x) Ks σ H) : sFld c.K (tVar 0) (rdX M Wx x) nm Ks σ H := by
  obtain ⟨A₀, W₀, A, W, ⟨sl, n⟩, E, Kd, e, R, Xs, hw, kk⟩ := h
  subst e
  show rdX M Wx x σ W.H _
  refine rdX_of (K := Ks) R Xs hw fun v d W' n' S R' s' r q => ?_
  unfold slfW at q
  split at q
  case h_2 => exact q.elim
  rename_i k' p ds e
  obtain ⟨rfl, hl, no, q⟩ := q
  obtain ⟨o, z1, z2, z3, z4, dx, fs, rfl, z5, z6, z7, z8⟩ := R'.slf 0 _ p e rfl
  have hx := r.2.1 nb
  have cl := g.fx.cls k' z8
  have hfl : f < (M.G.nm k').length := (List.getElem?_eq_some_iff.mp hf).1
  have hno : nm ∉ fs.map Prod.fst := by
    rw [z5, hl]
    intro hm
    obtain ⟨i, hi, ei⟩ := List.mem_take_iff_getElem.mp hm
    exact List.pairwise_iff_getElem.mp cl.nd i f (by omega) hfl (by omega) (by rw [ei]; exact (List.getElem?_eq_some_iff.mp hf).2.symm)
  have hfs : fs.length = ds.length := by
    have := z7.length
    simpa using this
  have hx2 : Ats M.G A W' ((fs ++ [(nm, v)]).map Prod.snd) (ds ++ [d]) := by
    rw [List.map_append]
    exact z7.append (.cons hx .nil)
  have hk : (fs ++ [(nm, v)]).map Prod.fst = (M.G.nm k').take (ds ++ [d]).length := by
    rw [List.map_append, z5, List.length_append, List.length_singleton, List.take_add_one, hl, hf]
    rfl
  obtain ⟨R2, s2⟩ := R'.mutAt (o' := .ins (M.G.kap k') dx (fs ++ [(nm, v)])) (z' := .slf k' p (ds ++ [d])) e rfl z1 z2 z3 z4 (.inl ⟨_, _, _, rfl⟩) rfl ⟨dx, _, rfl, hk, by rw [List.length_append, List.length_singleton]; omega, hx2, z8⟩ no
  refine ⟨_, z1, p, _, dx, fs, rfl, z4, cl.cls, cl.noat nm (List.mem_of_getElem? hf), ?_, ?_⟩
  · rw [hfs, hl]
    have := g.fx.few k' z8
    omega
  · rw [putF_new hno]
    exact kk.nx A σ _ _ R2 (s'.trans s2) q
end
end Q
/-! Q layer, part n: dicts of our own are made, written, given away. -/
namespace Q
open PySem PySem.Spec L2
section
variable {c : Cx} {M : Pm} {Wx : WX} {pos : Pos} {G : Gb} {A₀ A : Addr → Prop} {W₀ W : Wd} {σ : L2.St} {sl : Sl} {n : Nat}
/-- a new dict -/
def tNewD (t : Bool) : TE := fun _ H Q => ∀ p, H p = none → Q (.ref p) (upd H p (if t = true then .dT [] else .dK []))
theorem pe_newD (t : Bool) : PE c (.Dict [] [] pos) (tNewD t) := by
  cases t
  · exact pe_dnewK
  · exact pe_dnewT
theorem mean_nil {t : Bool} {p : Addr} : Mean G A W (if t = true then .dT [] else .dK []) (.dic p (if t = true then .dT [] else .dK [])) := by
  cases t
  · exact ⟨[], rfl, rfl, .nil⟩
  · exact ⟨[], rfl, rfl, .nil⟩
theorem asgD_rd {i : Nat} {t : Bool} {Ks : Ends} {σ : L2.St} {H : Hp} (h : rdS M Wx (.asgD i t) Ks σ H) : tNewD t σ H fun v H1 => gName i v σ H1 Ks.nx := by
  obtain ⟨A₀, W₀, A, W, ⟨sl, n⟩, E, Kd, e, R, Xs, hw, k⟩ := h
  subst e
  intro p np
  have to : NTbl (if t = true then HO.dT [] else HO.dK []) := by
    cases t
    · exact fun _ z => nomatch z
    · exact fun _ z => nomatch z
  have n0 : ¬ A₀ p := fun z => by
    obtain ⟨o, e, _⟩ := R.ain p (R.aup p z)
    rw [np] at e
    cases e
  have na : noAd sl p := fun z hz ez => by
    obtain ⟨j, hj⟩ := List.getElem?_of_mem hz
    obtain ⟨o, _, _, _, e4, _⟩ := R.slf j z p hj ez
    rw [np] at e4
    cases e4
  have R1 := R.moreO to np
  have st : Stp A W (fun a => A a ∨ a = p) ⟨W.iot, upd W.H p (if t = true then HO.dT [] else HO.dK [])⟩ := (Stp.more np).trans (Stp.lay np)
  exact k.nx _ _ ⟨W.iot, upd W.H p (if t = true then HO.dT [] else HO.dK [])⟩ _ (R1.putM i (z := .dic p (if t = true then .dT [] else .dK [])) (.inr rfl) n0 upd_same rfl mean_nil) st (hw p na)
/-- a new dict of any expression -/
theorem asgX_rd {i : Nat} {x : X} {Ks : Ends} {σ : L2.St} {H : Hp} (fr : x.fresh = true) (h : rdS M Wx (.asgX i x) Ks σ H) : rdX M Wx x σ H fun v H1 => gName i v σ H1 Ks.nx := by
  obtain ⟨A₀, W₀, A, W, ⟨sl, n⟩, E, Kd, e, R, Xs, hw, k⟩ := h
  subst e
  refine rdX_of (K := Ks) R Xs hw fun v d W' n' S R' s' r q => ?_
  split at q
  · rename_i kvs
    obtain ⟨p, o, rfl, np, ep, me⟩ := (r.2.2 fr).2 rfl
    have n0 : ¬ A₀ p := fun z => by
      obtain ⟨o, e, t⟩ := R.ain p (R.aup p z)
      exact np.ne e t rfl
    have na : noAd sl p := fun z hz ez => by
      obtain ⟨j, hj⟩ := List.getElem?_of_mem hz
      obtain ⟨o, _, e2, _, e4, e5⟩ := R.slf j z p hj ez
      exact np.ne e4 e5.mut.ntbl rfl
    obtain ⟨R3, s2⟩ := R.adopt S np ep me.mut.ntbl
    exact k.nx _ _ W' _ (R3.putM i (z := .dic p (.dK kvs)) (.inr rfl) n0 ep rfl me) s2 (q p na)
  · exact q.elim
/-- a list of our own is told -/
theorem ss_retO {i : Nat} {s : Str} {p : Pos} (hn : nmB c.N c.env.scope i s = true) : PS c (.Return (some (.Name s p)) pos) (rdS M Wx (.retO i)) := by
  obtain ⟨h1, h2, h3, h4⟩ := nm_ok hn
  refine PS.imp (ps_ret (pe_var (i := i) h1 h2 h3 h4)) fun K σ H ⟨A₀, W₀, A, W, ⟨sl, n⟩, E, Kd, e, R, Xs, hw, k⟩ => ?_
  subst e
  obtain ⟨xs, e, hw⟩ := lookO_some hw
  obtain ⟨a, vs, h1, h2, h3, h4, h5⟩ := R.ownAt e
  have R1 := R.cut i
  have R2 : Rep M.G A₀ W₀ (fun b => A b ∧ b ≠ a) (σ.set i none) W ⟨sl.set i .un, n⟩ := R1.less (fun b hb => hb.1) (fun b hb => ⟨R.aup b hb, fun z => h3 (z ▸ hb)⟩) (fun j ys b e1 e2 => by
    obtain ⟨hj, e1⟩ := set_other e1 (fun z => nomatch z)
    rw [List.getElem?_set_ne hj] at e2
    obtain ⟨b', us, f1, f2, _⟩ := R.own j ys e1
    rw [f1] at e2
    cases e2
    exact ⟨f2, fun z => hj (R.sep i j a xs ys e e1 h1 (z ▸ f1))⟩) fun j z q e1 hz => by
    obtain ⟨o, _, k1, _, k3, k4⟩ := R.slf j z q (set_other e1 (ad_ne hz rfl)).2 hz
    exact ⟨k1, fun z => by rw [z, h4] at k3; exact k4.mut.nlst _ (Option.some.inj k3).symm⟩
  have s : Stp A W (fun b => A b ∧ b ≠ a) W := .less fun b hb => hb.1
  have at' : At M.G (fun b => A b ∧ b ≠ a) W (.ref a) (.lst 0 xs) := .lst h4 (fun z => z.2 rfl) (h5.stp s)
  refine ⟨_, h1, k.rt _ _ _ _ W _ n R2 at' (fun _ => ⟨fun j ys e2 => ?_, fun z => nomatch z⟩) hw⟩
  cases e2
  refine ⟨a, vs, rfl, (R.aold a h2).resolve_left h3, h4, h5.stp (.less fun b hb => ?_)⟩
  rcases hb with hb | rfl
  · exact R.aup b hb
  · exact h2
/-- a key is written -/
theorem pt_put {p z : Addr} {o : HO} {u k d : D} {v x : V} {Q : D → Prop} (e : W.H p = some o) (me : Mean G A W o (.dic z u)) (hv : At G A W v k) (hx : At G A W x d) (h : ptW u k d Q) :
    ∃ o' u', DPut W.H p v x (upd W.H p o') ∧ Mean G A W o' (.dic z u') ∧ Q u' := by
  have lt : ∀ {kap : Type} {kvs : List (kap × V)} {xs : List (kap × D)}, kvs.map Prod.fst = xs.map Prod.fst → xs.length < sizeMax → kvs.length < sizeLine := fun {kap kvs xs} e h => by
    have := congrArg List.length e
    rw [List.length_map, List.length_map] at this
    rw [this]
    exact Nat.lt_trans h smax_lt
  unfold ptW at h
  cases u with
  | dK xs =>
    obtain ⟨key, hk, hl, q⟩ := h
    obtain ⟨kvs, rfl, e2, e3⟩ := me
    obtain ⟨p1, p2⟩ := put_ats (k := key) e2 e3 hx
    refine ⟨.dK (putK kvs key x), .dK (setK xs key d), ?_, ⟨_, rfl, p1, p2⟩, q⟩
    rw [at_key hv hk]
    exact .k e (lt e2 hl)
  | dT xs =>
    cases k with
    | tup ds =>
      obtain ⟨ks, hk, hl, q⟩ := h
      obtain ⟨kvs, rfl, e2, e3⟩ := me
      obtain ⟨b, vs, rfl, hb, ht⟩ := hv.ist
      obtain ⟨p1, p2⟩ := put_ats (k := ks) e2 e3 hx
      refine ⟨.dT (putK kvs ks x), .dT (setK xs ks d), ?_, ⟨_, rfl, p1, p2⟩, q⟩
      rw [ats_keys ht hk] at hb
      exact .t e hb (lt e2 hl)
    | _ => exact False.elim h
  | _ => exact False.elim h
theorem setD_rd {i : Nat} {x kx : X} {Ks : Ends} {σ : L2.St} {H : Hp} (nb : x.isBor = false) (nk : kx.isBor = false) (h : rdS M Wx (.setD i kx x) Ks σ H) : rdX M Wx x σ H fun v H1 => gSub (tVar i) (rdX M Wx kx) rSetD v σ H1 Ks.nx := by
  obtain ⟨A₀, W₀, A, W, ⟨sl, n⟩, E, Kd, e, R, Xs, hw, k⟩ := h
  subst e
  refine rdX_of (K := Ks) R Xs hw fun v d W' n' S R' s' r q => ?_
  obtain ⟨p, u, e, q⟩ := lookD_some q
  obtain ⟨o, h1, h2, h3, h4, h5⟩ := R'.slf i _ p e rfl
  refine ⟨_, h1, ?_⟩
  refine rdX_of (K := Ks) R' Xs q fun y dy W2 n2 S2 R2 s2 r2 q2 => ?_
  obtain ⟨o2, f1, f2, f3, f4, f5⟩ := R2.slf i _ p e rfl
  obtain ⟨o', u', g1, g2, no, q3⟩ := pt_put f4 f5 (r2.2.1 nk) ((r.2.1 nb).stp s2) q2
  obtain ⟨R3, s3⟩ := R2.mutAt e rfl f1 f2 f3 f4 f5.mut (z' := .dic p u') rfl g2 no
  show ∃ a H', V.ref p = .ref a ∧ DPut W2.H a y v H' ∧ Ks.nx σ H'
  exact ⟨p, _, rfl, g1, k.nx A σ _ _ R3 ((s'.trans s2).trans s3) q3⟩
/-- a dict of ours is given away -/
theorem ss_frzD {i : Nat} {r : S} {sts : List Stmt} (h : PSs c sts (rdS M Wx r)) : PSs c sts (rdS M Wx (.sq (.frzD i) r)) := by
  refine PSs.imp h fun K σ H ⟨A₀, W₀, A, W, ⟨sl, n⟩, E, Kd, e, R, Xs, hw, k⟩ => ?_
  subst e
  obtain ⟨p, u, e, no, hw⟩ := lookD_some hw
  obtain ⟨o, h1, h2, h3, h4, h5⟩ := R.slf i _ p e rfl
  have hi : i < sl.length := (List.getElem?_eq_some_iff.mp e).1
  have R1 := R.cut i
  have R2 : Rep M.G A₀ W₀ (fun b => A b ∧ b ≠ p) (σ.set i none) W ⟨sl.set i .un, n⟩ := R1.less (fun b hb => hb.1) (fun b hb => ⟨R.aup b hb, fun z => h3 (z ▸ hb)⟩) (fun j ys b e1 e2 => by
    obtain ⟨b', us, f1, f2, f3, f4, _⟩ := R1.own j ys e1
    rw [f1] at e2
    cases e2
    exact ⟨f2, fun z => by rw [z, h4] at f4; exact h5.mut.nlst _ (Option.some.inj f4)⟩) fun j z q e1 hz => by
    obtain ⟨o2, _, k1, _, k3, k4⟩ := R1.slf j z q e1 hz
    exact ⟨k1, fun ez => no z (List.mem_of_getElem? e1) (ez ▸ hz)⟩
  have s : Stp A W (fun b => A b ∧ b ≠ p) W := .less fun b hb => hb.1
  have at' : At M.G (fun b => A b ∧ b ≠ p) W (.ref p) u := by
    cases u with
    | dK xs =>
      obtain ⟨kvs, rfl, e2, e3⟩ := h5
      exact .dK (.inl h4) (fun z => z.2 rfl) e2 (e3.stp s)
    | dT xs =>
      obtain ⟨kvs, rfl, e2, e3⟩ := h5
      exact .dT (.inl h4) (fun z => z.2 rfl) e2 (e3.stp s)
    | _ => exact h5.elim
  have R3 := R2.put i at'
  have es : (σ.set i none).set i (some (.ref p)) = σ := by
    rw [List.set_set]
    apply List.ext_getElem?
    intro j
    by_cases hj : i = j
    · subst hj
      have : i < σ.length := by rw [R.len]; exact hi
      rw [List.getElem?_set_self this]
      exact h1.symm
    · rw [List.getElem?_set_ne hj]
  have el : (sl.set i .un).set i (.val u) = sl.set i (.val u) := List.set_set ..
  rw [es, el] at R3
  exact ⟨A₀, W₀, _, W, _, E, Kd, rfl, R3, Xs, hw, k.stp s⟩
end
end Q
/-! Q layer, part c: own exceptions of one field are made and raised. -/
namespace Q
open PySem PySem.Spec L2
section
variable {c : Cx} {M : Pm} {Wx : WX} {pos : Pos}
theorem rai_rd {k : Nat} {f : Str} {x : X} (hk : k ∈ M.G.xc) {D : Ends} {σ : L2.St} {H : Hp} (nb : x.isBor = false) (hn : M.G.nm k = [f]) (h : rdS M Wx (.rai k (.cons x .nil)) D σ H) :
    tMkO (M.G.kap k) (spX (M.G.kap k) f) [] (tCons (rdX M Wx x) tNil) σ H fun cls d H' => Wx cls d σ H' := by
  obtain ⟨A₀, W₀, A, W, ⟨sl, n⟩, E, Kd, e, R, Xs, hw, kk⟩ := h
  subst e
  show rdX M Wx x σ W.H fun v H1 => _
  refine rdX_of (K := D) R Xs hw fun v d W' n' S R' s' r q => ?_
  refine ⟨by show 1 ≤ 1000; decide, fun a na => ⟨a, v, rfl, upd_same, fun dx nx ne => ⟨rfl, dx, [(f, v)], upd_same, by rw [upd_ne ne]; exact upd_same, ?_, ?_⟩⟩⟩
  · rw [upd_ne ne] at nx
    exact nx
  · rw [upd_ne ne] at nx
    have he : upd (del (upd (upd (upd W'.H a (exo a (M.G.kap k) none)) dx (exd dx [(f, v)])) a (exo a (M.G.kap k) (some dx))) a) dx (.xd [(f, v)]) = upd W'.H dx (.xd [(f, v)]) := by
      funext b
      by_cases h1 : b = dx
      · subst h1
        rw [upd_same, upd_same]
      · rw [upd_ne h1, upd_ne h1]
        by_cases h2 : b = a
        · subst h2
          rw [del_same, na]
        · rw [del_ne h2, upd_ne h2, upd_ne h1, upd_ne h2]
    rw [he]
    have R2 := R'.ste (Ste.lay (o := .xd [(f, v)]) R'.strm R'.tabs nx)
    refine Xs A σ _ _ ⟨k, [d]⟩ (.ref (M.G.kap k)) (some dx) R2 ⟨rfl, hk, .inr ⟨dx, [v], rfl, ?_, ?_, ?_⟩⟩ q
    · show upd W'.H dx _ dx = _
      rw [upd_same, hn]
      rfl
    · rw [hn]
      rfl
    · exact .cons ((r.2.1 nb).stp (Stp.lay nx)) .nil
theorem ss_rai (g : Good c M Wx) {k : Nat} {f : Str} {x : X} {e : Expr} {p p2 : Pos} (hk : k ∈ M.G.xc) (nb : x.isBor = false) (hn : M.G.nm k = [f]) (F : XcF c.prog c.w c.K c.mg c.base M.k (M.G.kap k) (M.G.cn k) f)
    (hg : Gl c (M.G.cn k)) (hd : (M.G.cn k == ("__debug__" : Str)) = false) (ns : starEach [e] c.env = (false, eval e c.env) :: starEach [] c.env) (h : PE c e (rdX M Wx x)) :
    PS c (.Raise (some (.Call (.Name (M.G.cn k) p) [e] [] p2)) none pos) (rdS M Wx (.rai k (.cons x .nil))) := by
  obtain ⟨gI, fd, par, j, h1, h2, h3, h4, h5⟩ := F.ini
  exact PS.imp (ps_raise g.calm g.tk (pmk_oex (ds := []) (dvs := []) F.oex h1 h2 h4 (g.rm.mono h3) h5 .nil passL hg F.mgc (pa_cons h pa_nil ns) hd ns rfl)) fun K σ H q => rai_rd hk nb hn q
end
end Q
/-! Q layer, part e: try with several clauses, named or not, whose suites return. -/
namespace Q
open PySem PySem.Spec L2
abbrev TSu := Addr → Value → Option Addr → TS
def onlyRt (D : Ends) : Ends := { nx := fun _ _ => False, rt := D.rt, bk := fun _ _ => False, ct := fun _ _ => False }
def atAs (i : Option Nat) (σ : L2.St) (a : Addr) : L2.St := match i with
  | some i => σ.set i (some (.ref a))
  | none => σ
/-- what the clauses wish of an exception -/
def wMA (K : PySem.W.Frag) (Wout : WX) (D : Ends) : List (Value × Option Nat × TSu) → WX
  | [] => Wout
  | (c, i, ts) :: r => fun cls d σ H => ∃ b, PySem.W.exmOne K cls c = some b ∧ (b = true → ∀ a, H a = none → ts a cls d (onlyRt D) (atAs i σ a) H) ∧ (b = false → wMA K Wout D r cls d σ H)
inductive HdsA (X : Cx) : List ExceptHandler → List (Value × Option Nat × TSu) → Prop
  | nil : HdsA X [] []
  | as {x n : Str} {c : Value} {i : Nat} {ts : TSu} {b₀ : Stmt} {suite : List Stmt} {np pos' : Pos} {hds : List ExceptHandler} {l : List (Value × Option Nat × TSu)} (hc : Names X x c) (hi : X.N[i]? = some n) (hln : X.env.kindOf n = some .local)
      (hsu : ∀ (a : Addr) (oe : Obj) (cls : Value) (d : Option Addr) (pn : List (Addr × Obj)), Zc cls d oe → (∃ vs, oe.data = .fields vs) → PSs (X.suite a ((a, oe) :: pn)) (b₀ :: suite) (ts a cls d)) (r : HdsA X hds l) :
      HdsA X (.ExceptHandler (some (.Name x np)) (some n) (b₀ :: suite) pos' :: hds) ((c, some i, ts) :: l)
  | no {x : Str} {c : Value} {ts : TSu} {b₀ : Stmt} {suite : List Stmt} {np pos' : Pos} {hds : List ExceptHandler} {l : List (Value × Option Nat × TSu)} (hc : Names X x c)
      (hsu : ∀ (a : Addr) (oe : Obj) (cls : Value) (d : Option Addr) (pn : List (Addr × Obj)), Zc cls d oe → (∃ vs, oe.data = .fields vs) → PSs (X.suite a ((a, oe) :: pn)) (b₀ :: suite) (ts a cls d)) (r : HdsA X hds l) :
      HdsA X (.ExceptHandler (some (.Name x np)) none (b₀ :: suite) pos' :: hds) ((c, none, ts) :: l)
section
variable {X : Cx} {body : List Stmt} {h₀ : ExceptHandler} {hds : List ExceptHandler} {l : List (Value × Option Nat × TSu)} {pos : Pos} {tb : WX → TS} {Wout : WX}
theorem ps_tryA (hs : X.stack = X.env :: X.outer) (hf : X.env.frame = some X.env.locals) (hN : X.N.Nodup) (tk : Takes X Wout)
    (hb : ∀ (W : WX) (pn : List (Addr × Obj)) (xe : Value → Shared → Prop), Takes (X.tr pn xe) W → PassesOwn (model X.prog X.w) X.A X.env xe → PSs (X.tr pn xe) body (tb W))
    (hh : HdsA X (h₀ :: hds) l) : PS X (.Try body (h₀ :: hds) [] [] pos) (fun D σ H => tb (wMA X.K Wout D l) D σ H) := by
  refine ⟨fun pins s σ H D I h => ?_⟩
  have ok := I.ok
  have hfr : X.A.frames = some (X.env :: X.outer) := by rw [ok.frames, hs]
  refine wpAny_Try_except ?_
  refine wpAny_mono ((hb (wMA X.K Wout D l) (X.pn ++ pins) (fun e s₁ => wpAny (model X.prog X.w) X.A (noteFrame e X.env) (fun _ s₂ => wpAny (model X.prog X.w) X.A (setFlight e none) (fun _ s₃ =>
    wpAny (model X.prog X.w) X.A (handleBy e X.env (h₀ :: hds)) (SP X pins D) X.xe s₃) X.xe s₂) X.xe s₁) (fun u s' xx => ?_) PassesOwn.looking).run [] s σ H D (I.toTry _) h) (fun f s1 hsp => ?_) (fun e s1 he => he)
  · obtain ⟨a, B, sI, pins', σ', H', cls, d, rfl, J', nb, up, sky, na, os, ag, w⟩ := xx
    have J : Inv X pins σ' H' sI := J'.ofTry ok
    have sky' : Sky B (X.env :: X.outer) a (Zc cls d) X.env.locals s'.heap := by rw [← hs]; exact sky
    show wpAny (model X.prog X.w) X.A (noteFrame (.ref a) X.env) _ _ _
    refine Sky.land Zc.steady hfr hf sky' fun h3 fl3 up3 => ?_
    have J3 : Inv X pins σ' H' { s' with heap := h3 } := J.landed nb fl3.1 (up.trans up3) os ag
    obtain ⟨oe3, vs3, he3, hz3, hd3⟩ := fl3.there
    have notFr : ∀ {h : Heap} {o : Obj} {vs : Array Value}, h.FunFrames B (X.env :: X.outer) → h.get? a = some o → o.data = .fields vs → a ∉ frs (X.env :: X.outer) := fun {h o vs} ff e dd hm => by
      obtain ⟨_, o', e', hnf⟩ := ff.mem hm
      rw [e] at e'; cases e'
      exact hnf _ dd
    have nfr := notFr fl3.2.2.1 he3 hd3
    have nL : a ≠ X.env.locals := fun z => nfr (List.mem_filterMap.mpr ⟨X.env, List.mem_cons_self, by rw [hf, z]⟩)
    have nF : a ∉ X.fs := fun hm => by
      obtain ⟨e, he, q⟩ := List.mem_filterMap.mp hm
      exact nfr (List.mem_filterMap.mpr ⟨e, List.mem_cons_of_mem _ he, q⟩)
    have S3 := J3.suite he3 hd3 na nL nF
    have test : ∀ {x : Str} {c : Value} {np : Pos} {Q : Value → Shared → Prop} {E : Value → Shared → Prop}, Names X x c → Q c { s' with heap := h3 } → wpAny (model X.prog X.w) (X.A.mark (some (.ref a))) (eval (.Name x np) X.env) Q E { s' with heap := h3 } := fun {x c np Q E} hc q => by
      obtain ⟨hg, hdbg, hm | ⟨hm, hv, hnn⟩⟩ := hc
      · exact ld_glob (X := X.suite a ((a, oe3) :: (X.pn ++ pins))) S3 hg hm q hdbg
      · exact ld_blt (X := X.suite a ((a, oe3) :: (X.pn ++ pins))) S3 hg hm hv q hnn hdbg
    have LT : PySem.W.Looks (model X.prog X.w) h3 (typeOf (.ref a)) cls := fun A Q E s k q => wpAny_typeOf_ref (k _ _ he3) (by rw [hz3.1]; exact q)
    have go : ∀ {hds' : List ExceptHandler} {l' : List (Value × Option Nat × TSu)}, HdsA X hds' l' → wMA X.K Wout D l' cls d σ' H' →
        wpAny (model X.prog X.w) X.A (handleBy (.ref a) X.env hds') (SP X pins D) X.xe { s' with heap := h3 } := by
      intro hds' l' hk
      induction hk with
      | nil =>
        intro w
        refine wpAny_handleBy_nil ?_
        obtain ⟨k1, k2, k3, oe, vs, T, oT, ts', he, hz, hd, h1, hr⟩ := id fl3
        unfold PySem.passOn
        refine wpAny_bind (wpAny_field he hd h1 ?_)
        rw [if_neg (show ¬ ((Value.ref T == Value.none) = true) from by simp)]
        have fin : wpAny (model X.prog X.w) X.A (setFlight (.ref a) X.env.frame) (fun _ s4 => wpAny (model X.prog X.w) X.A (throw (.ref a) : Sem Flow) (SP X pins D) X.xe s4) X.xe { s' with heap := h3 } := by
          rw [hf]
          refine HandSPX.setFlight_upZ fl3 fun h4 hh4 up4 => wpAny_throw (tk _ _ ?_)
          exact ⟨a, B, sI, pins, σ', H', cls, d, rfl, J, nb, (up.trans up3).trans up4, .inr (.inr (by rw [hs]; exact hh4)), na, os, ag, w⟩
        first
          | exact wpAny_bind (wpAny_pure (wpAny_bind fin))
          | exact wpAny_bind fin
      | @as x n c i ts b₀ suite np pos' hds2 l2 hc hi hln hsu r ih =>
        intro w
        obtain ⟨b, hb1, hyes, hno⟩ := w
        refine wpAny_handleBy_cons (codeAny_handlers_test ?_) (by intro q; cases q)
        refine test hc ((PySem.W.exm_one (M := model X.prog X.w) (J3.kIn) LT hb1).here ?_)
        cases b with
        | true =>
          refine codeAny_handlers_suite_as ?_
          refine HandSPX.lands_againZ fl3 fun h4 fl4 up4 => ?_
          have J4 : Inv X pins σ' H' { s' with heap := h4 } := J.landed nb fl4.1 ((up.trans up3).trans up4) os ag
          obtain ⟨oe4, vs4, he4, hz4, hd4⟩ := fl4.there
          have S4 := J4.suite he4 hd4 na nL nF
          refine store_ok (X := X.suite a ((a, oe4) :: (X.pn ++ pins))) (v := .ref a) S4 hN hi (.inl hln) rfl (fun s5 S5 => ?_) (.inr hln)
          refine wpAny_mono ((hsu a oe4 cls d (X.pn ++ pins) hz4 ⟨_, hd4⟩).run [] s5 _ H' _ S5 (hyes rfl a na)) (fun f s6 hsp => ?_) (fun _ _ z => False.elim z)
          cases f with
          | next =>
            obtain ⟨σ6, H6, S6, q6⟩ := hsp
            exact q6.elim
          | brk =>
            obtain ⟨σ6, H6, S6, q6⟩ := hsp
            exact q6.elim
          | cont =>
            obtain ⟨σ6, H6, S6, q6⟩ := hsp
            exact q6.elim
          | ret u =>
            obtain ⟨v6, σ6, H6, S6, r6, q6⟩ := hsp
            exact gone_ok (S6.unsuite ok) hN hi hln fun s7 J7 => ⟨_, _, _, J7, r6, q6⟩
        | false =>
          show wpAny _ X.A (handleBy (.ref a) X.env hds2) _ _ _
          exact ih (hno rfl)
      | @no x c ts b₀ suite np pos' hds2 l2 hc hsu r ih =>
        intro w
        obtain ⟨b, hb1, hyes, hno⟩ := w
        refine wpAny_handleBy_cons (codeAny_handlers_test ?_) (by intro q; cases q)
        refine test hc ((PySem.W.exm_one (M := model X.prog X.w) (J3.kIn) LT hb1).here ?_)
        cases b with
        | true =>
          refine codeAny_handlers_suite ?_
          refine HandSPX.lands_againZ fl3 fun h4 fl4 up4 => ?_
          have J4 : Inv X pins σ' H' { s' with heap := h4 } := J.landed nb fl4.1 ((up.trans up3).trans up4) os ag
          obtain ⟨oe4, vs4, he4, hz4, hd4⟩ := fl4.there
          have S4 := J4.suite he4 hd4 na nL nF
          refine wpAny_mono ((hsu a oe4 cls d (X.pn ++ pins) hz4 ⟨_, hd4⟩).run [] _ _ H' _ S4 (hyes rfl a na)) (fun f s6 hsp => ?_) (fun _ _ z => False.elim z)
          cases f with
          | next =>
            obtain ⟨σ6, H6, S6, q6⟩ := hsp
            exact q6.elim
          | brk =>
            obtain ⟨σ6, H6, S6, q6⟩ := hsp
            exact q6.elim
          | cont =>
            obtain ⟨σ6, H6, S6, q6⟩ := hsp
            exact q6.elim
          | ret u =>
            obtain ⟨v6, σ6, H6, S6, r6, q6⟩ := hsp
            exact ⟨_, _, _, S6.unsuite ok, r6, q6⟩
        | false =>
          show wpAny _ X.A (handleBy (.ref a) X.env hds2) _ _ _
          exact ih (hno rfl)
    exact go hh w
  · cases f with
    | next =>
      obtain ⟨σ', H', J', q⟩ := hsp
      exact wpAny_execs_nil ⟨σ', H', J'.ofTry ok, q⟩
    | brk =>
      obtain ⟨σ', H', J', q⟩ := hsp
      exact ⟨σ', H', J'.ofTry ok, q⟩
    | cont =>
      obtain ⟨σ', H', J', q⟩ := hsp
      exact ⟨σ', H', J'.ofTry ok, q⟩
    | ret u =>
      obtain ⟨v, σ', H', J', r, q⟩ := hsp
      exact ⟨v, σ', H', J'.ofTry ok, r, q⟩
end
end Q
/-! Q layer, part f: try, over data. -/
namespace Q
open PySem PySem.Spec L2
def tHf (G : Gb) (h : Hd) (a : Addr) (cls : Value) (d : Option Addr) : TE := match h.f, h.i with
  | some f, some i => tXf a cls d (G.kap h.c) ((G.nm h.c).getD f (Str.ofString "")) (tVar i)
  | _, _ => tC .non
def tHs (G : Gb) (h : Hd) (a : Addr) (cls : Value) (d : Option Addr) : TA := match h.s with
  | some s => tCons (tC (.str s)) (tCons (tHf G h a cls d) tNil)
  | none => tCons (tHf G h a cls d) tNil
def tHd (G : Gb) (h : Hd) : TSu := fun a cls d => tRet (if h.tup = true then tTup (tHs G h a cls d) else tLst (tHs G h a cls d))
section
variable (cf : Cf) (N : List Str)
def ckF (h : Hd) (n : Option Str) (e : Expr) : Bool := match h.f, h.i, n, e with
  | some f, some _, some n, .Attribute (.Name m _) nm _ => (decide (m = n) && decide ((cf.nm h.c)[f]? = some nm)) && (!(n == ("__debug__" : Str)) && !(n == ("__classdict__" : Str)))
  | none, _, _, .Constant .none _ _ => true
  | _, _, _, _ => false
def ckFs (h : Hd) (n : Option Str) (es : List Expr) : Bool := match h.s, es with
  | some s, [.Constant (.str k) _ _, e] => decide (k = s) && (nst e && ckF cf h n e)
  | none, [e] => nst e && ckF cf h n e
  | _, _ => false
def ckR (h : Hd) (n : Option Str) (r : Expr) : Bool := match r with
  | .Tuple es _ _ => h.tup && ckFs cf h n es
  | .List es _ => !h.tup && ckFs cf h n es
  | _ => false
def ckNm (sc : Scope) (h : Hd) (n : Option Str) : Bool := match h.i, n with
  | some i, some n => decide (N[i]? = some n) && decide (sc.names.lookup n = some .local)
  | none, none => true
  | _, _ => false
def ckHd (sc : Scope) (h : Hd) : ExceptHandler → Bool
  | .ExceptHandler (some (.Name x _)) n [.Return (some r) _] _ => (decide (x = cf.cn h.c) && (cf.xc.contains h.c && glB sc x)) && (ckNm N sc h n && ckR cf h n r)
  | _ => false
def ckHds (sc : Scope) : List Hd → List ExceptHandler → Bool
  | [], [] => true
  | h :: hs, e :: es => ckHd cf N sc h e && ckHds sc hs es
  | _, _ => false
end
section
variable {cf : Cf} {N : List Str} {c : Cx} {M : Pm} {Wx : WX} {pos : Pos}
theorem hf_pe (g : Good c M Wx) (F : Fit M cf) (n : c.N = N) {h : Hd} {nm : Option Str} {e : Expr} {a : Addr} {oe : Obj} {cls : Value} {d : Option Addr} {pn : List (Addr × Obj)} (hk : h.c ∈ M.G.xc) (hz : Zc cls d oe) (hf : ∃ vs, oe.data = .fields vs)
    (h1 : ckNm N c.env.scope h nm = true) (h2 : ckF cf h nm e = true) : PE (c.suite a ((a, oe) :: pn)) e (tHf M.G h a cls d) := by
  obtain ⟨x1, x2, x3, x4⟩ := g.fx.xcn h.c hk
  unfold ckF at h2
  unfold tHf
  split at h2
  · rename_i f i nn m p2 fn p3 e1 e2
    rw [e1, e2]
    simp only [Bool.and_eq_true, decide_eq_true_eq, Bool.not_eq_true'] at h2
    obtain ⟨⟨rfl, h4⟩, h5, h6⟩ := h2
    unfold ckNm at h1
    rw [e2] at h1
    simp only [Bool.and_eq_true, decide_eq_true_eq] at h1
    obtain ⟨h7, h8⟩ := h1
    have e3 : (M.G.nm h.c).getD f (Str.ofString "") = fn := by
      rw [F.nm, List.getD_eq_getElem?_getD, h4]
      rfl
    show PE _ _ (tXf a cls d (M.G.kap h.c) ((M.G.nm h.c).getD f (Str.ofString "")) (tVar i))
    rw [e3]
    exact pe_xf x2 (x3 fn (by rw [F.nm]; exact List.mem_of_getElem? h4)) hz hf (pe_var (X := c.suite a ((a, oe) :: pn)) (by show c.N[i]? = _; rw [n]; exact h7) (.inl h8) h5 h6)
  · rename_i e1
    rw [e1]
    exact pe_non
  · cases h2
theorem hd_pss (g : Good c M Wx) (F : Fit M cf) (n : c.N = N) {h : Hd} {nm : Option Str} {r : Expr} {p : Pos} {a : Addr} {oe : Obj} {cls : Value} {d : Option Addr} {pn : List (Addr × Obj)} (hk : h.c ∈ M.G.xc) (hz : Zc cls d oe) (hf : ∃ vs, oe.data = .fields vs)
    (h1 : ckNm N c.env.scope h nm = true) (h2 : ckR cf h nm r = true) : PSs (c.suite a ((a, oe) :: pn)) [.Return (some r) p] (tHd M.G h a cls d) := by
  have args : ∀ {es : List Expr}, ckFs cf h nm es = true → PA (c.suite a ((a, oe) :: pn)) es (tHs M.G h a cls d) := fun {es} h3 => by
    unfold ckFs at h3
    unfold tHs
    split at h3
    · rename_i s k j p1 e e1
      rw [e1]
      simp only [Bool.and_eq_true, decide_eq_true_eq] at h3
      obtain ⟨rfl, h4, h5⟩ := h3
      exact pa_cons pe_str (pa_cons (hf_pe g F n hk hz hf h1 h5) pa_nil (star_ok h4 _ _)) rfl
    · rename_i e e1
      rw [e1]
      simp only [Bool.and_eq_true] at h3
      exact pa_cons (hf_pe g F n hk hz hf h1 h3.2) pa_nil (star_ok h3.1 _ _)
    · cases h3
  unfold ckR at h2
  unfold tHd
  split at h2
  · simp only [Bool.and_eq_true] at h2
    rw [if_pos h2.1]
    exact pss_one (ps_ret (pe_tup (args h2.2)))
  · simp only [Bool.and_eq_true, Bool.not_eq_true'] at h2
    rw [if_neg (by rw [h2.1]; exact Bool.false_ne_true)]
    exact pss_one (ps_ret (pe_lst (args h2.2)))
  · cases h2
theorem hds_ok (g : Good c M Wx) (F : Fit M cf) (n : c.N = N) : ∀ {hs : List Hd} {es : List ExceptHandler}, ckHds cf N c.env.scope hs es = true → HdsA c es (hs.map fun h => (.ref (M.G.kap h.c), h.i, tHd M.G h)) ∧ ∀ h ∈ hs, h.c ∈ M.G.xc
  | [], [], _ => ⟨.nil, fun _ h => nomatch h⟩
  | [], _ :: _, h => by unfold ckHds at h; cases h
  | _ :: _, [], h => by unfold ckHds at h; cases h
  | h :: hs, e :: es, q => by
    unfold ckHds at q
    rw [Bool.and_eq_true] at q
    obtain ⟨q1, q2⟩ := q
    obtain ⟨i1, i2⟩ := hds_ok g F n q2
    unfold ckHd at q1
    split at q1
    · rename_i x p1 nm r p2 p3
      simp only [Bool.and_eq_true, decide_eq_true_eq] at q1
      obtain ⟨⟨rfl, k1, k2⟩, k3, k4⟩ := q1
      have hk : h.c ∈ M.G.xc := by rw [F.xc]; exact List.contains_iff_mem.mp k1
      obtain ⟨g1, g2⟩ := gl_ok k2
      have hc : Names c (cf.cn h.c) (.ref (M.G.kap h.c)) := ⟨g1, g2, .inl (by rw [← F.cn]; exact (g.fx.xcn h.c hk).1)⟩
      refine ⟨?_, fun h' hm => by rcases List.mem_cons.mp hm with rfl | hm; exact hk; exact i2 h' hm⟩
      rw [List.map_cons]
      cases hi : h.i with
      | none =>
        cases nm with
        | none => exact .no hc (fun a oe cls d pn hz hf => hd_pss g F n hk hz hf k3 k4) i1
        | some nm => unfold ckNm at k3; rw [hi] at k3; cases k3
      | some i =>
        cases nm with
        | none => unfold ckNm at k3; rw [hi] at k3; cases k3
        | some nm =>
          have k5 := k3
          unfold ckNm at k5
          rw [hi] at k5
          simp only [Bool.and_eq_true, decide_eq_true_eq] at k5
          exact .as hc (by rw [n]; exact k5.1) k5.2 (fun a oe cls d pn hz hf => hd_pss g F n hk hz hf k3 k4) i1
    · cases q1
theorem hf_rd (g : Good c M Wx) {A : Addr → Prop} {W : Wd} {cls : Value} {dd : Option Addr} {e : Exc} {h : Hd} {a : Addr} {σ : L2.St} {P : D → Prop} (x : ExcAt M.G A W cls dd e) (hc : e.c = h.c) (fit : h.fits σ.length) (o : h.out e.xs P) :
    ∃ d v, At M.G A W v d ∧ P (h.tell d) ∧ ∀ Q : VK, Q v W.H → tHf M.G h a cls dd (atAs h.i σ a) W.H Q := by
  obtain ⟨rfl, hk, x⟩ := x
  unfold Hd.out at o
  unfold tHf
  cases hf : h.f with
  | none =>
    rw [hf] at o
    exact ⟨.non, .non, .non, o, fun Q q => by cases h.i <;> exact q⟩
  | some f =>
    rw [hf] at o
    obtain ⟨d, ed, o⟩ := o
    rcases x with ⟨x, _⟩ | ⟨d0, vs, rfl, x1, x2, x3⟩
    · rw [x] at ed
      cases ed
    · obtain ⟨v, ev, hv⟩ := x3.get ed
      refine ⟨d, v, hv, o, fun Q q => ?_⟩
      unfold Hd.fits at fit
      cases hi : h.i with
      | none =>
        rw [hi] at fit
        have fit : h.f = none := fit
        rw [hf] at fit
        cases fit
      | some i =>
        rw [hi] at fit
        have fit : i < σ.length := fit
        have hfl : f < (M.G.nm e.c).length := by
          rw [← x2]
          exact (List.getElem?_eq_some_iff.mp ev).1
        have e3 : (M.G.nm h.c).getD f (Str.ofString "") = (M.G.nm e.c)[f] := by
          rw [← hc, List.getD_eq_getElem?_getD, List.getElem?_eq_getElem hfl]
          rfl
        have e4 : ((M.G.nm e.c).zip vs)[f]? = some ((M.G.nm e.c)[f], v) := by
          rw [List.getElem?_zip_eq_some]
          exact ⟨List.getElem?_eq_getElem hfl, ev⟩
        have e5 : (((M.G.nm e.c).zip vs).map Prod.fst).Nodup := by
          rw [List.map_fst_zip (by omega)]
          exact (g.fx.xcn e.c hk).2.2.2
        show tXf a _ _ _ ((M.G.nm h.c).getD f (Str.ofString "")) (tVar i) (σ.set i (some (.ref a))) W.H Q
        rw [e3]
        exact ⟨.ref a, List.getElem?_set_self fit, rfl, by rw [hc], d0, _, v, rfl, x1, lookup_zip e4 e5, q⟩
def Hd.args (h : Hd) (v : V) : List V := match h.s with | some s => [.str s, v] | none => [v]
def Hd.argD (h : Hd) (d : D) : List D := match h.s with | some s => [.str s, d] | none => [d]
theorem Hd.tell_eq (h : Hd) (d : D) : h.tell d = if h.tup = true then .tup (h.argD d) else .lst 0 (h.argD d) := rfl
theorem Hd.len (h : Hd) (v : V) : (h.args v).length ≤ 2 := by
  unfold Hd.args
  split <;> simp
theorem Hd.ats {G : Gb} {A : Addr → Prop} {W : Wd} (h : Hd) {v : V} {d : D} (x : At G A W v d) : Ats G A W (h.args v) (h.argD d) := by
  unfold Hd.args Hd.argD
  split
  · exact .cons .str (.cons x .nil)
  · exact .cons x .nil
theorem hs_rd {G : Gb} {h : Hd} {a : Addr} {cls : Value} {dd : Option Addr} {σ : L2.St} {H : Hp} {v : V} {Q : List V → Hp → Prop} (hq : ∀ Q : VK, Q v H → tHf G h a cls dd σ H Q) (q : Q (h.args v) H) : tHs G h a cls dd σ H Q := by
  unfold tHs
  unfold Hd.args at q
  cases hs : h.s with
  | none =>
    rw [hs] at q
    exact hq _ q
  | some s =>
    rw [hs] at q
    exact hq _ q
theorem hd_rd (g : Good c M Wx) (nf : M.fr = false) {A₀ A A' : Addr → Prop} {W₀ W W' : Wd} {cls : Value} {dd : Option Addr} {e : Exc} {h : Hd} {a : Addr} {σ : L2.St} {ρ : Env} {Kd : Nd} {Ks : Ends} (R : Rep M.G A₀ W₀ A' σ W' ρ) (x : ExcAt M.G A' W' cls dd e) (hc : e.c = h.c)
    (fit : h.fits ρ.sl.length) (o : h.out e.xs fun d => Kd.rt d ρ.n) (K : NdOk M A₀ W₀ A W Kd Ks) : tHd M.G h a cls dd (onlyRt Ks) (atAs h.i σ a) W'.H := by
  obtain ⟨sl, n⟩ := ρ
  obtain ⟨d, v, hv, hp, hq⟩ := hf_rd g (a := a) x hc (by rw [R.len]; exact fit) o
  rw [Hd.tell_eq] at hp
  have hz : (h.args v).length ≤ sizeLine := Nat.le_trans (h.len v) (by decide)
  unfold tHd
  cases ht : h.tup with
  | true =>
    rw [ht, if_pos rfl] at hp
    rw [if_pos rfl]
    refine hs_rd hq ⟨hz, fun p np => ?_⟩
    have S := Ste.lay (G := M.G) (A := A') (o := .tup (h.args v)) R.strm R.tabs np
    refine K.rt (.ref p) _ A' σ _ sl n (R.ste S) (.tup upd_same (fun z => ?_) ((h.ats hv).stp (Stp.lay np))) (fun z => by rw [nf] at z; cases z) hp
    obtain ⟨o, e, _⟩ := R.ain p z
    rw [np] at e
    cases e
  | false =>
    rw [ht, if_neg Bool.false_ne_true] at hp
    rw [if_neg Bool.false_ne_true]
    refine hs_rd hq ⟨hz, fun p np => ?_⟩
    have S := Ste.lay (G := M.G) (A := A') (o := .lst (h.args v)) R.strm R.tabs np
    refine K.rt (.ref p) _ A' σ _ sl n (R.ste S) (.lst upd_same (fun z => ?_) ((h.ats hv).stp (Stp.lay np))) (fun z => by rw [nf] at z; cases z) hp
    obtain ⟨o, e, _⟩ := R.ain p z
    rw [np] at e
    cases e
theorem wMA_ok (g : Good c M Wx) (nf : M.fr = false) {A₀ A A' : Addr → Prop} {W₀ W W' : Wd} {cls : Value} {dd : Option Addr} {e : Exc} {σ : L2.St} {ρ : Env} {Kd : Nd} {Ks : Ends} (R : Rep M.G A₀ W₀ A' σ W' ρ) (x : ExcAt M.G A' W' cls dd e) (K : NdOk M A₀ W₀ A W Kd Ks) :
    ∀ {hs : List Hd} {out : Prop}, (∀ h ∈ hs, h.c ∈ M.G.xc) → hdW ρ.sl.length hs e (fun d => Kd.rt d ρ.n) out → (out → Wx cls dd σ W'.H) → wMA c.K Wx Ks (hs.map fun h => (.ref (M.G.kap h.c), h.i, tHd M.G h)) cls dd σ W'.H
  | [], out, _, w, k => k w
  | h :: hs, out, hk, w, k => by
    have ex := g.fx.exm e.c x.2.1 h.c (hk h List.mem_cons_self)
    rw [List.map_cons]
    refine ⟨_, by rw [x.1]; exact ex, fun hb a na => ?_, fun hb => ?_⟩
    · have hc := of_decide_eq_true hb
      unfold hdW at w
      rw [if_pos hc] at w
      exact hd_rd g nf R x hc w.1 w.2 K
    · have hc := of_decide_eq_false hb
      unfold hdW at w
      rw [if_neg hc] at w
      exact wMA_ok g nf R x K (fun h' hm => hk h' (List.mem_cons_of_mem _ hm)) w k
theorem tri_rd (g : Good c M Wx) (nf : M.fr = false) {b : S} {hs : List Hd} {Ks : Ends} {σ : L2.St} {H : Hp} (hk : ∀ h ∈ hs, h.c ∈ M.G.xc) (h : rdS M Wx (.tri b hs) Ks σ H) :
    rdS M (wMA c.K Wx Ks (hs.map fun h => (.ref (M.G.kap h.c), h.i, tHd M.G h))) b Ks σ H := by
  obtain ⟨A₀, W₀, A, W, ρ, E, Kd, e, R, Xs, hw, k⟩ := h
  refine ⟨A₀, W₀, A, W, ρ, _, Kd, e, R, fun A' σ' W' ρ' e cls dd R' x q => ?_, hw, k⟩
  exact wMA_ok g nf R' x k hk q fun o => Xs A' σ' W' ρ' e cls dd R' x o
theorem ss_tri (g : Good c M Wx) (nf : M.fr = false) (F : Fit M cf) (n : c.N = N) (hs1 : c.stack = c.env :: c.outer) (hs2 : c.env.frame = some c.env.locals) {b : S} {hs : List Hd} {body : List Stmt} {h₀ : ExceptHandler} {es : List ExceptHandler}
    (hb : ∀ (W : WX) (pn : List (Addr × Obj)) (xe : Value → Shared → Prop), Takes (c.tr pn xe) W → PassesOwn (model c.prog c.w) c.A c.env xe → PSs (c.tr pn xe) body (rdS M W b)) (hh : ckHds cf N c.env.scope hs (h₀ :: es) = true) :
    PS c (.Try body (h₀ :: es) [] [] pos) (rdS M Wx (.tri b hs)) := by
  obtain ⟨h1, h2⟩ := hds_ok g F n hh
  exact PS.imp (ps_tryA hs1 hs2 g.nd g.tk hb h1) fun K σ H q => tri_rd g nf h2 q
end
end Q
/-! Q layer, part P: the check of statements. -/
namespace Q
open PySem PySem.Spec L2
section
variable (cf : Cf) (N : List Str)
/-- does the store swap with the comprehension's end -/
def swB (sc : Scope) (s : Str) (py : Pos) : Expr → Bool
  | .ListComp _ _ s' p => (decide (sc.names.lookup s = some .local) && py.line == p.line) && !(s'.names.any fun (n, k) => n == s && (k == .local || k == .cell))
  | .SetComp _ _ _ _ => true
  | .DictComp _ _ _ _ _ => true
  | _ => false
def X.isComp : X → Bool
  | .comp _ _ _ _ => true
  | _ => false
def swOk : Expr → Bool
  | .ListComp _ [⟨_, iter, _, 0⟩] _ _ => noSet iter
  | _ => false
def ckPar (sc : Scope) : List (Nat × Bool) → X → List Expr → List Expr → Bool
  | [], .nil, [], [] => true
  | (i, o) :: ts, .cons a r, t :: tgs, e :: es => ((nst e && nst t) && (ckTg N (.nm i) sc t && ((if o = true then a.fresh else !a.isBor) && (chk cf N a).x sc e))) && ckPar sc ts r tgs es
  | _, _, _, _ => false
def locNm (sc : Scope) : Expr → Bool
  | .Name x _ => decide (sc.names.lookup x = some .local)
  | _ => false
/-- two local names, stored from the right -/
def par2 (sc : Scope) (tgs : List Expr) (es : List Expr) : Bool :=
  match tgs, es with
  | [.Name x px, .Name y py], [a, b] => ((decide (sc.names.lookup x = some .local) && decide (sc.names.lookup y = some .local)) && (py.line == px.line && !(x == y))) && ((!(foldedForSure 8 a && foldedForSure 8 b) && !(constantsAlone 8 a && constantsAlone 8 b)) && (nst a && nst b))
  | _, _ => false
/-- three local names, stored from the right -/
def par3 (sc : Scope) (tgs : List Expr) (es : List Expr) : Bool :=
  match tgs, es with
  | [.Name x px, .Name y py, .Name z pz], [a, b, d] => (((decide (sc.names.lookup x = some .local) && decide (sc.names.lookup y = some .local)) && decide (sc.names.lookup z = some .local)) && ((py.line == px.line && pz.line == px.line) && ((!(x == y) && !(x == z)) && !(y == z)))) && ((!((foldedForSure 8 a && foldedForSure 8 b) && foldedForSure 8 d) && !((constantsAlone 8 a && constantsAlone 8 b) && constantsAlone 8 d)) && ((nst a && nst b) && nst d))
  | _, _ => false
/-- a plain tuple -/
def par0 (sc : Scope) (tgs : List Expr) : Bool := (!(tgs.length == 2 || tgs.length == 3) || !(tgs.all (locNm sc))) && decide (tgs.length ≤ 30)
/-- statements as they stand -/
def S.plain : S → Bool
  | .nl => true
  | .sq (.frz _) _ => false
  | .sq (.frzD _) _ => false
  | .sq (.hld _ _ _ _) _ => false
  | .sq _ r => r.plain
  | _ => false
/-- s.append(x) -/
def ckApp (i : Nat) (x : X) (sc : Scope) : Stmt → Bool
  | .Expr (.Call (.Attribute (.Name s _) nm ap) [e] [] cp) _ => (decide (nm = "append") && (nmB N sc i s && nst e)) && ((!x.isBor && (ap.endLine == cp.line)) && (chk cf N x).x sc e)
  | _ => false
mutual
def ckS1 : S → Scope → Stmt → Bool
  | .asg i x, sc, .Assign [.Name s py] e _ => (ckTg N (.nm i) sc (.Name s py) && !x.isBor) && ((chk cf N x).x sc e && (if swB sc s py e = true then swOk e && x.isComp else true))
  | .asgO i x, sc, .Assign [.Name s py] e _ => (ckTg N (.nm i) sc (.Name s py) && x.fresh) && ((chk cf N x).x sc e && (if swB sc s py e = true then swOk e && x.isComp else true))
  | .asgT t x, sc, .Assign [.Tuple es k p] e _ => (ckTg N t sc (.Tuple es k p) && !x.isBor) && ((chk cf N x).x sc e && (noComp e && !isTup e))
  | .par ts xs, sc, .Assign [.Tuple tgs _ _] (.Tuple es _ _) _ => ckPar cf N sc ts xs tgs es && (if (par2 sc tgs es || par3 sc tgs es) = true then true else par0 sc tgs)
  | .app i x, sc, .Expr (.Call (.Attribute (.Name s _) nm ap) [e] [] cp) _ => (decide (nm = "append") && (nmB N sc i s && nst e)) && ((!x.isBor && (ap.endLine == cp.line)) && (chk cf N x).x sc e)
  | .ext i x, sc, .Expr (.Call (.Attribute (.Name s _) nm ap) [e] [] cp) _ => (decide (nm = "extend") && (nmB N sc i s && nst e)) && ((!x.isBor && (ap.endLine == cp.line)) && (chk cf N x).x sc e)
  | .seti i k x, sc, .Assign [.Subscript (.Name s _) ke _] e _ => (nmB N sc i s && (!x.isBor && noComp e)) && (((chk cf N x).x sc e && (chk cf N k).x sc ke) && (plainI ke && !isTup e))
  | .asgD i _, sc, .Assign [.Name s py] (.Dict [] [] _) _ => ckTg N (.nm i) sc (.Name s py)
  | .setD i k x, sc, .Assign [.Subscript (.Name s _) ke _] e _ => (nmB N sc i s && ((!x.isBor && !k.isBor) && noComp e)) && (((chk cf N x).x sc e && (chk cf N k).x sc ke) && (plainI ke && !isTup e))
  | .appP i j k, sc, .Expr (.Call (.Attribute (.Name s _) nm ap) [.Call (.Attribute (.Name s2 _) nm2 ap2) [ke] [] cp2] [] cp) _ => ((decide (nm = "append") && decide (nm2 = "pop")) && (nmB N sc i s && nmB N sc j s2)) && (((ap.endLine == cp.line) && (ap2.endLine == cp2.line)) && (nst ke && (chk cf N k).x sc ke))
  | .asgP t j, sc, .Assign [tg] (.Call (.Attribute (.Name s2 _) nm2 ap2) [] [] cp2) _ => (decide (nm2 = "pop") && (nmB N sc j s2 && (ap2.endLine == cp2.line))) && ckTg N t sc tg
  | .asgPA t j k, sc, .Assign [tg] (.Call (.Attribute (.Name s2 _) nm2 ap2) [ke] [] cp2) _ => (decide (nm2 = "pop") && (nmB N sc j s2 && (ap2.endLine == cp2.line))) && (ckTg N t sc tg && (nst ke && (chk cf N k).x sc ke))
  | .exp x, sc, .Expr e _ => noComp e && (chk cf N x).x sc e
  | .ret x, sc, .Return (some e) _ => (!x.isBor && (!cf.fr || x.fresh)) && (chk cf N x).x sc e
  | .retO i, sc, .Return (some (.Name s _)) _ => nmB N sc i s
  | .asgX i x, sc, .Assign [.Name s py] e _ => (ckTg N (.nm i) sc (.Name s py) && x.fresh) && ((chk cf N x).x sc e && !(swB sc s py e))
  | .retN, _, .Return none _ => true
  | .iff x a b, sc, .If e as bs _ => (chk cf N x).t sc e && (ckSs a sc as && ckSs b sc bs)
  | .for_ t it b, sc, .For tg iter body [] _ => (noSet iter && ckTg N t sc tg) && ((chk cf N it).i sc tg iter && ckSs b sc body)
  | .whl x b, sc, .While e body [] _ => (chk cf N x).t sc e && ckSs b sc body
  | .brk, _, .Break _ => true
  | .cnt, _, .Continue _ => true
  | .pas, _, .Pass _ => true
  | .nev, _, _ => true
  | .tri b hs, sc, .Try body (h :: es) [] [] _ => (!cf.fr && ckSs b sc body) && ckHds cf N sc hs (h :: es)
  | .rai k (.cons x .nil), sc, .Raise (some (.Call (.Name s _) [e] [] _)) none _ => ((cf.xc.contains k && (decide (s = cf.cn k) && (cf.nm k).length == 1)) && (glB sc s && (nst e && !x.isBor))) && (chk cf N x).x sc e
  | .slf k f x, sc, .Assign [.Attribute (.Name s _) nm _] e _ => (decide ((cf.nm k)[f]? = some nm) && nmB N sc 0 s) && ((!x.isBor && noComp e) && (chk cf N x).x sc e)
  | _, _, _ => false
termination_by structural s => s
def ckSs : S → Scope → List Stmt → Bool
  | .nl, _, [] => true
  | .sq (.frz _) r, sc, sts => ckSs r sc sts
  | .sq (.hld i k b x) r, sc, sts => (b.plain && ckSs b sc (sts.take k)) && (match sts.drop k with
    | st :: rest => ckApp cf N i x sc st && ckSs r sc rest
    | [] => false)
  | .sq (.frzD _) r, sc, sts => ckSs r sc sts
  | .sq s r, sc, st :: sts => ckS1 s sc st && ckSs r sc sts
  | _, _, _ => false
termination_by structural s => s
end
end
/-- where a statement stands -/
structure GoodS (c : Cx) (M : Pm) (Wx : WX) : Prop extends Good c M Wx where
  pw : PassesOwn (model c.prog c.w) c.A c.env c.xe
  sto : StoB c c.env.scope
  knd : c.env.scope.kind = .function
  stk : c.stack = c.env :: c.outer
  frm : c.env.frame = some c.env.locals
theorem GoodS.tr {c : Cx} {M : Pm} {Wx W : WX} (g : GoodS c M Wx) {pn : List (Addr × Obj)} {xe : Value → Shared → Prop} (tk : Takes (c.tr pn xe) W) (pw : PassesOwn (model c.prog c.w) c.A c.env xe) : GoodS (c.tr pn xe) M W :=
  ⟨⟨g.fx, g.calm, g.nd, g.room, tk, fun h pn' xe' W' tk' => g.lam h pn' xe' W' tk', g.lmf, g.gd⟩, pw, g.sto, g.knd, g.stk, g.frm⟩
section
variable {cf : Cf} {N : List Str} {c : Cx} {M : Pm} {Wx : WX}
theorem app_nl {rest : List Stmt} {t : TS} (h : PSs c rest t) : PSs c ([] ++ rest) (tSeq (rdS M Wx .nl) t) := PSs.imp h fun K σ H ⟨A₀, W₀, A, W, ρ, E, Kd, e, R, Xs, hw, k⟩ => by
  subst e
  exact k.nx A σ W ρ R (.refl A W) hw
theorem app_sq {s r : S} {st : Stmt} {sts : List Stmt} {t : TS} (h1 : PS c st (rdS M Wx s)) (h2 : PSs c sts (tSeq (rdS M Wx r) t)) : PSs c (st :: sts) (tSeq (rdS M Wx (.sq s r)) t) := by
  refine PSs.imp (pss_cons h1 h2) fun K σ H ⟨A₀, W₀, A, W, ρ, E, Kd, e, R, Xs, hw, k⟩ => ?_
  exact ⟨A₀, W₀, A, W, ρ, E, _, e, R, Xs, hw, ⟨fun A' σ' W' ρ' R' s' q => ⟨A₀, W₀, A', W', ρ', E, Kd, rfl, R', Xs, q, k.stp s'⟩, k.bk, k.ct, k.rt⟩⟩
theorem noComp_sw {e : Expr} (h : noComp e = true) (t : Option Expr) (l : Nat) (env : PySem.Env) : swapsWith e t l env = pure false := by
  cases e <;> first | rfl | (unfold noComp at h; cases h)
theorem swB_no {sc : Scope} {s : Str} {py : Pos} {e : Expr} {l : Nat} {env : PySem.Env} (hs : env.scope = sc) (h : swB sc s py e = false) : swapsWith e (some (.Name s py)) l env = pure false := by
  cases e with
  | ListComp a b s' p =>
    subst hs
    have h : ((decide (env.scope.names.lookup s = some .local) && py.line == p.line) && !(s'.names.any fun (n, k) => n == s && (k == .local || k == .cell))) = false := h
    show (pure (env.blockKind == .function && env.kindOf s == some .local && py.line == p.line && !(s'.names.any fun (n, k) => n == s && (k == .local || k == .cell))) : Sem Bool) = pure false
    have e1 : (env.kindOf s == some .local) = decide (env.scope.names.lookup s = some .local) := by
      unfold Env.kindOf
      by_cases hh : env.scope.names.lookup s = some .local <;> simp [hh]
    rw [e1]
    have e2 : (env.blockKind == ScopeKind.function && decide (env.scope.names.lookup s = some .local) && py.line == p.line && !(s'.names.any fun (n, k) => n == s && (k == .local || k == .cell))) = false := by
      rw [Bool.and_assoc (env.blockKind == ScopeKind.function), Bool.and_assoc (env.blockKind == ScopeKind.function), h, Bool.and_false]
    rw [e2]
  | SetComp _ _ _ _ => unfold swB at h; cases h
  | DictComp _ _ _ _ _ => unfold swB at h; cases h
  | _ => rfl
theorem tg_nm (n : c.N = N) {so : Scope} (hs : StoB c so) {i : Nat} {s : Str} {py : Pos} (h : ckTg N (.nm i) so (.Name s py) = true) : c.N[i]? = some s ∧ Loc c.env.scope s ∧ (c.fn s = true ∨ c.env.scope.names.lookup s = some .local) := by
  unfold ckTg at h
  simp only [Bool.and_eq_true, decide_eq_true_eq] at h
  have hl : so.names.lookup s = some .local ∨ so.names.lookup s = some .cell := by
    have h2 := h.2
    split at h2 <;> first | (rename_i q; exact .inl q) | (rename_i q; exact .inr q) | cases h2
  exact ⟨by rw [n]; exact h.1, hs s hl⟩
/-- name = expression, whatever its store does -/
theorem set_ok (g : GoodS c M Wx) (F : Fit M cf) (n : c.N = N) {i : Nat} {x : X} {s : Str} {py pos : Pos} {e : Expr} (ht : ckTg N (.nm i) c.env.scope (.Name s py) = true) (hx : (chk cf N x).x c.env.scope e = true)
    (hsw : (if swB c.env.scope s py e = true then swOk e && x.isComp else true) = true) : PS c (.Assign [.Name s py] e pos) (fun D σ H => rdX M Wx x σ H fun v H1 => gName i v σ H1 D.nx) := by
  obtain ⟨t1, t2, t3⟩ := tg_nm n g.sto ht
  have he := (chk_ok x cf).x g.toGood F n e hx
  by_cases hb : swB c.env.scope s py e = true
  · rw [if_pos hb, Bool.and_eq_true] at hsw
    obtain ⟨hsw, hcomp⟩ := hsw
    cases e with
    | ListComp elt gens scope cp =>
      by_cases hg : ∃ tg iter ifs, gens = [⟨tg, iter, ifs, 0⟩]
      · obtain ⟨tg, iter, ifs, rfl⟩ := hg
        unfold swB at hb
        simp only [Bool.and_eq_true, decide_eq_true_eq, Bool.not_eq_true'] at hb
        obtain ⟨⟨b1, b2⟩, b3⟩ := hb
        -- x is a comprehension
        cases x with
        | comp t it cond el =>
          have hx : ((!el.isBor && (noSet iter && blkC N c.env.scope scope (blkN N t))) && ((chk cf N it).i c.env.scope tg iter && (ckTg N t scope tg && (ckIfs (chk cf.off N cond).t cond.isTru (relS scope c.env.scope) ifs && (chk cf.off N el).x (relS scope c.env.scope) elt)))) = true := hx
          simp only [Bool.and_eq_true, Bool.not_eq_true'] at hx
          obtain ⟨⟨h1, h2, h3⟩, h4, h5, h6, h7⟩ := hx
          refine PS.imp (ps_setLc (own := blkN N t) g.calm g.nd t1 b1 (sw_true g.knd b1 b2 b3) ((chk_ok it _).i g.toGood F n _ _ h4) (by rw [n]; exact blkOk_by h3) (fun s H C cl fp => ?_) (fun s H C cl fp => ?_) (fun s H C cl fp => ?_) (noSet_ok h2 _)) fun K σ H h => comp_rd (c := c) h1 blkN_ix h
          · exact ckTg_ok (c := c.blk s H scope (compEnvC scope cl C c.env) fp) g.calm g.nd n blk_sto t tg h5
          · exact ifs_ok (c := c.blk s H scope (compEnvC scope cl C c.env) fp) (fun e he => (chk_ok cond _).t (g.toGood.blk s H scope (compEnvC scope cl C c.env) fp) F.off n e he) h6
          · exact (chk_ok el _).x (g.toGood.blk s H scope (compEnvC scope cl C c.env) fp) F.off n _ h7
        | _ => cases hcomp
      · exfalso
        unfold swOk at hsw
        split at hsw
        · rename_i h
          cases h
          exact hg ⟨_, _, _, rfl⟩
        · cases hsw
    | _ => cases hsw
  · exact ps_set g.nd t1 t2 he (swB_no rfl (by simpa using hb)) t3
theorem noComp_cp {e : Expr} (h : noComp e = true) (t : Option Expr) (l : Nat) (env : PySem.Env) : swapsWith e t l env = pure false := noComp_sw h t l env
theorem stores_none {ts e : Expr} (h : isTup e = false) (env : PySem.Env) : swappedStores [ts] e env = pure none := by
  cases e <;> first | (unfold isTup at h; cases h; done) | (cases ts <;> rfl)
theorem few_ok {e : Expr} (h : nst e = true) (cp : Pos) (env : PySem.Env) : ((backTo cp (starEach (e :: []) env)).all (fun x => !x.1) && (backToKw cp (keywordEach [] env)).all (fun x => x.1.isSome)
      && decide ((e :: ([] : List Expr)).length + ([] : List Keyword).length + (if ([] : List Keyword).isEmpty then 0 else 1) < 30)) = true := by
  rw [star_ok h]
  rfl
theorem nm_pe (n : c.N = N) {i : Nat} {s : Str} {p : Pos} (h : nmB N c.env.scope i s = true) : PE c (.Name s p) (tVar i) := by
  obtain ⟨h1, h2, h3, h4⟩ := nm_ok (by rw [← n] at h; exact h)
  exact pe_var h1 h2 h3 h4
/-- a method of a list of ours, one argument -/
theorem bm_ok (n : c.N = N) {i : Nat} {s : Str} {p ap cp : Pos} {e : Expr} {te : TE} {name : Str} {id : String} {r : V → List V → Hp → VK → Prop} (slot : PySem.Slot "list" name id) (hty : typeOf (.builtin id) = pure (.type "method_descriptor")) (hm : MtR c id r)
    (h : nmB N c.env.scope i s = true) (he : PE c e te) (h2 : nst e = true) (hl : (ap.endLine == cp.line) = true) : PE c (.Call (.Attribute (.Name s p) name ap) [e] [] cp) (tBM c.K "list" r (tVar i) (tCons te tNil)) :=
  pe_bm PySem.F.plainAttrs_list slot hty hm (nm_pe n h) (pa_cons he pa_nil (star_ok h2 _ _)) rfl (few_ok h2 _ _) hl (star_ok h2 _ _) rfl
theorem bm0_ok (n : c.N = N) {i : Nat} {s : Str} {p ap cp : Pos} {name : Str} {id : String} {r : V → List V → Hp → VK → Prop} (slot : PySem.Slot "list" name id) (hty : typeOf (.builtin id) = pure (.type "method_descriptor")) (hm : MtR c id r)
    (h : nmB N c.env.scope i s = true) (hl : (ap.endLine == cp.line) = true) : PE c (.Call (.Attribute (.Name s p) name ap) [] [] cp) (tBM0 c.K "list" r (tVar i)) :=
  pe_bm0 PySem.F.plainAttrs_list slot hty hm (nm_pe n h) rfl hl
/-- the arguments of a, b = x, y -/
theorem ckPar_pa (g : GoodS c M Wx) (F : Fit M cf) (n : c.N = N) : ∀ {ts : List (Nat × Bool)} {xs : X} {tgs es : List Expr}, ckPar cf N c.env.scope ts xs tgs es = true → PA c es (rdP M Wx ts xs)
  | [], xs, tgs, es, h => by
    cases xs <;> first | (unfold ckPar at h; cases h; done) | skip
    cases tgs <;> first | (unfold ckPar at h; cases h; done) | skip
    cases es <;> first | (unfold ckPar at h; cases h; done) | skip
    exact sp_nil
  | (i, o) :: ts, xs, tgs, es, h => by
    cases xs <;> first | (unfold ckPar at h; cases h; done) | skip
    cases tgs <;> first | (unfold ckPar at h; cases h; done) | skip
    cases es <;> first | (unfold ckPar at h; cases h; done) | skip
    rename_i a r t tgs e es
    unfold ckPar at h
    simp only [Bool.and_eq_true] at h
    obtain ⟨⟨⟨h1, h2⟩, h3, h4, h5⟩, h6⟩ := h
    have he := (chk_ok a cf).x g.toGood F n e h5
    have hr := ckPar_pa g F n h6
    cases o with
    | true => exact sp_own (by simpa using h4) (star_ok h1 _ _) he hr
    | false => exact sp_val (by simpa using h4) (star_ok h1 _ _) he hr
/-- their targets -/
theorem ckPar_tg (g : GoodS c M Wx) (n : c.N = N) : ∀ {ts : List (Nat × Bool)} {xs : X} {tgs es : List Expr}, ckPar cf N c.env.scope ts xs tgs es = true → tgs.length = ts.length ∧ tgs.all nst = true ∧ es.length = ts.length ∧ es.all nst = true ∧
    PGs c tgs (fun vs σ H Q => vs.length = ts.length ∧ Q (setAll σ ts vs) H)
  | [], xs, tgs, es, h => by
    cases xs <;> first | (unfold ckPar at h; cases h; done) | skip
    cases tgs <;> first | (unfold ckPar at h; cases h; done) | skip
    cases es <;> first | (unfold ckPar at h; cases h; done) | skip
    refine ⟨rfl, rfl, rfl, rfl, ⟨fun pins s σ H vs us Q I r hw => pgs_nil.run pins s σ H vs us Q I r ?_⟩⟩
    obtain ⟨h1, h2⟩ := hw
    have : vs = [] := List.length_eq_zero_iff.mp h1
    subst this
    exact ⟨rfl, h2⟩
  | (i, o) :: ts, xs, tgs, es, h => by
    cases xs <;> first | (unfold ckPar at h; cases h; done) | skip
    cases tgs <;> first | (unfold ckPar at h; cases h; done) | skip
    cases es <;> first | (unfold ckPar at h; cases h; done) | skip
    rename_i a r t tgs e es
    unfold ckPar at h
    simp only [Bool.and_eq_true] at h
    obtain ⟨⟨⟨h1, h2⟩, h3, h4, h5⟩, h6⟩ := h
    obtain ⟨l1, l2, l3, l4, l5⟩ := ckPar_tg g n h6
    refine ⟨by simp [l1], by rw [List.all_cons, h2, l2]; rfl, by simp [l3], by rw [List.all_cons, h1, l4]; rfl, ?_⟩
    have hg := ckTg_ok g.calm g.nd n g.sto (.nm i) t h3
    have hp := pgs_cons hg l5 (by cases t <;> first | rfl | (unfold nst at h2; cases h2))
    refine ⟨fun pins s σ H vs us Q I r hw => hp.run pins s σ H vs us Q I r ?_⟩
    obtain ⟨q1, q2⟩ := hw
    cases vs with
    | nil => cases q1
    | cons v vs => exact ⟨v, vs, rfl, by simpa using q1, q2⟩
end
end Q
/-! Q layer, part Z: a, b, c = x, y, z with plain local names: stored from the right. -/
namespace Q
open PySem PySem.Spec PyProof.Rows L2
section
variable {X : Cx} {pos : Pos}
def tPar3 (i j k : Nat) (ta : TA) : TS := fun D σ H => ta σ H fun vs H1 => ∃ v w x, vs = [v, w, x] ∧ D.nx (((σ.set i (some v)).set j (some w)).set k (some x)) H1
theorem ps_par3 {i j k : Nat} {x y z : Str} {a b d : Expr} {ta : TA} {px py pz pt : Pos} {kt k2 pt2} (hc : X.calm = true) (hN : X.N.Nodup) (hi : X.N[i]? = some x) (hj : X.N[j]? = some y) (hk : X.N[k]? = some z) (hij : i ≠ j) (hik : i ≠ k) (hjk : j ≠ k)
    (hx : X.env.scope.names.lookup x = some .local) (hy : X.env.scope.names.lookup y = some .local) (hz : X.env.scope.names.lookup z = some .local) (ha : PA X [a, b, d] ta)
    (hw : swappedStores [.Tuple [.Name x px, .Name y py, .Name z pz] kt pt] (.Tuple [a, b, d] k2 pt2) X.env = pure (some [x, y, z]))
    (hs : swapsWithSole [.Tuple [.Name x px, .Name y py, .Name z pz] kt pt] (.Tuple [a, b, d] k2 pt2) pos.line X.env = pure false := by rfl) :
    PS X (.Assign [.Tuple [.Name x px, .Name y py, .Name z pz] kt pt] (.Tuple [a, b, d] k2 pt2) pos) (tPar3 i j k ta) := by
  refine ⟨fun pins s σ H D I h => ?_⟩
  rw [exec_Assign_arm]
  refine wpAny_bind (wpAny_standAt ?_)
  rw [hs]
  refine wpAny_bind (wpAny_pure ?_)
  rw [if_neg (by decide)]
  refine wpAny_bind (Tuple_ (thn (ha.run _ pins s σ H _ I h) fun us s1 ⟨vs, H1, I1, r1, q1⟩ => ?_))
  obtain ⟨v, w, t, e1, q1⟩ := q1
  subst e1
  obtain ⟨u1, u2, u3, rfl, rv, rw', rt⟩ : ∃ u1 u2 u3, us = [u1, u2, u3] ∧ RelV v u1 ∧ RelV w u2 ∧ RelV t u3 := by
    cases r1 with
    | cons p q =>
      cases q with
      | cons p' q' =>
        cases q' with
        | cons p2 q2 =>
          cases q2
          exact ⟨_, _, _, rfl, p, p', p2⟩
  refine wpAny_newObj_type ?_ (by show 3 ≤ sizeLine; decide)
  have I2 : Inv X pins σ H1 { s1 with heap := s1.heap.push { cls := .type "tuple", data := .seq [u1, u2, u3].toArray } } := I1.kept (t' := s1.toks) fun b o e => Heap.get?_push_of_some _ e
  rw [hw]
  refine wpAny_bind (wpAny_pure ?_)
  show wpAny (model X.prog X.w) X.A (do rule "assign.swapped-stores"; let items ← unpackItems (.ref s1.heap.objs.size) 3 none; assignInOrder [fun v => bindName X.env z v, fun v => bindName X.env y v, fun v => bindName X.env x v] items.reverse; pure Flow.next) _ _ _
  refine wpAny_bind (wpAny_rule (wpAny_bind (unpackItems_tuple (items := #[u1, u2, u3]) (I.ok.hd hc) (IsTup.new s1.heap _) fun h' hx' => ?_)))
  have I3 := I2.kept (h' := h') (t' := s1.toks) fun b o e => hx' b o (Nat.ne_of_lt (Heap.lt_size e)) e
  show wpAny _ _ (assignInOrder [fun v => bindName X.env z v, fun v => bindName X.env y v, fun v => bindName X.env x v] [u3, u2, u1] >>= fun _ => pure Flow.next) _ _ _
  refine wpAny_bind (assignInOrder_cons (wpAny_bindName (store_ok I3 hN hk (.inl hz) rt (fun s2 I4 => ?_) (.inr hz))))
  refine assignInOrder_cons (wpAny_bindName (store_ok I4 hN hj (.inl hy) rw' (fun s3 I5 => ?_) (.inr hy)))
  refine assignInOrder_cons (wpAny_bindName (store_ok I5 hN hi (.inl hx) rv (fun s4 I6 => assignInOrder_nil (wpAny_pure ?_)) (.inr hx)))
  rw [List.set_comm _ _ (Ne.symm hij), List.set_comm _ _ (Ne.symm hik), List.set_comm _ _ (Ne.symm hjk)] at I6
  exact ⟨_, H1, I6, q1⟩
end
end Q
/-! Q layer, part Q: a block of statements that passes the check does what its meaning says. -/
namespace Q
open PySem PySem.Spec L2
def isStr : Expr → Bool
  | .Starred .. => true
  | _ => false
def nmF (env : PySem.Env) (line : Nat) : Expr → Option Str
  | .Name id pos => if env.kindOf id == some .local && pos.line == line then some id else none
  | _ => none
theorem sw_eq (ts vs : List Expr) (kt pt k2 p2) (env : PySem.Env) : swappedStores [.Tuple ts kt pt] (.Tuple vs k2 p2) env =
    (if (!(ts.length == 2 || ts.length == 3) || vs.length != ts.length || env.blockKind != .function) = true then pure none else
     if vs.any isStr = true then pure none else
     if ((ts.filterMap (nmF env ((ts.head?.map (·.pos.line)).getD 0))).length != ts.length || (ts.filterMap (nmF env ((ts.head?.map (·.pos.line)).getD 0))).eraseDups.length != (ts.filterMap (nmF env ((ts.head?.map (·.pos.line)).getD 0))).length) = true then pure none else
     if vs.all (foldedForSure 8) = true then pure none else
     if vs.all (constantsAlone 8) = true then (do unsupported "assign.tuple-of-constant-expressions:order-of-the-stores"; pure (some (ts.filterMap (nmF env ((ts.head?.map (·.pos.line)).getD 0))))) else
     pure (some (ts.filterMap (nmF env ((ts.head?.map (·.pos.line)).getD 0))))) := by
  unfold swappedStores
  rfl
theorem nst_str {e : Expr} (h : nst e = true) : isStr e = false := by
  cases e <;> first | rfl | (unfold nst at h; cases h)
section
variable {cf : Cf} {N : List Str} {c : Cx} {M : Pm} {Wx : WX} {pos : Pos}
theorem par2_sw {sc : Scope} {env : PySem.Env} (hs : env.scope = sc) (hk : sc.kind = .function) {x y : Str} {px py : Pos} {a b : Expr} {kt pt k2 pt2} (h : par2 sc [.Name x px, .Name y py] [a, b] = true) :
    swappedStores [.Tuple [.Name x px, .Name y py] kt pt] (.Tuple [a, b] k2 pt2) env = pure (some [x, y]) := by
  unfold par2 at h
  simp only [Bool.and_eq_true, decide_eq_true_eq, Bool.not_eq_true'] at h
  obtain ⟨⟨⟨l1, l2⟩, l3, l4⟩, ⟨f1, f2⟩, n1, n2⟩ := h
  subst hs
  have e1 : (env.kindOf x == some .local) = true := by
    unfold Env.kindOf
    rw [l1]
    rfl
  have e2 : (env.kindOf y == some .local) = true := by
    unfold Env.kindOf
    rw [l2]
    rfl
  have hb : env.blockKind = .function := by unfold Env.blockKind; rw [hk]; rfl
  have hx : (px.line == px.line) = true := beq_self_eq_true _
  have g1 : nmF env px.line (.Name x px) = some x := by
    show (if (env.kindOf x == some .local && px.line == px.line) = true then some x else none) = some x
    rw [e1, hx]
    rfl
  have g2 : nmF env px.line (.Name y py) = some y := by
    show (if (env.kindOf y == some .local && py.line == px.line) = true then some y else none) = some y
    rw [e2, l3]
    rfl
  have hN : [Expr.Name x px, Expr.Name y py].filterMap (nmF env ((([Expr.Name x px, Expr.Name y py].head?.map (·.pos.line)).getD 0))) = [x, y] := by
    show [Expr.Name x px, Expr.Name y py].filterMap (nmF env px.line) = [x, y]
    simp [g1, g2]
  have hd : ([x, y] : List Str).eraseDups.length = 2 := by
    have l4' : (y == x) = false := by
      rw [beq_eq_false_iff_ne] at l4 ⊢
      exact Ne.symm l4
    simp [List.eraseDups_cons, l4']
  rw [sw_eq, hN, hd, hb, if_neg (by simp), if_neg (by simp [nst_str n1, nst_str n2]), if_neg (by simp), if_neg (by simp only [List.all_cons, List.all_nil, Bool.and_true, f1]; exact Bool.false_ne_true), if_neg (by simp only [List.all_cons, List.all_nil, Bool.and_true, f2]; exact Bool.false_ne_true)]
theorem par3_sw {sc : Scope} {env : PySem.Env} (hs : env.scope = sc) (hk : sc.kind = .function) {x y z : Str} {px py pz : Pos} {a b d : Expr} {kt pt k2 pt2} (h : par3 sc [.Name x px, .Name y py, .Name z pz] [a, b, d] = true) :
    swappedStores [.Tuple [.Name x px, .Name y py, .Name z pz] kt pt] (.Tuple [a, b, d] k2 pt2) env = pure (some [x, y, z]) := by
  unfold par3 at h
  simp only [Bool.and_eq_true, decide_eq_true_eq, Bool.not_eq_true'] at h
  obtain ⟨⟨⟨⟨l1, l2⟩, l3⟩, ⟨p1, p2⟩, ⟨d1, d2⟩, d3⟩, ⟨f1, f2⟩, ⟨n1, n2⟩, n3⟩ := h
  subst hs
  have e1 : ∀ {x : Str}, env.scope.names.lookup x = some .local → (env.kindOf x == some .local) = true := fun {x} l => by
    unfold Env.kindOf
    rw [l]
    rfl
  have hb : env.blockKind = .function := by unfold Env.blockKind; rw [hk]; rfl
  have hx : (px.line == px.line) = true := beq_self_eq_true _
  have g1 : ∀ {x : Str} {py : Pos}, env.scope.names.lookup x = some .local → (py.line == px.line) = true → nmF env px.line (.Name x py) = some x := fun {x py} l q => by
    show (if (env.kindOf x == some .local && py.line == px.line) = true then some x else none) = some x
    rw [e1 l, q]
    rfl
  have hN : [Expr.Name x px, Expr.Name y py, Expr.Name z pz].filterMap (nmF env ((([Expr.Name x px, Expr.Name y py, Expr.Name z pz].head?.map (·.pos.line)).getD 0))) = [x, y, z] := by
    show [Expr.Name x px, Expr.Name y py, Expr.Name z pz].filterMap (nmF env px.line) = [x, y, z]
    simp [g1 l1 hx, g1 l2 p1, g1 l3 p2]
  have sy : ∀ {x y : Str}, (x == y) = false → (y == x) = false := fun {x y} d => by
    rw [beq_eq_false_iff_ne] at d ⊢
    exact Ne.symm d
  have hd : ([x, y, z] : List Str).eraseDups.length = 3 := by
    simp [List.eraseDups_cons, sy d1, sy d2, sy d3]
  rw [sw_eq, hN, hd, hb, if_neg (by simp), if_neg (by simp [nst_str n1, nst_str n2, nst_str n3]), if_neg (by simp), if_neg (by simp only [List.all_cons, List.all_nil, Bool.and_true, ← Bool.and_assoc, f1]; exact Bool.false_ne_true), if_neg (by simp only [List.all_cons, List.all_nil, Bool.and_true, ← Bool.and_assoc, f2]; exact Bool.false_ne_true)]
theorem par0_sw {sc : Scope} {env : PySem.Env} (hs : env.scope = sc) {ts vs : List Expr} {kt pt k2 pt2} (h : par0 sc ts = true) : swappedStores [.Tuple ts kt pt] (.Tuple vs k2 pt2) env = pure none := by
  unfold par0 at h
  rw [Bool.and_eq_true, Bool.or_eq_true] at h
  obtain ⟨h, _⟩ := h
  subst hs
  rw [sw_eq]
  rcases h with h | h
  · rw [if_pos (by rw [h]; simp)]
  · split
    · rfl
    · split
      · rfl
      · rw [if_pos]
        rw [Bool.or_eq_true]
        refine .inl ?_
        rw [bne_iff_ne]
        intro e
        rw [List.filterMap_length_eq_length] at e
        rw [Bool.not_eq_true', List.all_eq_false] at h
        obtain ⟨t, ht, hn⟩ := h
        have := e t ht
        apply hn
        unfold locNm
        unfold nmF at this
        split at this
        · split at this
          · rename_i hh
            rw [Bool.and_eq_true] at hh
            have h1 := hh.1
            unfold Env.kindOf at h1
            simp only [decide_eq_true_eq]
            exact eq_of_beq h1
          · cases this
        · cases this
theorem setAll_three {σ : L2.St} {i j k : Nat} {o p q : Bool} {v w x : V} : setAll σ [(i, o), (j, p), (k, q)] [v, w, x] = ((σ.set i (some v)).set j (some w)).set k (some x) := rfl
theorem setAll_two {σ : L2.St} {i j : Nat} {o p : Bool} {v w : V} : setAll σ [(i, o), (j, p)] [v, w] = (σ.set i (some v)).set j (some w) := rfl
/-- a tuple of the values is laid, then they are stored from it -/
theorem par_rd0 {ts : List (Nat × Bool)} {xs : X} {Ks : Ends} {σ : L2.St} {H : Hp} (h : rdS M Wx (.par ts xs) Ks σ H) : rdP M Wx ts xs σ H fun vs H1 => vs.length = ts.length ∧ ∀ p, H1 p = none → Ks.nx (setAll σ ts vs) (upd H1 p (.tup vs)) := by
  obtain ⟨A₀, W₀, A, W, ⟨sl, n⟩, E, Kd, e, R, Xs, hw, k⟩ := h
  subst e
  refine ⟨A₀, W₀, A, W, sl, n, E, _, [], rfl, R, Xs, (fun a ha => by cases ha), hw, fun vs ds A' W' n' s' f' g' R' p' q' => ?_⟩
  obtain ⟨sl', R2, q2⟩ := par_ok p' R' (fun j ys b e1 e2 => .inr ⟨j, ys, e1, e2⟩) (fun j y b e1 hb => .inr ⟨y, List.mem_of_getElem? e1, hb⟩) q'
  refine ⟨p'.len.trans (wPar_len q'), fun p hp => ?_⟩
  have S := Ste.lay (G := M.G) (A := A') (o := .tup vs) R2.strm R2.tabs hp
  exact k.nx A' _ _ _ (R2.ste S) (s'.trans (R2.bas.stp S)) q2
theorem rdP_mono {ts : List (Nat × Bool)} {xs : X} {σ : L2.St} {H : Hp} {Q Q' : List V → Hp → Prop} (h : rdP M Wx ts xs σ H Q) (k : ∀ vs H1, Q vs H1 → Q' vs H1) : rdP M Wx ts xs σ H Q' := by
  obtain ⟨A₀, W₀, A, W, sl, n, E, Qd, P, e, R, Xs, hP, hw, z⟩ := h
  exact ⟨A₀, W₀, A, W, sl, n, E, Qd, P, e, R, Xs, hP, hw, fun vs ds A' W' n' a b c d e f => k _ _ (z vs ds A' W' n' a b c d e f)⟩
theorem ckPar_two {ts : List (Nat × Bool)} {xs : X} {sc : Scope} {x y : Str} {px py : Pos} {a b : Expr} (h : ckPar cf N sc ts xs [.Name x px, .Name y py] [a, b] = true) : ∃ i o j p, ts = [(i, o), (j, p)] ∧ N[i]? = some x ∧ N[j]? = some y := by
  match ts, xs, h with
  | [], _, h => cases ‹X› <;> (unfold ckPar at h; cases h)
  | (i, o) :: ts, xs, h =>
    cases xs <;> first | (unfold ckPar at h; cases h; done) | skip
    rename_i u r
    unfold ckPar at h
    simp only [Bool.and_eq_true] at h
    obtain ⟨⟨_, h1, _⟩, h2⟩ := h
    match ts, r, h2 with
    | [], r, h => cases r <;> (unfold ckPar at h; cases h)
    | (j, p) :: ts, r, h =>
      cases r <;> first | (unfold ckPar at h; cases h; done) | skip
      rename_i u2 r
      unfold ckPar at h
      simp only [Bool.and_eq_true] at h
      obtain ⟨⟨_, h3, _⟩, h4⟩ := h
      have e : ts = [] := by
        cases ts with
        | nil => rfl
        | cons t ts => cases r <;> (unfold ckPar at h4; cases h4)
      subst e
      have nm : ∀ {i : Nat} {x : Str} {px : Pos}, ckTg N (.nm i) sc (.Name x px) = true → N[i]? = some x := fun {i x px} h => by
        unfold ckTg at h
        simp only [Bool.and_eq_true, decide_eq_true_eq] at h
        exact h.1
      exact ⟨i, o, j, p, rfl, nm h1, nm h3⟩
theorem ckPar_three {ts : List (Nat × Bool)} {xs : X} {sc : Scope} {x y z : Str} {px py pz : Pos} {a b d : Expr} (h : ckPar cf N sc ts xs [.Name x px, .Name y py, .Name z pz] [a, b, d] = true) : ∃ i o j p k q, ts = [(i, o), (j, p), (k, q)] ∧ N[i]? = some x ∧ N[j]? = some y ∧ N[k]? = some z := by
  match ts, xs, h with
  | [], _, h => cases ‹X› <;> (unfold ckPar at h; cases h)
  | (i, o) :: ts, xs, h =>
    cases xs <;> first | (unfold ckPar at h; cases h; done) | skip
    rename_i u r
    unfold ckPar at h
    simp only [Bool.and_eq_true] at h
    obtain ⟨⟨_, h1, _⟩, h2⟩ := h
    obtain ⟨j, p, k, q, rfl, m2, m3⟩ := ckPar_two h2
    have nm : ∀ {i : Nat} {x : Str} {px : Pos}, ckTg N (.nm i) sc (.Name x px) = true → N[i]? = some x := fun {i x px} h => by
      unfold ckTg at h
      simp only [Bool.and_eq_true, decide_eq_true_eq] at h
      exact h.1
    exact ⟨i, o, j, p, k, q, rfl, nm h1, m2, m3⟩
theorem tg_nst {t : Tg} {e : Expr} {so : Scope} (h : ckTg N t so e = true) : nst e = true := by
  cases t <;> cases e <;> first | rfl | (unfold ckTg at h; cases h)
theorem tg_each {e : Expr} (h : nst e = true) (env : PySem.Env) : (assignEach [e] env).map (·.2) = [assign e env] := by
  cases e <;> first | rfl | (unfold nst at h; cases h)
theorem not_tup {e : Expr} (h : isTup e = false) (env : PySem.Env) (tg : Expr) : swappedStores [tg] e env = pure none := by
  cases e <;> first | (unfold isTup at h; cases h; done) | (cases tg <;> rfl)
theorem noComp_sole {e tg : Expr} (h : noComp e = true) (l : Nat) (env : PySem.Env) : swapsWithSole [tg] e l env = pure false := noComp_sw h (some tg) l env
theorem sub_ok {o i : Expr} {p : Pos} (h : plainI i = true) (env : PySem.Env) (v : Value) : assign (.Subscript o i p) env v = (do
      let ov ← holding [v] (eval o env)
      let iv ← holding [v, ov] (eval i env)
      standAt p
      holding [v, ov, iv] (setItem ov iv v)
      release [v, ov, iv] []) := by
  cases i <;> first | rfl | (unfold plainI at h; cases h)

theorem hld_split {k : Nat} {sts rest : List Stmt} {st : Stmt} (ed : sts.drop k = st :: rest) : sts.take k ++ st :: rest = sts := by
  rw [← ed]; exact List.take_append_drop k sts
theorem plain_sq {s r : S} (h : (S.sq s r).plain = true) : r.plain = true := by
  cases s <;> first | exact h | (unfold S.plain at h; cases h)
theorem ckApp_ok (g : GoodS c M Wx) (F : Fit M cf) (n : c.N = N) {i : Nat} {x : X} {st : Stmt} (h : ckApp cf N i x c.env.scope st = true) : x.isBor = false ∧ PS c st (tApp c.K i (rdX M Wx x)) := by
  unfold ckApp at h
  split at h <;> first | contradiction | skip
  simp only [Bool.and_eq_true, Bool.not_eq_true', decide_eq_true_eq] at h
  obtain ⟨⟨rfl, h2, h3⟩, ⟨h4, h5⟩, h6⟩ := h
  exact ⟨h4, ps_expr (bm_ok n PySem.F.slot_list_append PySem.F.type_list_append mt_append h2 ((chk_ok x cf).x g.toGood F n _ h6) h3 h5)⟩
mutual
theorem ckS1_ok (F : Fit M cf) : ∀ (s : S) (c : Cx) (Wx : WX) (g : GoodS c M Wx) (n : c.N = N) (st : Stmt), ckS1 cf N s c.env.scope st = true → PS c st (rdS M Wx s)
  | .asg i x, c, Wx, g, n, st, h => by
    unfold ckS1 at h
    split at h <;> first | contradiction | skip
    rename_i heq
    cases heq
    simp only [Bool.and_eq_true, Bool.not_eq_true'] at h
    obtain ⟨⟨h1, h2⟩, h3, h4⟩ := h
    exact PS.imp (set_ok g F n h1 h3 h4) fun K σ H q => asg_rd h2 q
  | .asgO i x, c, Wx, g, n, st, h => by
    unfold ckS1 at h
    split at h <;> first | contradiction | skip
    rename_i heq
    cases heq
    simp only [Bool.and_eq_true, Bool.not_eq_true'] at h
    obtain ⟨⟨h1, h2⟩, h3, h4⟩ := h
    exact PS.imp (set_ok g F n h1 h3 h4) fun K σ H q => asgO_rd h2 q
  | .asgT t x, c, Wx, g, n, st, h => by
    unfold ckS1 at h
    split at h <;> first | contradiction | skip
    rename_i heq
    cases heq
    simp only [Bool.and_eq_true, Bool.not_eq_true'] at h
    obtain ⟨⟨h1, h2⟩, h3, h4, h5⟩ := h
    exact PS.imp (ps_asg ((chk_ok x cf).x g.toGood F n _ h3) (ckTg_ok g.calm g.nd n g.sto t _ h1) (noComp_sole h4 _ _) (not_tup h5 _ _)) fun K σ H q => asgT_rd h2 q
  | .par ts xs, c, Wx, g, n, st, h => by
    unfold ckS1 at h
    split at h <;> first | contradiction | skip
    rename_i tgs kt pt es k2 p2 pos heq
    cases heq
    simp only [Bool.and_eq_true, Bool.not_eq_true'] at h
    obtain ⟨h1, h2⟩ := h
    have ha := ckPar_pa g F n h1
    by_cases h3 : par2 c.env.scope tgs es = true
    · unfold par2 at h3
      split at h3 <;> first | (cases h3; done) | skip
      rename_i x px y py a b
      have hw := par2_sw (kt := kt) (pt := pt) (k2 := k2) (pt2 := p2) rfl g.knd (show par2 c.env.scope [.Name x px, .Name y py] [a, b] = true from h3)
      simp only [Bool.and_eq_true, decide_eq_true_eq, Bool.not_eq_true'] at h3
      obtain ⟨⟨⟨l1, l2⟩, l3, l4⟩, _⟩ := h3
      obtain ⟨i, o, j, p, rfl, m1, m2⟩ := ckPar_two h1
      have hij : i ≠ j := fun e => by
        subst e
        rw [m1] at m2
        cases m2
        rw [beq_self_eq_true] at l4
        cases l4
      refine PS.imp (ps_par g.calm g.nd (by rw [n]; exact m1) (by rw [n]; exact m2) hij l1 l2 ha hw) fun K σ H q => ?_
      exact rdP_mono (par_rd q) fun vs H1 q => by
        obtain ⟨q1, q2⟩ := q
        match vs, q1, q2 with
        | [v, w], _, q2 => exact ⟨v, w, rfl, q2⟩
    · by_cases h4 : par3 c.env.scope tgs es = true
      · unfold par3 at h4
        split at h4 <;> first | (cases h4; done) | skip
        rename_i x px y py z pz a b d
        have hw := par3_sw (kt := kt) (pt := pt) (k2 := k2) (pt2 := p2) rfl g.knd (show par3 c.env.scope [.Name x px, .Name y py, .Name z pz] [a, b, d] = true from h4)
        simp only [Bool.and_eq_true, decide_eq_true_eq, Bool.not_eq_true'] at h4
        obtain ⟨⟨⟨⟨l1, l2⟩, l3⟩, _, ⟨d1, d2⟩, d3⟩, _⟩ := h4
        obtain ⟨i, o, j, p, k, q, rfl, m1, m2, m3⟩ := ckPar_three h1
        have df : ∀ {i j : Nat} {x y : Str}, N[i]? = some x → N[j]? = some y → (x == y) = false → i ≠ j := fun {i j x y} m1 m2 l e => by
          subst e
          rw [m1] at m2
          cases m2
          rw [beq_self_eq_true] at l
          cases l
        refine PS.imp (ps_par3 g.calm g.nd (by rw [n]; exact m1) (by rw [n]; exact m2) (by rw [n]; exact m3) (df m1 m2 d1) (df m1 m3 d2) (df m2 m3 d3) l1 l2 l3 ha hw) fun K σ H q => ?_
        exact rdP_mono (par_rd q) fun vs H1 q => by
          obtain ⟨q1, q2⟩ := q
          match vs, q1, q2 with
          | [v, w, x], _, q2 => exact ⟨v, w, x, rfl, q2⟩
      rw [if_neg (by rw [Bool.or_eq_true]; exact fun z => z.elim h3 h4)] at h2
      obtain ⟨q1, q2, q3, q4, q5⟩ := ckPar_tg g n h1
      obtain ⟨i1, i2⟩ := assign_len (env := c.env) q2
      have hlen : tgs.length ≤ 30 := by
        unfold par0 at h2
        simp only [Bool.and_eq_true, decide_eq_true_eq] at h2
        exact h2.2
      refine PS.imp (ps_asg (pe_tup ha) (pg_tup g.calm q5 (i1.trans q1) i2) rfl (par0_sw rfl h2)) fun K σ H q => ?_
      show rdP M Wx ts xs σ H fun vs H1 => vs.length ≤ sizeLine ∧ ∀ p, H1 p = none → gTup c.K ts.length (fun vs σ H Q => vs.length = ts.length ∧ Q (setAll σ ts vs) H) (.ref p) σ (upd H1 p (.tup vs)) K.nx
      exact rdP_mono (par_rd0 q) fun vs H1 q => by
        obtain ⟨q1', q2'⟩ := q
        have hl : vs.length ≤ sizeLine := by
          rw [q1', ← q1]
          exact Nat.le_trans hlen (by decide)
        exact ⟨hl, fun p hp => ⟨p, vs, rfl, SqT.of upd_same, q1', q1', q2' p hp⟩⟩
  | .app i x, c, Wx, g, n, st, h => by
    unfold ckS1 at h
    split at h <;> first | contradiction | skip
    rename_i heq
    cases heq
    simp only [Bool.and_eq_true, Bool.not_eq_true', decide_eq_true_eq] at h
    obtain ⟨⟨rfl, h2, h3⟩, ⟨h4, h5⟩, h6⟩ := h
    exact PS.imp (ps_expr (bm_ok n PySem.F.slot_list_append PySem.F.type_list_append mt_append h2 ((chk_ok x cf).x g.toGood F n _ h6) h3 h5)) fun K σ H q => app_rd h4 q
  | .ext i x, c, Wx, g, n, st, h => by
    unfold ckS1 at h
    split at h <;> first | contradiction | skip
    rename_i heq
    cases heq
    simp only [Bool.and_eq_true, Bool.not_eq_true', decide_eq_true_eq] at h
    obtain ⟨⟨rfl, h2, h3⟩, ⟨h4, h5⟩, h6⟩ := h
    exact PS.imp (ps_expr (bm_ok n PySem.F.slot_list_extend PySem.F.type_list_extend mt_extend h2 ((chk_ok x cf).x g.toGood F n _ h6) h3 h5)) fun K σ H q => ext_rd h4 q
  | .seti i k x, c, Wx, g, n, st, h => by
    unfold ckS1 at h
    split at h <;> first | contradiction | skip
    rename_i heq
    cases heq
    simp only [Bool.and_eq_true, Bool.not_eq_true', decide_eq_true_eq] at h
    obtain ⟨⟨h1, h2, h3⟩, ⟨h4, h5⟩, h6, h7⟩ := h
    exact PS.imp (ps_asg ((chk_ok x cf).x g.toGood F n _ h4) (pg_sub (nm_pe n h1) ((chk_ok k cf).x g.toGood F n _ h5) set_list (sub_ok h6 _)) (noComp_sole h3 _ _) (not_tup h7 _ _)) fun K σ H q => seti_rd h2 q
  | .asgD i t, c, Wx, g, n, st, h => by
    unfold ckS1 at h
    split at h <;> first | contradiction | skip
    rename_i heq
    cases heq
    exact PS.imp (ps_asg (pe_newD t) (ckTg_ok g.calm g.nd n g.sto (.nm i) _ h) (noComp_sole rfl _ _) (not_tup rfl _ _)) fun K σ H q => asgD_rd q
  | .setD i k x, c, Wx, g, n, st, h => by
    unfold ckS1 at h
    split at h <;> first | contradiction | skip
    rename_i heq
    cases heq
    simp only [Bool.and_eq_true, Bool.not_eq_true', decide_eq_true_eq] at h
    obtain ⟨⟨h1, ⟨h2, h8⟩, h3⟩, ⟨h4, h5⟩, h6, h7⟩ := h
    exact PS.imp (ps_asg ((chk_ok x cf).x g.toGood F n _ h4) (pg_sub (nm_pe n h1) ((chk_ok k cf).x g.toGood F n _ h5) (set_dict (by have := g.toGood.rm.un; omega)) (sub_ok h6 _)) (noComp_sole h3 _ _) (not_tup h7 _ _)) fun K σ H q => setD_rd h2 h8 q
  | .frzD _, c, Wx, g, n, st, h => by unfold ckS1 at h; contradiction
  | .appP i j k, c, Wx, g, n, st, h => by
    unfold ckS1 at h
    split at h <;> first | contradiction | skip
    rename_i heq
    cases heq
    simp only [Bool.and_eq_true, Bool.not_eq_true', decide_eq_true_eq] at h
    obtain ⟨⟨⟨rfl, rfl⟩, h1, h2⟩, ⟨h3, h4⟩, h5, h6⟩ := h
    exact PS.imp (ps_expr (bm_ok n PySem.F.slot_list_append PySem.F.type_list_append mt_append h1 (bm_ok n PySem.F.slot_list_pop PySem.F.type_list_pop mt_popAt h2 ((chk_ok k cf).x g.toGood F n _ h6) h5 h4) rfl h3)) fun K σ H q => appP_rd q
  | .asgP t j, c, Wx, g, n, st, h => by
    unfold ckS1 at h
    split at h <;> first | contradiction | skip
    rename_i heq
    cases heq
    simp only [Bool.and_eq_true, Bool.not_eq_true', decide_eq_true_eq] at h
    obtain ⟨⟨rfl, h1, h2⟩, h3⟩ := h
    exact PS.imp (ps_asg (bm0_ok n PySem.F.slot_list_pop PySem.F.type_list_pop mt_pop h1 h2) (ckTg_ok g.calm g.nd n g.sto t _ h3) (noComp_sole rfl _ _) (not_tup rfl _ _) (tg_each (tg_nst h3) _)) fun K σ H q => asgP_rd q
  | .asgPA t j k, c, Wx, g, n, st, h => by
    unfold ckS1 at h
    split at h <;> first | contradiction | skip
    rename_i heq
    cases heq
    simp only [Bool.and_eq_true, Bool.not_eq_true', decide_eq_true_eq] at h
    obtain ⟨⟨rfl, h1, h2⟩, h3, h4, h5⟩ := h
    exact PS.imp (ps_asg (bm_ok n PySem.F.slot_list_pop PySem.F.type_list_pop mt_popAt h1 ((chk_ok k cf).x g.toGood F n _ h5) h4 h2) (ckTg_ok g.calm g.nd n g.sto t _ h3) (noComp_sole rfl _ _) (not_tup rfl _ _) (tg_each (tg_nst h3) _)) fun K σ H q => asgPA_rd q
  | .exp x, c, Wx, g, n, st, h => by
    unfold ckS1 at h
    split at h <;> first | contradiction | skip
    rename_i heq
    cases heq
    simp only [Bool.and_eq_true] at h
    exact ss_exp (noComp_sw h.1 _ _ _) ((chk_ok x cf).x g.toGood F n _ h.2)
  | .ret x, c, Wx, g, n, st, h => by
    unfold ckS1 at h
    split at h <;> first | contradiction | skip
    rename_i heq
    cases heq
    simp only [Bool.and_eq_true, Bool.not_eq_true'] at h
    exact ss_ret h.1.1 (fun z => by
      have h2 := h.1.2
      rw [F.fr, z] at h2
      simpa using h2) ((chk_ok x cf).x g.toGood F n _ h.2)
  | .retO i, c, Wx, g, n, st, h => by
    unfold ckS1 at h
    split at h <;> first | contradiction | skip
    rename_i heq
    cases heq
    exact ss_retO (by rw [n]; exact h)
  | .asgX i x, c, Wx, g, n, st, h => by
    unfold ckS1 at h
    split at h <;> first | contradiction | skip
    rename_i heq
    cases heq
    simp only [Bool.and_eq_true, Bool.not_eq_true'] at h
    obtain ⟨⟨h1, h2⟩, h3, h4⟩ := h
    exact PS.imp (set_ok g F n h1 h3 (by rw [h4]; rfl)) fun K σ H q => asgX_rd h2 q
  | .retN, c, Wx, g, n, st, h => by
    unfold ckS1 at h
    split at h <;> first | contradiction | skip
    rename_i heq
    cases heq
    exact ss_retN
  | .iff x a b, c, Wx, g, n, st, h => by
    unfold ckS1 at h
    split at h <;> first | contradiction | skip
    rename_i heq
    cases heq
    simp only [Bool.and_eq_true] at h
    exact ss_iff ((chk_ok x cf).t g.toGood F n _ h.1) (ckSs_ok F a c Wx g n _ h.2.1) (ckSs_ok F b c Wx g n _ h.2.2)
  | .for_ t it b, c, Wx, g, n, st, h => by
    unfold ckS1 at h
    split at h <;> first | contradiction | skip
    rename_i heq
    cases heq
    simp only [Bool.and_eq_true] at h
    obtain ⟨⟨h1, h2⟩, h3, h4⟩ := h
    exact ss_for g.toGood g.pw ((chk_ok it cf).i g.toGood F n _ _ h3) (ckTg_ok g.calm g.nd n g.sto t _ h2) (ckSs_ok F b c Wx g n _ h4) (noSet_ok h1 _)
  | .whl x b, c, Wx, g, n, st, h => by
    unfold ckS1 at h
    split at h <;> first | contradiction | skip
    rename_i heq
    cases heq
    simp only [Bool.and_eq_true] at h
    exact ss_whl g.toGood g.pw ((chk_ok x cf).t g.toGood F n _ h.1) (ckSs_ok F b c Wx g n _ h.2)
  | .brk, c, Wx, g, n, st, h => by
    unfold ckS1 at h
    split at h <;> first | contradiction | skip
    rename_i heq
    cases heq
    exact ss_brk
  | .cnt, c, Wx, g, n, st, h => by
    unfold ckS1 at h
    split at h <;> first | contradiction | skip
    rename_i heq
    cases heq
    exact ss_cnt
  | .pas, c, Wx, g, n, st, h => by
    unfold ckS1 at h
    split at h <;> first | contradiction | skip
    rename_i heq
    cases heq
    exact ss_pas
  | .nev, c, Wx, g, n, st, h => ⟨fun pins s σ H D I q => by
      obtain ⟨A₀, W₀, A, W, ρ, E, Kd, e, R, Xs, hw, k⟩ := q
      exact False.elim hw⟩
  | .slf k f x, c, Wx, g, n, st, h => by
    unfold ckS1 at h
    split at h <;> first | contradiction | skip
    · rename_i heq
      cases heq
      simp only [Bool.and_eq_true, Bool.not_eq_true', decide_eq_true_eq] at h
      obtain ⟨⟨h1, h2⟩, ⟨h3, h4⟩, h5⟩ := h
      exact PS.imp (ps_fld (nm_pe n h2) ((chk_ok x cf).x g.toGood F n _ h5) (noComp_sw h4 _ _ _)) fun K σ H q => slf_rd g.toGood (by rw [F.nm]; exact h1) h3 q
  | .tri b hs, c, Wx, g, n, st, h => by
    unfold ckS1 at h
    split at h <;> first | contradiction | skip
    rename_i heq
    cases heq
    simp only [Bool.and_eq_true, Bool.not_eq_true'] at h
    exact ss_tri g.toGood (by rw [← F.fr]; exact h.1.1) F n g.stk g.frm (fun W pn xe tk pw => ckSs_ok F b (c.tr pn xe) W (g.tr tk pw) n _ h.1.2) h.2
  | .nl, c, Wx, g, n, st, h => by unfold ckS1 at h; contradiction
  | .sq _ _, c, Wx, g, n, st, h => by unfold ckS1 at h; contradiction
  | .rai k xs, c, Wx, g, n, st, h => by
    unfold ckS1 at h
    split at h <;> first | contradiction | skip
    · rename_i heq
      cases heq
      simp only [Bool.and_eq_true, Bool.not_eq_true', decide_eq_true_eq] at h
      obtain ⟨⟨⟨h1, h2, h7⟩, h3, h4, h5⟩, h6⟩ := h
      have hk := List.contains_iff_mem.mp h1
      rw [← F.xc] at hk
      obtain ⟨f, e1⟩ := List.length_eq_one_iff.mp (eq_of_beq h7)
      rw [← F.nm] at e1
      have e2 := g.fx.exc k hk f e1
      subst h2
      obtain ⟨g1, g2⟩ := gl_ok h3
      rw [← F.cn] at g1 g2 ⊢
      exact ss_rai g.toGood hk h5 e1 e2 g1 g2 (star_ok h4 _ _) ((chk_ok _ cf).x g.toGood F n _ h6)
  | .frz _, c, Wx, g, n, st, h => by unfold ckS1 at h; contradiction
  | .hld _ _ _ _, c, Wx, g, n, st, h => by unfold ckS1 at h; contradiction
theorem ckSs_ok (F : Fit M cf) : ∀ (s : S) (c : Cx) (Wx : WX) (g : GoodS c M Wx) (n : c.N = N) (sts : List Stmt), ckSs cf N s c.env.scope sts = true → PSs c sts (rdS M Wx s)
  | .nl, c, Wx, g, n, sts, h => by
    unfold ckSs at h
    split at h <;> first | contradiction | skip
    exact ss_nl
  | .sq s r, c, Wx, g, n, sts, h => by
    unfold ckSs at h
    split at h <;> first | contradiction | skip
    · rename_i heq
      cases heq
      exact ss_frz (ckSs_ok F r c Wx g n _ h)
    · rename_i heq
      cases heq
      rw [Bool.and_eq_true, Bool.and_eq_true] at h
      obtain ⟨⟨h0, h1⟩, h2⟩ := h
      split at h2
      · rename_i st rest ed
        rw [Bool.and_eq_true] at h2
        have hs := hld_split ed
        rw [← hs]
        obtain ⟨nb, hx⟩ := ckApp_ok g F n h2.1
        exact ss_hld (fun t ht => ckSs_app F _ c Wx g n _ h1 h0 _ t ht) nb hx (ckSs_ok F r c Wx g n _ h2.2)
      · cases h2
    · rename_i heq
      cases heq
      exact ss_frzD (ckSs_ok F r c Wx g n _ h)
    · rename_i heq
      cases heq
      simp only [Bool.and_eq_true] at h
      exact ss_sq (ckS1_ok F s c Wx g n _ h.1) (ckSs_ok F r c Wx g n _ h.2)
  | .asg _ _, c, Wx, g, n, sts, h => by unfold ckSs at h; contradiction
  | .nev, c, Wx, g, n, sts, h => by unfold ckSs at h; contradiction
  | .asgD _ _, c, Wx, g, n, sts, h => by unfold ckSs at h; contradiction
  | .retO _, c, Wx, g, n, sts, h => by unfold ckSs at h; contradiction
  | .asgX _ _, c, Wx, g, n, sts, h => by unfold ckSs at h; contradiction
  | .setD _ _ _, c, Wx, g, n, sts, h => by unfold ckSs at h; contradiction
  | .frzD _, c, Wx, g, n, sts, h => by unfold ckSs at h; contradiction
  | .slf _ _ _, c, Wx, g, n, sts, h => by unfold ckSs at h; contradiction
  | .tri _ _, c, Wx, g, n, sts, h => by unfold ckSs at h; contradiction
  | .asgO _ _, c, Wx, g, n, sts, h => by unfold ckSs at h; contradiction
  | .asgT _ _, c, Wx, g, n, sts, h => by unfold ckSs at h; contradiction
  | .par _ _, c, Wx, g, n, sts, h => by unfold ckSs at h; contradiction
  | .app _ _, c, Wx, g, n, sts, h => by unfold ckSs at h; contradiction
  | .ext _ _, c, Wx, g, n, sts, h => by unfold ckSs at h; contradiction
  | .seti _ _ _, c, Wx, g, n, sts, h => by unfold ckSs at h; contradiction
  | .appP _ _ _, c, Wx, g, n, sts, h => by unfold ckSs at h; contradiction
  | .asgP _ _, c, Wx, g, n, sts, h => by unfold ckSs at h; contradiction
  | .asgPA _ _ _, c, Wx, g, n, sts, h => by unfold ckSs at h; contradiction
  | .exp _, c, Wx, g, n, sts, h => by unfold ckSs at h; contradiction
  | .ret _, c, Wx, g, n, sts, h => by unfold ckSs at h; contradiction
  | .retN, c, Wx, g, n, sts, h => by unfold ckSs at h; contradiction
  | .iff _ _ _, c, Wx, g, n, sts, h => by unfold ckSs at h; contradiction
  | .for_ _ _ _, c, Wx, g, n, sts, h => by unfold ckSs at h; contradiction
  | .whl _ _, c, Wx, g, n, sts, h => by unfold ckSs at h; contradiction
  | .brk, c, Wx, g, n, sts, h => by unfold ckSs at h; contradiction
  | .cnt, c, Wx, g, n, sts, h => by unfold ckSs at h; contradiction
  | .pas, c, Wx, g, n, sts, h => by unfold ckSs at h; contradiction
  | .rai _ _, c, Wx, g, n, sts, h => by unfold ckSs at h; contradiction
  | .frz _, c, Wx, g, n, sts, h => by unfold ckSs at h; contradiction
  | .hld _ _ _ _, c, Wx, g, n, sts, h => by unfold ckSs at h; contradiction
theorem ckSs_app (F : Fit M cf) : ∀ (s : S) (c : Cx) (Wx : WX) (g : GoodS c M Wx) (n : c.N = N) (sts : List Stmt), ckSs cf N s c.env.scope sts = true → s.plain = true → ∀ (rest : List Stmt) (t : TS), PSs c rest t → PSs c (sts ++ rest) (tSeq (rdS M Wx s) t)
  | .nl, c, Wx, g, n, sts, h => by
    unfold ckSs at h
    split at h <;> first | contradiction | skip
    exact fun _ rest t ht => app_nl ht
  | .sq s r, c, Wx, g, n, sts, h => by
    unfold ckSs at h
    split at h <;> first | contradiction | skip
    · rename_i heq
      cases heq
      exact fun hp => by unfold S.plain at hp; cases hp
    · rename_i heq
      cases heq
      exact fun hp => by unfold S.plain at hp; cases hp
    · rename_i heq
      cases heq
      exact fun hp => by unfold S.plain at hp; cases hp
    · rename_i heq
      cases heq
      simp only [Bool.and_eq_true] at h
      exact fun hp rest t ht => app_sq (ckS1_ok F s c Wx g n _ h.1) (ckSs_app F r c Wx g n _ h.2 (plain_sq hp) rest t ht)
  | .asg _ _, c, Wx, g, n, sts, h => by unfold ckSs at h; contradiction
  | .nev, c, Wx, g, n, sts, h => by unfold ckSs at h; contradiction
  | .asgD _ _, c, Wx, g, n, sts, h => by unfold ckSs at h; contradiction
  | .retO _, c, Wx, g, n, sts, h => by unfold ckSs at h; contradiction
  | .asgX _ _, c, Wx, g, n, sts, h => by unfold ckSs at h; contradiction
  | .setD _ _ _, c, Wx, g, n, sts, h => by unfold ckSs at h; contradiction
  | .frzD _, c, Wx, g, n, sts, h => by unfold ckSs at h; contradiction
  | .slf _ _ _, c, Wx, g, n, sts, h => by unfold ckSs at h; contradiction
  | .tri _ _, c, Wx, g, n, sts, h => by unfold ckSs at h; contradiction
  | .asgO _ _, c, Wx, g, n, sts, h => by unfold ckSs at h; contradiction
  | .asgT _ _, c, Wx, g, n, sts, h => by unfold ckSs at h; contradiction
  | .par _ _, c, Wx, g, n, sts, h => by unfold ckSs at h; contradiction
  | .app _ _, c, Wx, g, n, sts, h => by unfold ckSs at h; contradiction
  | .ext _ _, c, Wx, g, n, sts, h => by unfold ckSs at h; contradiction
  | .seti _ _ _, c, Wx, g, n, sts, h => by unfold ckSs at h; contradiction
  | .appP _ _ _, c, Wx, g, n, sts, h => by unfold ckSs at h; contradiction
  | .asgP _ _, c, Wx, g, n, sts, h => by unfold ckSs at h; contradiction
  | .asgPA _ _ _, c, Wx, g, n, sts, h => by unfold ckSs at h; contradiction
  | .exp _, c, Wx, g, n, sts, h => by unfold ckSs at h; contradiction
  | .ret _, c, Wx, g, n, sts, h => by unfold ckSs at h; contradiction
  | .retN, c, Wx, g, n, sts, h => by unfold ckSs at h; contradiction
  | .iff _ _ _, c, Wx, g, n, sts, h => by unfold ckSs at h; contradiction
  | .for_ _ _ _, c, Wx, g, n, sts, h => by unfold ckSs at h; contradiction
  | .whl _ _, c, Wx, g, n, sts, h => by unfold ckSs at h; contradiction
  | .brk, c, Wx, g, n, sts, h => by unfold ckSs at h; contradiction
  | .cnt, c, Wx, g, n, sts, h => by unfold ckSs at h; contradiction
  | .pas, c, Wx, g, n, sts, h => by unfold ckSs at h; contradiction
  | .rai _ _, c, Wx, g, n, sts, h => by unfold ckSs at h; contradiction
  | .frz _, c, Wx, g, n, sts, h => by unfold ckSs at h; contradiction
  | .hld _ _ _ _, c, Wx, g, n, sts, h => by unfold ckSs at h; contradiction
end
end
end Q
/-! Q layer, part R: a def keeps its promise over data. -/
namespace Q
open PySem PySem.Spec L2
section
variable {P : Program} {w : World} {K : PySem.W.Frag} {mg : Str → Option Value} {base : Heap} {M : Pm} {cf : Cf} {N : List Str}
/-- the slots at the entry -/
def sl0 (N : List Str) (ds : List D) : Sl := ds.map Slot.val ++ List.replicate (N.length - ds.length) .un
theorem rep0 {A : Addr → Prop} {W : Wd} {n : Nat} {vs : List V} {ds : List D} (b : Bas M.G A W) (s : Strm M.G n W.H) (t : LamX.Tabs M.G.T W.H) (h : Ats M.G A W vs ds) : Rep M.G A W A (start N vs) W ⟨sl0 N ds, n⟩ := by
  have hl := h.length
  refine ⟨b, by simp [L2.start, sl0, hl], s, t, b.ain, fun _ h => h, fun _ h => .inl h, .refl, rfl, fun i d e => ?_, fun i xs e => ?_, fun i j a xs ys e _ _ _ => ?_, fun i g kk e => ?_, fun i z p e hz => ?_⟩
  · have hi : i < ds.length := by
      by_cases hi : i < ds.length
      · exact hi
      · exfalso
        have e : (sl0 N ds)[i]? = some (.val d) := e
        unfold sl0 at e
        rw [List.getElem?_append_right (by simpa using hi), List.getElem?_replicate] at e
        split at e <;> simp at e
    have e2 : ds[i]? = some d := by
      have e : (sl0 N ds)[i]? = some (.val d) := e
      unfold sl0 at e
      rw [List.getElem?_append_left (by simpa using hi), List.getElem?_map, Option.map_eq_some_iff] at e
      obtain ⟨x, e1, e2⟩ := e
      cases e2
      exact e1
    obtain ⟨v, f1, f2⟩ := h.get e2
    refine ⟨v, ?_, f2⟩
    unfold L2.start
    rw [List.getElem?_append_left (by simpa [hl] using hi), List.getElem?_map, f1]
    rfl
  · exfalso
    have e : (sl0 N ds)[i]? = some (.own xs) := e
    unfold sl0 at e
    by_cases hi : i < ds.length
    · rw [List.getElem?_append_left (by simpa using hi), List.getElem?_map, Option.map_eq_some_iff] at e
      obtain ⟨x, e1, e2⟩ := e
      cases e2
    · rw [List.getElem?_append_right (by simpa using hi), List.getElem?_replicate] at e
      split at e <;> simp at e
  · exfalso
    have e : (sl0 N ds)[i]? = some (.own xs) := e
    unfold sl0 at e
    by_cases hi : i < ds.length
    · rw [List.getElem?_append_left (by simpa using hi), List.getElem?_map, Option.map_eq_some_iff] at e
      obtain ⟨x, e1, e2⟩ := e
      cases e2
    · rw [List.getElem?_append_right (by simpa using hi), List.getElem?_replicate] at e
      split at e <;> simp at e
  · exfalso
    have e : (sl0 N ds)[i]? = some (.clo g kk) := e
    unfold sl0 at e
    by_cases hi : i < ds.length
    · rw [List.getElem?_append_left (by simpa using hi), List.getElem?_map, Option.map_eq_some_iff] at e
      obtain ⟨x, e1, e2⟩ := e
      cases e2
    · rw [List.getElem?_append_right (by simpa using hi), List.getElem?_replicate] at e
      split at e <;> simp at e
  · exfalso
    have e : (sl0 N ds)[i]? = some z := e
    unfold sl0 at e
    by_cases hi : i < ds.length
    · rw [List.getElem?_append_left (by simpa using hi), List.getElem?_map, Option.map_eq_some_iff] at e
      obtain ⟨x, e1, e2⟩ := e
      subst e2
      cases hz
    · rw [List.getElem?_append_right (by simpa using hi), List.getElem?_replicate] at e
      split at e
      · cases e
        cases hz
      · cases e
theorem Rep.ste0 {A₀ A : Addr → Prop} {W₀ W : Wd} {σ : L2.St} {ρ : Env} (R : Rep M.G A₀ W₀ A σ W ρ) : Ste M.G A₀ W₀ W ρ.n := ⟨R.iot, R.ext, R.strm, R.tabs⟩
theorem ExcAt.stp {G : Gb} {A A' : Addr → Prop} {W W' : Wd} {cls : Value} {dd : Option Addr} {e : Exc} (h : ExcAt G A W cls dd e) (k : ∀ d o, dd = some d → W.H d = some o → W'.H d = some o) (s : Stp A W A' W') : ExcAt G A' W' cls dd e := by
  obtain ⟨h1, h3, h2⟩ := h
  refine ⟨h1, h3, ?_⟩
  rcases h2 with h2 | ⟨d, vs, e1, e2, e3, e4⟩
  · exact .inl h2
  · exact .inr ⟨d, vs, e1, k d _ e1 e2, e3, e4.stp s⟩
theorem ExcAt.less {G : Gb} {A A' : Addr → Prop} {W : Wd} {cls : Value} {dd : Option Addr} {e : Exc} (h : ExcAt G A W cls dd e) (s : ∀ b, A' b → A b) : ExcAt G A' W cls dd e := h.stp (fun _ _ _ e => e) (.less s)
/-- what a body must do, over data -/
def Does (Phy : List Fn) (N : List Str) (F : Fn) (s : S) : Prop := ∀ ds n Qd Ed, ds.length = F.ps.length → F.sp ds n Qd Ed → wS Phy s (fun e ρ => Ed e ρ.n) ⟨sl0 N ds, n⟩ { nx := fun ρ => Qd .non ρ.n, rt := Qd }
theorem def_ok {F : Fn} {x qual : Str} {ps : Arguments} {body : List Stmt} {sc : Scope} {dvs : List V} {kws : List (Str × V)} {f : Addr} {fd : FuncData} {s : S} (Fu : FunD K x qual ps body sc dvs kws f fd) (Sc : FnScope N F.ps sc)
    (fx : Fx P w K mg base M) (fit : Fit M cf) (nc : M.cal = false) (nl : M.lm = false) (ng : M.gd = false) (ck : ckSs cf N s sc body = true) (law : Does M.Phy N F s) (hf : F.fr = true → M.fr = true := by intro z; exact absurd z (by decide)) : FnOk P w K mg base (L2.CX P w) (M.k + M.x + 1) f fd F.ps (spD M F) := by
  refine Fu.ok Sc (fun vs H Q E h => h.1) fun cdv A outer s0 H vs Q E hr h => ?_
  obtain ⟨hl, A', W, ds, n, Qd, Ed, rfl, hb, hst, ht, ha, hsp, hQ, hE⟩ := h
  have hc : GoodS (cxOf (L2.CX P w) P w K mg base N qual sc f cdv A outer s0 W.H E) M (fun cls d _ H => E cls d H) :=
    ⟨⟨fx, rfl, Sc.nd, hr, takes_of rfl rfl rfl rfl, (fun h => by rw [nc] at h; cases h), (fun h => by rw [nl] at h; cases h), (fun h => by rw [ng] at h; cases h)⟩, passes_of rfl, fun s h => ⟨h, .inl rfl⟩, Sc.kind, rfl, rfl⟩
  refine ⟨_, ckSs_ok fit s _ _ hc rfl body ck, A', W, A', W, _, fun e ρ => Ed e ρ.n, _, rfl, rep0 hb hst ht ha, fun A2 σ2 W2 ρ2 e cls dd R x q => ?_, law ds n Qd Ed (by rw [← ha.length]; exact hl) hsp, ?_⟩
  · exact hE e W2 ρ2.n cls dd R.ste0 (x.less R.aup) q
  · refine ⟨fun A2 σ2 W2 ρ2 R s q => ?_, fun _ _ _ _ _ _ z => z.elim, fun _ _ _ _ _ _ z => z.elim, fun v d A2 σ2 W2 sl n R x fr q => ?_⟩
    · exact hQ .non .non W2 ρ2.n R.ste0 .non (fun _ => frs_no (fun _ _ z => nomatch z) rfl) q
    · exact hQ v d W2 n R.ste0 (x.stp (.less R.aup)) (fun z => fr (hf z)) q
/-- an __init__: its first slot is the instance -/
def slI (N : List Str) (c : Nat) (p : Addr) (ds : List D) : Sl := .slf c p [] :: (ds.map Slot.val ++ List.replicate (N.length - (ds.length + 1)) .un)
def isMade (G : Gb) (c : Nat) (p : Addr) (Qd : D → Nat → Prop) (ρ : Env) : Prop := match ρ.sl[(0 : Nat)]? with
  | some (.slf c' p' fs) => (c' = c ∧ p' = p) ∧ (fs.length = (G.nm c).length ∧ Qd (.obj c fs) ρ.n)
  | _ => False
theorem rep0I {A : Addr → Prop} {W : Wd} {n : Nat} {vs : List V} {ds : List D} {k : Nat} {p dx : Addr} (np : W.H p = none) (nd : W.H dx = none) (ne : dx ≠ p) (hk : k ∈ M.G.cl) (b : Bas M.G A W) (s : Strm M.G n W.H) (t : LamX.Tabs M.G.T W.H) (h : Ats M.G A W vs ds) :
    Rep M.G A W (fun a => A a ∨ a = p) (L2.start N (.ref p :: vs)) ⟨W.iot, upd (upd W.H dx (.own p)) p (.ins (M.G.kap k) dx [])⟩ ⟨slI N k p ds, n⟩ ∧
      Stp A W (fun a => A a ∨ a = p) ⟨W.iot, upd (upd W.H dx (.own p)) p (.ins (M.G.kap k) dx [])⟩ := by
  have hl := h.length
  have np' : upd W.H dx (.own p) p = none := by rw [upd_ne (Ne.symm ne)]; exact np
  have st : Stp A W (fun a => A a ∨ a = p) ⟨W.iot, upd (upd W.H dx (.own p)) p (.ins (M.G.kap k) dx [])⟩ :=
    ((Stp.lay (o := .own p) nd).trans (Stp.more (W := ⟨W.iot, upd W.H dx (.own p)⟩) np')).trans (Stp.lay (W := ⟨W.iot, upd W.H dx (.own p)⟩) np')
  have n0 : ¬ A p := fun z => by
    obtain ⟨o, e, _⟩ := b.ain p z
    rw [np] at e
    cases e
  have kp : ∀ x u, W.H x = some u → upd (upd W.H dx (.own p)) p (.ins (M.G.kap k) dx []) x = some u := fun x u e => by
    rw [upd_ne (ne_of_none e np), upd_ne (ne_of_none e nd)]
    exact e
  have key : ∀ {j : Nat} {z : Slot}, (ds.map Slot.val ++ List.replicate (N.length - (ds.length + 1)) .un)[j]? = some z → z = .un ∨ ∃ d, z = .val d ∧ ds[j]? = some d := fun {j z} e => by
    by_cases hi : j < ds.length
    · rw [List.getElem?_append_left (by simpa using hi), List.getElem?_map, Option.map_eq_some_iff] at e
      obtain ⟨x, e1, e2⟩ := e
      exact .inr ⟨x, e2.symm, e1⟩
    · rw [List.getElem?_append_right (by simpa using hi), List.getElem?_replicate] at e
      split at e
      · exact .inl (Option.some.inj e).symm
      · cases e
  refine ⟨⟨b, by simp [L2.start, slI, hl], (s.lay nd).lay np', (t.ext (ext_new nd)).ext (ext_new np'), fun x hx => ?_, fun x hx => .inl hx, fun x hx => ?_, (ExtS.lay nd).trans (ExtS.lay np') fun _ h => h, rfl, fun i d e => ?_, fun i xs e => ?_, fun i j a xs ys e _ _ _ => ?_, fun i g kk e => ?_, fun i z q e hz => ?_⟩, st⟩
  · rcases hx with hx | rfl
    · obtain ⟨o, e, t⟩ := b.ain x hx
      exact ⟨o, kp x o e, t⟩
    · exact ⟨_, upd_same, fun _ z => nomatch z⟩
  · rcases hx with hx | rfl
    · exact .inl hx
    · exact .inr (.of np)
  · cases i with
    | zero => cases e
    | succ i =>
      rcases key (show (ds.map Slot.val ++ List.replicate (N.length - (ds.length + 1)) .un)[i]? = some (.val d) from e) with z | ⟨d', z, e2⟩
      · cases z
      · cases z
        obtain ⟨v, f1, f2⟩ := h.get e2
        refine ⟨v, ?_, f2.stp st⟩
        have hi : i < vs.length := (List.getElem?_eq_some_iff.mp f1).1
        show ((V.ref p :: vs).map some ++ _)[i + 1]? = _
        rw [List.map_cons, List.cons_append, List.getElem?_cons_succ, List.getElem?_append_left (by simpa using hi), List.getElem?_map, f1]
        rfl
  · exfalso
    cases i with
    | zero => cases e
    | succ i =>
      rcases key (show (ds.map Slot.val ++ List.replicate (N.length - (ds.length + 1)) .un)[i]? = some (.own xs) from e) with z | ⟨d', z, _⟩ <;> cases z
  · exfalso
    cases i with
    | zero => cases e
    | succ i =>
      rcases key (show (ds.map Slot.val ++ List.replicate (N.length - (ds.length + 1)) .un)[i]? = some (.own xs) from e) with z | ⟨d', z, _⟩ <;> cases z
  · exfalso
    cases i with
    | zero => cases e
    | succ i =>
      rcases key (show (ds.map Slot.val ++ List.replicate (N.length - (ds.length + 1)) .un)[i]? = some (.clo g kk) from e) with z | ⟨d', z, _⟩ <;> cases z
  · cases i with
    | zero =>
      cases e
      cases hz
      exact ⟨_, rfl, .inr rfl, n0, upd_same, dx, [], rfl, rfl, Nat.zero_le _, .nil, hk⟩
    | succ i =>
      rcases key (show (ds.map Slot.val ++ List.replicate (N.length - (ds.length + 1)) .un)[i]? = some z from e) with z' | ⟨d', z', _⟩ <;> (rw [z'] at hz; cases hz)
def DoesI (G : Gb) (Phy : List Fn) (N : List Str) (c : Nat) (F : Fn) (s : S) : Prop := ∀ p ds n Qd Ed, ds.length + 1 = F.ps.length → F.sp ds n Qd Ed → wS Phy s (fun e ρ => Ed e ρ.n) ⟨slI N c p ds, n⟩ { nx := isMade G c p Qd, rt := fun _ _ => False }
theorem init_ok {F : Fn} {k : Nat} {x qual : Str} {ps : Arguments} {body : List Stmt} {sc : Scope} {dvs : List V} {kws : List (Str × V)} {f : Addr} {fd : FuncData} {s : S} (Fu : FunD K x qual ps body sc dvs kws f fd) (Sc : FnScope N F.ps sc)
    (fx : Fx P w K mg base M) (fit : Fit M cf) (nc : M.cal = false) (nl : M.lm = false) (ng : M.gd = false) (hk : k ∈ M.G.cl) (ck : ckSs cf N s sc body = true) (law : DoesI M.G M.Phy N k F s) : FnOk P w K mg base (L2.CX P w) (M.k + M.x + 1) f fd F.ps (spI M k F) := by
  refine Fu.ok Sc (fun vs H Q E h => h.1) fun cdv A outer s0 H vs Q E hr h => ?_
  obtain ⟨hl, p, dx, vs', A', W, ds, n, Qd, Ed, rfl, np, nd, ne, rfl, hb, hst, ht, ha, hsp, hQ, hE⟩ := h
  have hc : GoodS (cxOf (L2.CX P w) P w K mg base N qual sc f cdv A outer s0 (upd (upd W.H dx (.own p)) p (.ins (M.G.kap k) dx [])) E) M (fun cls d _ H => E cls d H) :=
    ⟨⟨fx, rfl, Sc.nd, hr, takes_of rfl rfl rfl rfl, (fun h => by rw [nc] at h; cases h), (fun h => by rw [nl] at h; cases h), (fun h => by rw [ng] at h; cases h)⟩, passes_of rfl, fun s h => ⟨h, .inl rfl⟩, Sc.kind, rfl, rfl⟩
  obtain ⟨R0, s0'⟩ := rep0I (N := N) np nd ne hk hb hst ht ha
  refine ⟨_, ckSs_ok fit s _ _ hc rfl body ck, A', W, _, _, _, fun e ρ => Ed e ρ.n, _, rfl, R0, fun A2 σ2 W2 ρ2 e cls dd R x q => ?_, law p ds n Qd Ed (by rw [← ha.length]; exact hl) hsp, ?_⟩
  · exact hE e W2 ρ2.n cls dd R.ste0 (x.less R.aup) q
  · refine ⟨fun A2 σ2 W2 ρ2 R s q => ?_, fun _ _ _ _ _ _ z => z.elim, fun _ _ _ _ _ _ z => z.elim, fun v d A2 σ2 W2 sl n R x _ q => q.elim⟩
    have q : isMade M.G k p Qd ρ2 := q
    unfold isMade at q
    split at q
    case h_2 => exact q.elim
    rename_i c' p' fs e
    obtain ⟨⟨rfl, rfl⟩, q1, q2⟩ := q
    obtain ⟨o2, e1, e2, e3, e4, dx2, fs2, rfl, e5, e6, e7, e8⟩ := R.slf 0 _ p' e rfl
    refine hQ (.obj c' fs) W2 ρ2.n R.ste0 ?_ q2
    refine .obj e8 e4 e3 ?_ (e7.stp (.less R.aup))
    rw [e5, q1, List.take_length]
end
end Q
/-! Q layer, part i: a def that gets a lambda. -/
namespace Q
open PySem PySem.Spec L2
def lamFn (key : Key) (L : DSp) : Fn := { name := Str.ofString "", ps := [], sp := L, key := some key }
section
variable {c : Cx} {M : Pm} {Wx : WX} {key : Key} {L : DSp}
theorem calW_some {Phy : List Fn} {sl : Sl} {i : Nat} {Q : Fn → Prop} (h : calW Phy sl i Q) : ∃ g k F, sl[i]? = some (.clo g k) ∧ Phy[g]? = some F ∧ F.key = some k ∧ Q F := by
  unfold calW at h
  split at h
  case h_2 => exact h.elim
  rename_i g k e
  split at h
  case h_2 => exact h.elim
  rename_i F e2
  exact ⟨g, k, F, e, e2, h.1, h.2⟩
/-- the only entry with a key -/
theorem lam_only {Phy : List Fn} (nk : ∀ F ∈ Phy, F.key = none) {g : Nat} {F : Fn} {k : Key} (e : (Phy ++ [lamFn key L])[g]? = some F) (h : F.key = some k) : k = key ∧ F.sp = L := by
  have hm := List.mem_of_getElem? e
  rcases List.mem_append.mp hm with hm | hm
  · rw [nk F hm] at h
    cases h
  · have : F = lamFn key L := List.mem_singleton.mp hm
    subst this
    have h : some key = some k := h
    cases h
    exact ⟨rfl, rfl⟩
theorem cal_rd {Phy : List Fn} (hPhy : M.Phy = Phy ++ [lamFn key L]) (nk : ∀ F ∈ Phy, F.key = none) {i : Nat} {xs : X} {σ : L2.St} {H : Hp} {Q : VK} (h : rdX M Wx (.cal i xs) σ H Q) :
    σ[i]? = some (some (.ref key.a)) ∧ rdA M Wx xs σ H fun vs H2 => LR M.G key L Wx σ vs H2 Q := by
  obtain ⟨A₀, W₀, A, W, sl, n, E, Qd, e, R, Xs, hw, kk⟩ := h
  obtain ⟨g, k, F, e1, e2, e3, hw⟩ := calW_some hw
  rw [hPhy] at e2
  obtain ⟨rfl, hL⟩ := lam_only nk e2 e3
  obtain ⟨c1, c2, c3⟩ := R.clo i g k e1
  refine ⟨c1, A₀, W₀, A, W, sl, n, E, _, e, R, Xs, hw, fun vs ds W1 n1 S1 r1 q1 => ?_⟩
  have r1 : Ats M.G A W1 vs ds := r1
  have R1 := R.ste S1
  refine ⟨A, W1, σ, sl, n1, ds, Qd, E, rfl, by rw [c2, c3]; exact R1, r1, by rw [← hL]; exact q1, fun v d W3 n3 S at' q => ?_, fun e W3 n3 cls dd S x q => ?_⟩
  · exact kk v d W3 n3 (S1.trans S) ⟨.inl at', fun _ => at', fun z => nomatch z⟩ q
  · exact Xs e W3 n3 cls dd (S1.trans S) x q
theorem lam_ok {Phy : List Fn} (hPhy : M.Phy = Phy ++ [lamFn key L]) (nk : ∀ F ∈ Phy, F.key = none) (hc : LC M.G c key L) {pn : List (Addr × Obj)} {xe : Value → Shared → Prop} {W' : WX} (tk : Takes (c.tr pn xe) W') {i : Nat} {s : Str} {p cp : Pos} {es : List Expr} {xs : X}
    (hn : nmB c.N c.env.scope i s = true) (ha : es.all nst = true) (hx : es = [] → xs = .nil) (hp : PA (c.tr pn xe) es (rdA M W' xs)) : PE (c.tr pn xe) (.Call (.Name s p) es [] cp) (rdX M W' (.cal i xs)) := by
  cases es with
  | nil =>
    have := hx rfl
    subst this
    refine PE.imp (hc pn xe W' tk i s p cp [] tNil hn ha (fun _ => rfl) pa_nil) fun σ H Q h => ?_
    obtain ⟨h1, A₀, W₀, A, W, sl, n, E, Qd, e, R, Xs, hw, kk⟩ := cal_rd hPhy nk h
    refine ⟨h1, ?_⟩
    have := kk [] [] W n R.refl .nil hw
    rw [e] at this
    exact this
  | cons e es => exact PE.imp (hc pn xe W' tk i s p cp (e :: es) _ hn ha (fun z => nomatch z) hp) fun σ H Q h => cal_rd hPhy nk h
/-- the slots of a def that gets a lambda -/
def slL (N : List Str) (ds : List D) (g : Nat) (key : Key) : Sl := (ds.map Slot.val ++ [.clo g key]) ++ List.replicate (N.length - (ds.length + 1)) .un
theorem slL_get {N : List Str} {ds : List D} {g : Nat} {i : Nat} {z : Slot} (e : (slL N ds g key)[i]? = some z) : (∃ d, z = .val d ∧ ds[i]? = some d) ∨ (z = .clo g key ∧ i = ds.length) ∨ z = .un := by
  unfold slL at e
  by_cases hi : i < ds.length
  · rw [List.getElem?_append_left (by simp; omega), List.getElem?_append_left (by simpa using hi), List.getElem?_map, Option.map_eq_some_iff] at e
    obtain ⟨x, e1, e2⟩ := e
    exact .inl ⟨x, e2.symm, e1⟩
  · by_cases h2 : i = ds.length
    · subst h2
      rw [List.getElem?_append_left (by simp), List.getElem?_append_right (by simp)] at e
      simp at e
      exact .inr (.inl ⟨e.symm, rfl⟩)
    · rw [List.getElem?_append_right (by simp; omega), List.getElem?_replicate] at e
      split at e
      · exact .inr (.inr (Option.some.inj e).symm)
      · cases e
theorem repL {G : Gb} {N : List Str} {n g : Nat} {vs : List V} {ds : List D} (b : Bas G key.A key.W) (s : Strm G n key.W.H) (t : LamX.Tabs G.T key.W.H) (h : Ats G key.A key.W vs ds) :
    Rep G key.A key.W key.A (L2.start N (vs ++ [.ref key.a])) key.W ⟨slL N ds g key, n⟩ := by
  have hl := h.length
  refine ⟨b, by simp [L2.start, slL, hl], s, t, b.ain, fun _ h => h, fun _ h => .inl h, .refl, rfl, fun i d e => ?_, fun i xs e => ?_, fun i j a xs ys e _ _ _ => ?_, fun i g' k e => ?_, fun i z p e hz => ?_⟩
  · rcases slL_get e with ⟨d', z, e2⟩ | ⟨z, _⟩ | z <;> cases z
    obtain ⟨v, f1, f2⟩ := h.get e2
    have hi : i < vs.length := (List.getElem?_eq_some_iff.mp f1).1
    refine ⟨v, ?_, f2⟩
    show ((vs ++ [V.ref key.a]).map some ++ _)[i]? = _
    rw [List.getElem?_append_left (by simp; omega), List.getElem?_map, List.getElem?_append_left hi, f1]
    rfl
  · rcases slL_get e with ⟨d', z, e2⟩ | ⟨z, _⟩ | z <;> cases z
  · rcases slL_get e with ⟨d', z, e2⟩ | ⟨z, _⟩ | z <;> cases z
  · rcases slL_get e with ⟨d', z, e2⟩ | ⟨z, hi⟩ | z <;> cases z
    refine ⟨?_, rfl, rfl⟩
    subst hi
    show ((vs ++ [V.ref key.a]).map some ++ _)[ds.length]? = _
    rw [List.getElem?_append_left (by simp [hl]), List.getElem?_map, List.getElem?_append_right (by omega)]
    simp [hl]
  · rcases slL_get e with ⟨d', z', e2⟩ | ⟨z', _⟩ | z' <;> (rw [z'] at hz; cases hz)
end
section
variable {P : Program} {w : World} {K : PySem.W.Frag} {mg : Str → Option Value} {base : Heap} {M : Pm} {cf : Cf} {N : List Str}
def Pm.lam (M : Pm) (key : Key) (L : DSp) : Pm := { M with Phy := M.Phy ++ [lamFn key L] }
def DoesL (Phy : List Fn) (N : List Str) (F : Fn) (s : S) : Prop := ∀ (L : DSp) (key : Key) ds n Qd Ed, ds.length + 1 = F.ps.length → F.hsp L ds n Qd Ed →
  wS (Phy ++ [lamFn key L]) s (fun e ρ => Ed e ρ.n) ⟨slL N ds Phy.length key, n⟩ { nx := fun ρ => Qd .non ρ.n, rt := Qd }
theorem hof_ok {F : Fn} {x qual : Str} {params : Arguments} {bg : List Stmt} {sg : Scope} {dV kV doc pm cdv ct oc : Value} {an od : Option Addr} {osl : Array (Option Value)} {gam : Addr} {s : S}
    (hm : mg F.name = some (.ref gam)) (kp : PySem.W.keepIn K (.ref gam) = true) (lk : K.lookup gam = some ⟨oc, od, .func (PySem.W.fnOf x qual params bg sg dV kV doc pm an cdv ct), osl⟩) (hcd : PySem.W.codeIn K cdv qual = true) (Sc : FnScope N F.ps sg)
    (hb : L2.Binds K (PySem.W.fnOf x qual params bg sg dV kV doc pm an cdv ct) F.ps []) (nk : ∀ F ∈ M.Phy, F.key = none) (nl : M.lm = false) (ng : M.gd = false) (fx : ∀ key L, Fx P w K mg base (M.lam key L)) (fit : ∀ key L, Fit (M.lam key L) cf)
    (ck : ckSs cf N s sg bg = true) (law : DoesL M.Phy N F s) : HofOk P w K mg base M.G (M.k + M.x) gam F := by
  refine ⟨hm, kp, x, qual, params, bg, sg, dV, kV, doc, pm, an, cdv, ct, oc, od, osl, N, lk, hcd, Sc, hb, fun A outer s0 H E key L vs ds n Qd Ed Q hr hL eH hB hS hT ha hl hsp hQ hE => ?_⟩
  subst eH
  have hc : GoodS (cxOf (L2.CX P w) P w K mg base N qual sg gam cdv A outer s0 key.W.H E) (M.lam key L) (fun cls d _ H => E cls d H) :=
    ⟨⟨fx key L, rfl, Sc.nd, hr, takes_of rfl rfl rfl rfl, fun _ pn xe W' tk i s p cp es xs hn h2 h3 hp => lam_ok (M := M.lam key L) rfl nk hL tk hn h2 h3 hp, (fun h => by rw [show (M.lam key L).lm = M.lm from rfl, nl] at h; cases h), (fun h => by rw [show (M.lam key L).gd = M.gd from rfl, ng] at h; cases h)⟩, passes_of rfl, fun s h => ⟨h, .inl rfl⟩, Sc.kind, rfl, rfl⟩
  refine ⟨_, ckSs_ok (fit key L) s _ _ hc rfl bg ck, key.A, key.W, key.A, key.W, _, fun e ρ => Ed e ρ.n, _, rfl, repL (g := M.Phy.length) hB hS hT ha, fun A2 σ2 W2 ρ2 e cls dd R x q => ?_, law L key ds n Qd Ed hl hsp, ?_⟩
  · exact hE e W2 ρ2.n cls dd R.ste0 (x.less R.aup) q
  · refine ⟨fun A2 σ2 W2 ρ2 R s q => ?_, fun _ _ _ _ _ _ z => z.elim, fun _ _ _ _ _ _ z => z.elim, fun v d A2 σ2 W2 sl n R x _ q => ?_⟩
    · exact hQ .non .non W2 ρ2.n R.ste0 .non q
    · exact hQ v d W2 n R.ste0 (x.stp (.less R.aup)) q
end
end Q
/-! Q layer, part p: primitives. -/
namespace Q
open PySem PySem.Spec L2
structure Prm where
  rc : Scope → Expr → Option (List Expr)
  n : Nat
  sp : DSp
def Prm.fn (q : Prm) : Fn := { name := Str.ofString "", ps := List.replicate q.n (Str.ofString ""), sp := q.sp }
/-- a primitive keeps its promise -/
def PrmOk (q : Prm) (bs : List Str) : Prop := ∀ {c : Cx} {M : Pm} {Wx : WX} {p : Nat} {e : Expr} {es : List Expr} {xs : X}, Good c M.off Wx → (∀ s ∈ bs, s ∈ M.bs) → M.Phy[p]? = some q.fn → q.rc c.env.scope e = some es → PEs c M Wx xs es → PE c e (rdX M Wx (.pri p xs))
section
variable {c : Cx} {M : Pm} {Wx : WX}
/-- what is known where a primitive ends -/
structure PEnd (M : Pm) (A : Addr → Prop) (W : Wd) (n : Nat) (Qd : D → Nat → Prop) (Q : VK) : Prop where
  b : Bas M.G A W
  s : Strm M.G n W.H
  t : LamX.Tabs M.G.T W.H
  k : ∀ v d W' n', Ste M.G A W W' n' → At M.G A W' v d → Qd d n' → Q v W'.H
theorem PEnd.at {A : Addr → Prop} {W : Wd} {n : Nat} {Q : VK} {Qd : D → Nat → Prop} (P : PEnd M A W n Qd Q) {v : V} {d : D} (a : At M.G A W v d) (q : Qd d n) : Q v W.H := P.k v d W n (.refl P.s P.t) a q
theorem PEnd.lst {A : Addr → Prop} {W : Wd} {n : Nat} {Q : VK} {Qd : D → Nat → Prop} (P : PEnd M A W n Qd Q) {p : Addr} {vs : List V} {ds : List D} (np : W.H p = none) (a : Ats M.G A W vs ds) (q : Qd (.lst 0 ds) n) : Q (.ref p) (upd W.H p (.lst vs)) := by
  obtain ⟨W', e, S, at', _⟩ := fresh_at P.b (.refl P.s P.t) np a
  rw [← e]
  exact P.k _ _ W' n S at' q
theorem pri0 {q : Prm} {p : Nat} {σ : L2.St} {H : Hp} {Q : VK} (hn : q.n = 0) (hp : M.Phy[p]? = some q.fn) (h : rdX M Wx (.pri p .nil) σ H Q) :
    ∃ (A : Addr → Prop) (W : Wd) (n : Nat) (Qd : D → Nat → Prop) (Ed : Exc → Nat → Prop), W.H = H ∧ PEnd M A W n Qd Q ∧ q.sp [] n Qd Ed := by
  obtain ⟨A₀, W₀, A, W, sl, n, E, Qd, e, R, Xs, hw, kk⟩ := h
  have q1 : callW M.Phy p [] n Qd E := hw
  unfold callW at q1
  rw [hp] at q1
  exact ⟨A, W, n, Qd, E, e, ⟨R.bas, R.strm, R.tabs, fun v d W' n' S a q => kk v d W' n' S ⟨.inl a, fun _ => a, fun z => nomatch z⟩ q⟩, q1.2⟩
theorem pri1 {q : Prm} {p : Nat} {a : X} {σ : L2.St} {H : Hp} {Q : VK} (na : a.isBor = false) (hp : M.Phy[p]? = some q.fn) (h : rdX M Wx (.pri p (.cons a .nil)) σ H Q) :
    rdX M Wx a σ H fun v H1 => ∃ (A : Addr → Prop) (W : Wd) (d : D) (n : Nat) (Qd : D → Nat → Prop) (Ed : Exc → Nat → Prop), W.H = H1 ∧ PEnd M A W n Qd Q ∧ At M.G A W v d ∧ q.sp [d] n Qd Ed := by
  obtain ⟨A₀, W₀, A, W, sl, n, E, Qd, e, R, Xs, hw, kk⟩ := h
  refine ⟨A₀, W₀, A, W, sl, n, E, _, e, R, Xs, hw, fun v d W1 n1 S1 r1 q1 => ?_⟩
  have q1 : callW M.Phy p [d] n1 Qd E := q1
  unfold callW at q1
  rw [hp] at q1
  have R1 := R.ste S1
  exact ⟨A, W1, d, n1, Qd, E, rfl, ⟨R1.bas, R1.strm, R1.tabs, fun v d W' n' S a q => kk v d W' n' (S1.trans S) ⟨.inl a, fun _ => a, fun z => nomatch z⟩ q⟩, r1.2.1 na, q1.2⟩
end
/-! ### names of built-ins -/
def isGl (sc : Scope) (s : Str) (t : String) : Bool := decide (s = Str.ofString t) && glB sc s
theorem isGl_ok {c : Cx} {M : Pm} {Wx : WX} {s : Str} {t : String} {bs : List Str} (g : Good c M.off Wx) (hb : ∀ s ∈ bs, s ∈ M.bs) (ht : Str.ofString t ∈ bs) (h : isGl c.env.scope s t = true) : s = Str.ofString t ∧ Gl c (Str.ofString t) ∧ c.mg (Str.ofString t) = none := by
  unfold isGl at h
  simp only [Bool.and_eq_true, decide_eq_true_eq] at h
  obtain ⟨rfl, h⟩ := h
  exact ⟨rfl, (gl_ok h).1, g.fx.bs _ (hb _ ht)⟩
/-! ### bool(i), str(i) -/
def rcCall (t : String) : Scope → Expr → Option (List Expr) := fun sc e => match e with
  | .Call (.Name s _) [e] [] _ => if isGl sc s t = true then some [e] else none
  | _ => none
theorem rcCall_ok {t : String} {sc : Scope} {e : Expr} {es : List Expr} (h : rcCall t sc e = some es) : ∃ s p e' p', e = .Call (.Name s p) [e'] [] p' ∧ es = [e'] ∧ isGl sc s t = true := by
  unfold rcCall at h
  split at h
  case h_2 => cases h
  rename_i s p1 e p2
  split at h
  case isFalse => cases h
  rename_i hh
  cases h
  exact ⟨s, p1, e, p2, rfl, rfl, hh⟩
def pBool : Prm := ⟨rcCall "bool", 1, fun ds n Q _ => match ds with | [.int i] => Q (.bl (i != 0)) n | [.bl b] => Q (.bl b) n | _ => False⟩
theorem pBool_ok : PrmOk pBool ["bool"] := fun {c M Wx p e es xs} g hb hp he ha => by
  obtain ⟨s, p1, e, p2, rfl, rfl, h⟩ := rcCall_ok he
  obtain ⟨rfl, g1, g2⟩ := isGl_ok g hb (by simp) h
  cases ha with
  | cons na hs he2 hr =>
    cases hr
    refine PE.imp (pe_callTy call_bool1 g1 g2 (by decide +kernel) (pa_cons he2 pa_nil (hs _)) (by decide) (by decide) (hs _) (by rfl)) fun σ H Q h => ?_
    obtain ⟨A₀, W₀, A, W, sl, n, E, Qd, e, R, Xs, hw, kk⟩ := pri1 na hp h
    refine ⟨A₀, W₀, A, W, sl, n, E, Qd, e, R, Xs, hw, fun v d W1 n1 S1 r1 q1 => ?_⟩
    obtain ⟨A2, W2, d, n2, Qd2, Ed2, e2, P2, a2, sp2⟩ := kk v d W1 n1 S1 r1 q1
    rw [← e2]
    cases a2 with
    | int => exact .inl ⟨_, rfl, P2.at .bl sp2⟩
    | bl => exact .inr ⟨_, rfl, P2.at .bl sp2⟩
    | _ => exact False.elim sp2
def pStr : Prm := ⟨rcCall "str", 1, fun ds n Q _ => match ds with | [.int i] => i.natAbs.log2 < 1920 ∧ Q (.str (Str.ofString (toString i))) n | _ => False⟩
theorem pStr_ok : PrmOk pStr ["str"] := fun {c M Wx p e es xs} g hb hp he ha => by
  obtain ⟨s, p1, e, p2, rfl, rfl, h⟩ := rcCall_ok he
  obtain ⟨rfl, g1, g2⟩ := isGl_ok g hb (by simp) h
  cases ha with
  | cons na hs he2 hr =>
    cases hr
    refine PE.imp (pe_callTy call_str_int g1 g2 (by decide +kernel) (pa_cons he2 pa_nil (hs _)) (by decide) (by decide) (hs _) (by rfl)) fun σ H Q h => ?_
    obtain ⟨A₀, W₀, A, W, sl, n, E, Qd, e, R, Xs, hw, kk⟩ := pri1 na hp h
    refine ⟨A₀, W₀, A, W, sl, n, E, Qd, e, R, Xs, hw, fun v d W1 n1 S1 r1 q1 => ?_⟩
    obtain ⟨A2, W2, d, n2, Qd2, Ed2, e2, P2, a2, sp2⟩ := kk v d W1 n1 S1 r1 q1
    rw [← e2]
    cases a2 with
    | int => exact ⟨_, rfl, sp2.1, P2.at .str sp2.2⟩
    | _ => exact False.elim sp2
/-! ### xs[::-1] -/
def pRev : Prm := ⟨fun _ e => match e with | .Subscript e (.Slice none none (some (.UnaryOp .USub (.Constant (.int 1) _ _) _)) _) _ => some [e] | _ => none, 1,
  fun ds n Q _ => match ds with | [.lst _ xs] => Q (.lst 0 xs.reverse) n | _ => False⟩
theorem pRev_ok : PrmOk pRev [] := fun {c M Wx p e es xs} g hb hp he ha => by
  unfold pRev at he
  dsimp only at he
  split at he
  case h_2 => cases he
  cases he
  cases ha with
  | cons na hs he2 hr =>
    cases hr
    refine PE.imp (pe_revL he2) fun σ H Q h => ?_
    obtain ⟨A₀, W₀, A, W, sl, n, E, Qd, e, R, Xs, hw, kk⟩ := pri1 na hp h
    refine ⟨A₀, W₀, A, W, sl, n, E, Qd, e, R, Xs, hw, fun v d W1 n1 S1 r1 q1 => ?_⟩
    obtain ⟨A2, W2, d, n2, Qd2, Ed2, e2, P2, a2, sp2⟩ := kk v d W1 n1 S1 r1 q1
    rw [← e2]
    cases d with
    | lst j xs =>
      obtain ⟨a, vs, rfl, h1, h2⟩ := a2.isl
      exact ⟨a, vs, rfl, SqL.of h1, fun p np => P2.lst np h2.reverse sp2⟩
    | _ => exact False.elim sp2
/-! ### list(range(j)) -/
def pLrg : Prm := ⟨fun sc e => match e with | .Call (.Name s _) [.Call (.Name r _) [e] [] _] [] _ => if (isGl sc s "list" && isGl sc r "range") = true then some [e] else none | _ => none, 1,
  fun ds n Q _ => match ds with | [.int j] => 0 ≤ j ∧ j ≤ 16777216 ∧ Q (.lst 0 (rangeD 0 j.toNat)) n | _ => False⟩
theorem rgV_at {G : Gb} {A : Addr → Prop} {W : Wd} {j : Int} : Ats G A W (rgV 0 j) (rangeD 0 j.toNat) := by
  unfold rgV rangeD
  rw [Int.sub_zero]
  generalize List.range j.toNat = l
  induction l with
  | nil => exact .nil
  | cons x l ih => exact .cons .int ih
theorem pLrg_ok : PrmOk pLrg ["list", "range"] := fun {c M Wx p e es xs} g hb hp he ha => by
  unfold pLrg at he
  dsimp only at he
  split at he
  case h_2 => cases he
  rename_i s p1 r p2 e p3 p4
  split at he
  case isFalse => cases he
  rename_i h
  cases he
  rw [Bool.and_eq_true] at h
  obtain ⟨rfl, g1, g2⟩ := isGl_ok g hb (by simp) h.1
  obtain ⟨rfl, g3, g4⟩ := isGl_ok g hb (by simp) h.2
  cases ha with
  | cons na hs he2 hr =>
    cases hr
    refine PE.imp (pe_listRg g.calm g1 g2 (prg_1 g3 g4 he2 (hs _))) fun σ H Q h => ?_
    obtain ⟨A₀, W₀, A, W, sl, n, E, Qd, e, R, Xs, hw, kk⟩ := pri1 na hp h
    refine ⟨A₀, W₀, A, W, sl, n, E, Qd, e, R, Xs, hw, fun v d W1 n1 S1 r1 q1 => ?_⟩
    obtain ⟨A2, W2, d, n2, Qd2, Ed2, e2, P2, a2, sp2⟩ := kk v d W1 n1 S1 r1 q1
    rw [← e2]
    cases a2 with
    | int => exact ⟨_, rfl, .of_le (by omega) sp2.2.1 (by omega) sp2.1, fun q nq => P2.lst nq rgV_at sp2.2.2⟩
    | _ => exact False.elim sp2
/-! ### {} -/
def pDict0 : Prm := ⟨fun _ e => match e with | .Dict [] [] _ => some [] | _ => none, 0, fun ds n Q _ => Q (.dK []) n⟩
theorem pDict0_ok : PrmOk pDict0 [] := fun {c M Wx p e es xs} g hb hp he ha => by
  unfold pDict0 at he
  dsimp only at he
  split at he
  case h_2 => cases he
  cases he
  cases ha
  refine PE.imp pe_dnewK fun σ H Q h => ?_
  obtain ⟨A, W, n, Qd, Ed, rfl, P, sp⟩ := pri0 rfl hp h
  intro p np
  have S : Ste M.G A W ⟨W.iot, upd W.H p (.dK [])⟩ n := .lay P.s P.t np
  have nA : ¬ A p := fun z => by
    obtain ⟨o, e, _⟩ := P.b.ain p z
    rw [np] at e
    cases e
  exact P.k (.ref p) (.dK []) ⟨W.iot, upd W.H p (.dK [])⟩ n S (.dK (.inl upd_same) nA rfl .nil) sp
/-! ### list(d.items()) -/
def pItems : Prm := ⟨fun sc e => match e with
    | .Call (.Name s _) [.Call (.Attribute o nm ap) [] [] cp] [] _ => if ((isGl sc s "list" && decide (nm = Str.ofString "items")) && (noCall o && (ap.endLine == cp.line))) = true then some [o] else none
    | _ => none, 1,
  fun ds n Q _ => match ds with | [.dK kvs] => Q (.lst 0 (kvs.map fun q => .tup [(match q.1 with | .inl i => .int i | .inr s => .str s), q.2])) n | _ => False⟩
section
open LiI
theorem pe_itemsR {c : Cx} {e : Expr} {te : TE} {p apos cpos pos : Pos} (hc : c.calm = true) (he : PE c e te) (hg : Gl c "list") (hm : c.mg "list" = none) (hbase : attributeBase e "items" c.env (eval e c.env) = eval e c.env) (hline : (apos.endLine == cpos.line) = true) :
    PE c (.Call (.Name "list" p) [.Call (.Attribute e "items" apos) [] [] cpos] [] pos) (fun σ H Q => te σ H fun x H1 => ∃ (d : Addr) (kvs : List (L2.Key × V)), x = .ref d ∧ Rd H1 d (.dK kvs) ∧
      ∀ (H' : Hp) (p : Addr) (ts : List Addr), (∀ b o, H1 b = some o → H' b = some o) → H1 p = none → (∀ t ∈ ts, H1 t = none) → p ∉ ts → H' p = some (.lst (ts.map V.ref)) → Paired (fun (t : Addr) (q : L2.Key × V) => H' t = some (.tup [kV q.1, q.2])) ts kvs → Q (.ref p) H') := by
  refine ⟨fun pins s σ H Q I hq => wpAny_Call_Name_kw (ld_blt I hg hm PyProof.Rows.boot_list ?_)⟩
  refine PyProof.Rows.callWith_type1 (Calls.spliced_cons (wpAny_Call_method (T := "dict") (id := "dict.items") hbase rfl hline F.plainAttrs_dict F.slot_dict_items F.type_dict_items (thn (he.run pins s σ H _ I hq) fun u s1 ⟨x, H1, I1, rx, d, kvs, ex, hd, q⟩ => ?_))) (by rfl) (by rfl)
  subst ex
  obtain rfl : u = Value.ref d := rx
  obtain ⟨z1, z2, vs, kv, ho⟩ := dk_rd I1.hok hd
  obtain ⟨ep, hat⟩ := ho.dictAt
  have lk : kvs.length = vs.length := Paired.length kv
  have I2 : Inv c pins σ H1 { s1 with heap := s1.heap.push { cls := .type "dict_items", data := .fields #[.ref d] } } := I1.kept (t' := s1.toks) fun b ob q => Heap.get?_push_of_some _ q
  refine ⟨ho.typeIs, ho.mapOf.noDict, ?_⟩
  show wpAny _ _ (callWith cpos (.builtin "dict.items") [.ref d] [] []) _ c.xe s1
  refine method_meetsIn F.slot_dict_items F.entry_dict_items rfl (PySem.evalArgs_none ⟨rfl, ho.typeIs, F.args_dict_items_1 _, _, meets_dict_items (mixKind c.prog c.w) d z2, ⟨vs, ho⟩, Calls.spliced_nil ?_⟩)
  refine PySem.W.kdx_call (knd := mixKind c.prog c.w) (kvs := vs) (ep := ep) (I1.ok.hd hc) ⟨_, Heap.get?_push_size _ rfl, rfl, rfl⟩ (hat.push _) (by omega) fun h' tk acc cc as hk hS hl hG hacc => ?_
  obtain ⟨H', k1, k2, k3, k4, k5, k6, J⟩ := items_laid (tk := tk) I2 z1 kv hk hS hl hG hacc
  exact ⟨.ref _, H', J, rfl, q H' _ as k1 k2 k3 k4 k5 k6⟩
end
theorem kV_at {G : Gb} {A : Addr → Prop} {W : Wd} (k : L2.Key) : At G A W (kV k) (match k with | .inl i => .int i | .inr s => .str s) := by
  cases k with
  | inl i => exact .int
  | inr s => exact .str
/-- many new objects beside: a step -/
theorem ste_ext {G : Gb} {A : Addr → Prop} {W : Wd} {n : Nat} {H' : Hp} (s : Strm G n W.H) (t : LamX.Tabs G.T W.H) (k : ∀ b o, W.H b = some o → H' b = some o) : Ste G A W ⟨W.iot, H'⟩ n := by
  refine ⟨rfl, ⟨fun a o h tt => ⟨o, k a o h, tt⟩, fun a o h _ _ tt => ⟨fun _ => k a o h, ⟨o, k a o h, .inl rfl⟩⟩⟩, ?_, t.ext k⟩
  obtain ⟨xs, c, h, m, z1, z2, z3, z4, zl, e1, e2, z5⟩ := s
  exact ⟨xs, c, h, m, z1, z2, z3, z4, zl, k _ _ e1, k _ _ e2, z5⟩
theorem items_at {G : Gb} {A : Addr → Prop} {W : Wd} : ∀ {ts : List Addr} {kvs : List (L2.Key × V)} {xs : List (L2.Key × D)}, (∀ t ∈ ts, ¬ A t) → Paired (fun (t : Addr) (q : L2.Key × V) => W.H t = some (.tup [kV q.1, q.2])) ts kvs → kvs.map Prod.fst = xs.map Prod.fst → Ats G A W (kvs.map Prod.snd) (xs.map Prod.snd) →
    Ats G A W (ts.map V.ref) (xs.map fun q => D.tup [(match q.1 with | .inl i => .int i | .inr s => .str s), q.2])
  | [], _, [], _, _, _, _ => .nil
  | [], _, _ :: _, _, .nil, e, _ => by cases e
  | t :: ts, _, [], _, .cons _ _, e, _ => by cases e
  | t :: ts, (k, v) :: kvs, (k', d) :: xs, hn, .cons h r, e, a => by
    rw [List.map_cons, List.map_cons] at e
    obtain ⟨e1, e2⟩ := List.cons.inj e
    have e1 : k = k' := e1
    subst e1
    cases a with
    | cons a as =>
      exact .cons (.tup h (hn t List.mem_cons_self) (.cons (kV_at k) (.cons a .nil))) (items_at (fun t ht => hn t (List.mem_cons_of_mem _ ht)) r e2 as)
theorem pItems_ok : PrmOk pItems ["list"] := fun {c M Wx p e es xs} g hb hp he ha => by
  unfold pItems at he
  dsimp only at he
  split at he
  case h_2 => cases he
  split at he
  case isFalse => cases he
  rename_i h
  cases he
  simp only [Bool.and_eq_true, decide_eq_true_eq] at h
  obtain ⟨⟨h1, rfl⟩, h2, h3⟩ := h
  obtain ⟨rfl, g1, g2⟩ := isGl_ok g hb (by simp) h1
  cases ha with
  | cons na hs he2 hr =>
    cases hr
    refine PE.imp (pe_itemsR g.calm he2 g1 g2 (noCall_ok h2 _ _ _) h3) fun σ H Q h => ?_
    obtain ⟨A₀, W₀, A, W, sl, n, E, Qd, e, R, Xs, hw, kk⟩ := pri1 na hp h
    refine ⟨A₀, W₀, A, W, sl, n, E, Qd, e, R, Xs, hw, fun v d W1 n1 S1 r1 q1 => ?_⟩
    obtain ⟨A2, W2, d, n2, Qd2, Ed2, e2, P2, a2, sp2⟩ := kk v d W1 n1 S1 r1 q1
    rw [← e2]
    cases a2 with
    | dK h1 h2 h3 h4 =>
      refine ⟨_, _, rfl, h1, fun H' p ts k np nt npt hpl hts => ?_⟩
      have S : Ste M.G A2 W2 ⟨W2.iot, H'⟩ n2 := ste_ext P2.s P2.t k
      have nA : ∀ q, W2.H q = none → ¬ A2 q := fun q nq z => by
        obtain ⟨o, e, _⟩ := P2.b.ain q z
        rw [nq] at e
        cases e
      refine P2.k (.ref p) _ ⟨W2.iot, H'⟩ n2 S (.lst hpl (nA p np) ?_) sp2
      exact items_at (W := ⟨W2.iot, H'⟩) (fun t ht => nA t (nt t ht)) hts h3 (h4.stp (P2.b.stp S))
    | _ => exact False.elim sp2
/-! ### {k: v} -/
def pDict1 : Prm := ⟨fun _ e => match e with | .Dict [some k] [v] _ => some [k, v] | _ => none, 2, fun ds n Q _ => match ds with | [k, v] => ∃ key, kyOf k = some key ∧ Q (.dK [(key, v)]) n | _ => False⟩
theorem merge_one {k : L2.Key} {v : V} : mergeK [] [(k, v)] = [(k, v)] := by
  unfold mergeK
  simp [putK]
theorem pDict1_okF {c : Cx} {M : Pm} {Wx : WX} {p : Nat} {e : Expr} {es : List Expr} {xs : X} (g : Good c M.off Wx) (hp : M.Phy[p]? = some pDict1.fn) (he : pDict1.rc c.env.scope e = some es) (ha : PEs c M Wx xs es) : PE c e (rdX M Wx (.priF p xs)) := by
  unfold pDict1 at he
  dsimp only at he
  split at he
  case h_2 => cases he
  cases he
  cases ha with
  | cons na hs hk hr =>
    cases hr with
    | cons nb hs2 hv hr =>
      cases hr
      rename_i a b
      refine PE.imp (pe_disp (pps_cons hk hv pps_nil) (by rfl) (by rfl) (by simp) (by simp)) fun σ H Q h => ?_
      obtain ⟨A₀, W₀, A, W, sl, n, E, Qd, rfl, R, Xs, hw, kk⟩ := h
      intro q nq
      have S0 : Ste M.G A W ⟨W.iot, upd W.H q (.dK [])⟩ n := .lay R.strm R.tabs nq
      have nA : ¬ A q := fun z => by
        obtain ⟨o, e, _⟩ := R.bas.ain q z
        rw [nq] at e
        cases e
      have n0 : ¬ A₀ q := fun z => nA (R.aup q z)
      have R0 := R.moreO (o := .dK []) (fun _ z => nomatch z) nq
      have hq : (⟨W.iot, upd W.H q (.dK [])⟩ : Wd).H q = some (.dK []) := upd_same
      have lift : ∀ {W' : Wd} {n' : Nat}, Ste M.G (fun a => A a ∨ a = q) ⟨W.iot, upd W.H q (.dK [])⟩ W' n' → Ste M.G A W W' n' := fun S => ⟨S.iot, S0.ext.trans S.ext fun _ h => .inl h, S.strm, S.tabs⟩
      have X0 : XsOk M Wx (fun a => A a ∨ a = q) ⟨W.iot, upd W.H q (.dK [])⟩ σ E := fun e W' n' cls dd S x h => Xs e W' n' cls dd (lift S) (x.less fun _ h => .inl h) h
      refine ⟨A₀, W₀, _, ⟨W.iot, upd W.H q (.dK [])⟩, sl, n, E, _, rfl, R0, X0, hw, fun x dx W1 n1 S1 r1 q1 => ?_⟩
      refine ⟨A₀, W₀, _, W1, sl, n1, E, _, rfl, R0.ste S1, X0.ste S1, q1, fun y dy W2 n2 S2 r2 q2 => ?_⟩
      have q2 : callW M.Phy p [dx, dy] n2 Qd E := q2
      unfold callW at q2
      rw [hp] at q2
      obtain ⟨_, key, hkey, q3⟩ := q2
      have S12 := S1.trans S2
      have e2 : W2.H q = some (.dK []) := (S12.ext.keep q _ hq (fun z => n0 (z ▸ R.b0.st)) (fun z => n0 (z ▸ R.b0.inn)) (fun _ z => nomatch z)).1 (.inr rfl)
      have ax := r1.2.1 na
      have ay := r2.2.1 nb
      refine ⟨e2, [(key, y)], ?_, by simp, ?_⟩
      · rw [at_key ax hkey]
        rfl
      · rw [merge_one]
        have S := lift S12
        have R2 := R0.ste S12
        have mu := stp_mut (A := fun a => A a ∨ a = q) (W := W2) (a := q) (o := .dK [(key, y)]) R.b0 R2.iot (.inr rfl) n0
        have nW : Non W.H q := .of nq
        have kp : ∀ x u, W2.H x = some u → x ≠ q → upd W2.H q (.dK [(key, y)]) x = some u := fun x u e1 e2 => by rw [upd_ne e2]; exact e1
        have S' : Ste M.G A W ⟨W2.iot, upd W2.H q (.dK [(key, y)])⟩ n2 := by
          refine ⟨S.iot, ⟨fun x u e1 tt => ?_, fun x u e1 e3 e4 tt => ?_⟩, strm_upd S.strm (fun z => n0 (z ▸ R.b0.st)) (fun z => n0 (z ▸ R.b0.inn)), tabs_ins S.tabs e2 (.inr (.inl ⟨_, rfl⟩))⟩
          · have hx := nW.ne e1 tt
            obtain ⟨o, e5, t2⟩ := S.ext.there x u e1 tt
            exact ⟨o, kp x o e5 hx, t2⟩
          · have hx := nW.ne e1 tt
            obtain ⟨k1, k2⟩ := S.ext.keep x u e1 e3 e4 tt
            refine ⟨fun h => kp x u (k1 h) hx, ?_⟩
            show Kp u (upd W2.H q _ x)
            rw [upd_ne hx]
            exact k2
        refine kk _ _ ⟨W2.iot, upd W2.H q (.dK [(key, y)])⟩ n2 S' ?_ q3
        have at' : At M.G A ⟨W2.iot, upd W2.H q (.dK [(key, y)])⟩ (.ref q) (.dK [(key, dy)]) := .dK (.inl upd_same) nA rfl (.cons ((ay.stp mu).stp (.less fun _ h => .inl h)) .nil)
        exact ⟨.inl at', fun _ => at', fun _ => ⟨(fun _ _ z => nomatch z), fun _ => ⟨q, _, rfl, .of nq, upd_same, [(key, y)], rfl, rfl, .cons (ay.stp mu) .nil⟩⟩⟩
/-- what makes a new thing makes a thing -/
theorem pri_of {c : Cx} {M : Pm} {Wx : WX} {p : Nat} {xs : X} {e : Expr} (h : PE c e (rdX M Wx (.priF p xs))) : PE c e (rdX M Wx (.pri p xs)) :=
  PE.imp h fun σ H Q ⟨A₀, W₀, A, W, sl, n, E, Qd, e, R, Xs, hw, k⟩ => ⟨A₀, W₀, A, W, sl, n, E, Qd, e, R, Xs, hw, fun b d W' n' S r q => k b d W' n' S ⟨r.1, fun _ => r.2.1 rfl, (fun z => nomatch z)⟩ q⟩
theorem pDict1_ok : PrmOk pDict1 [] := fun g _ hp he ha => pri_of (pDict1_okF g hp he ha)
/-! ### sorted(xs) -/
/-- tuples of d numbers in [0, B) -/
def tupOk (d : Nat) (B : Int) : D → Bool
  | .tup xs => decide (xs.length = d) && xs.all fun x => match x with | .int m => decide (0 ≤ m) && decide (m < B) | _ => false
  | _ => false
def pSorted : Prm := ⟨rcCall "sorted", 1, fun ds n Q _ => match ds with
  | [.lst _ xs] => (∃ ns, intsOf xs = some ns ∧ ∀ ns' : List Int, ns'.Perm ns → ns'.Pairwise (· ≤ ·) → Q (.lst 0 (ns'.map D.int)) n) ∨
      (xs.length < 64 ∧ (∃ d B, 1 ≤ d ∧ ∀ x ∈ xs, tupOk d B x = true) ∧ ∀ ys : List D, ys.Perm xs → Q (.lst 0 ys) n)
  | _ => False⟩
theorem ints_at {G : Gb} {A : Addr → Prop} {W : Wd} : ∀ {vs : List V} {xs : List D} {ns : List Int}, Ats G A W vs xs → intsOf xs = some ns → vs = ns.map V.int
  | _, _, ns, .nil, e => by cases e; rfl
  | _, _, ns, .cons (d := d) (ds := ds) h t, e => by
    cases d with
    | int i =>
      have e : (intsOf ds).map (i :: ·) = some ns := e
      rw [Option.map_eq_some_iff] at e
      obtain ⟨r, e1, rfl⟩ := e
      cases h
      rw [ints_at t e1]
      rfl
    | _ => cases e
theorem at_ints {G : Gb} {A : Addr → Prop} {W : Wd} : ∀ (ns : List Int), Ats G A W (ns.map V.int) (ns.map D.int)
  | [] => .nil
  | _ :: ns => .cons .int (at_ints ns)
/-- a list in another order: so are its data -/
theorem ats_perm {G : Gb} {A : Addr → Prop} {W : Wd} {vs ws : List V} (p : ws.Perm vs) : ∀ {xs : List D}, Ats G A W vs xs → ∃ ys, ys.Perm xs ∧ Ats G A W ws ys := by
  induction p with
  | nil => exact fun h => ⟨_, .refl _, h⟩
  | cons x _ ih =>
    intro xs h
    cases h with
    | cons h t =>
      obtain ⟨ys, p, a⟩ := ih t
      exact ⟨_, p.cons _, .cons h a⟩
  | swap x y l =>
    intro xs h
    cases h with
    | cons h t =>
      cases t with
      | cons h' t => exact ⟨_, .swap _ _ _, .cons h' (.cons h t)⟩
  | trans _ _ ih1 ih2 =>
    intro xs h
    obtain ⟨ys, p, a⟩ := ih2 h
    obtain ⟨zs, p', a'⟩ := ih1 a
    exact ⟨zs, p'.trans p, a'⟩
theorem tupI_at {G : Gb} {A : Addr → Prop} {W : Wd} {K : PySem.W.Frag} {d : Nat} {B : Int} {v : V} {x : D} (a : At G A W v x) (h : tupOk d B x = true) : ∃ ns, TupI K W.H v ns ∧ ns.length = d ∧ TS.Bd B ns := by
  unfold tupOk at h
  cases x with
  | tup xs =>
    dsimp only at h
    rw [Bool.and_eq_true, decide_eq_true_eq] at h
    obtain ⟨t, vs, rfl, h1, h2⟩ := a.ist
    have key : ∀ {vs : List V} {xs : List D}, Ats G A W vs xs → (xs.all fun x => match x with | .int m => decide (0 ≤ m) && decide (m < B) | _ => false) = true → ∃ ns : List Int, vs = ns.map V.int ∧ ns.length = xs.length ∧ TS.Bd B ns := by
      intro vs xs a
      induction xs generalizing vs with
      | nil =>
        intro _
        cases a
        exact ⟨[], rfl, rfl, fun m hm => by cases hm⟩
      | cons y ys ih =>
        intro h
        cases a with
        | cons a as =>
          rw [List.all_cons, Bool.and_eq_true] at h
          obtain ⟨ns, e1, e2, e3⟩ := ih as h.2
          cases y with
          | int m =>
            have h1 := h.1
            simp only [Bool.and_eq_true, decide_eq_true_eq] at h1
            cases a
            refine ⟨m :: ns, by rw [e1]; rfl, by simp [e2], fun k hk => ?_⟩
            rcases List.mem_cons.mp hk with rfl | hk
            · exact h1
            · exact e3 k hk
          | _ => cases h.1
    obtain ⟨ns, e1, e2, e3⟩ := key h2 h.2
    subst e1
    exact ⟨ns, ⟨t, rfl, SqT.of h1⟩, e2.trans h.1, e3⟩
  | _ => cases h
theorem CallR.or {c : Cx} {f : Value} {r r' : List V → Hp → VK → Prop} (h : CallR c f r) (h' : CallR c f r') : CallR c f (fun x H Q => r x H Q ∨ r' x H Q) := fun pins s σ H xs us Q I rx q => by
  rcases q with q | q
  · exact h pins s σ H xs us Q I rx q
  · exact h' pins s σ H xs us Q I rx q
theorem cr_sortAny {c : Cx} : CallR c (.builtin "sorted") (fun x H Q => rSortedI c.K x H Q ∨ ∃ d B, 1 ≤ d ∧ rSortU c.K d B x H Q) := fun pins s σ H xs us Q I rx q => by
  rcases q with q | ⟨d, B, hd, q⟩
  · exact cr_sortedI pins s σ H xs us Q I rx q
  · exact cr_sortT hd pins s σ H xs us Q I rx q
theorem pSorted_ok : PrmOk pSorted ["sorted"] := fun {c M Wx p e es xs} g hb hp he ha => by
  obtain ⟨s, p1, e, p2, rfl, rfl, h⟩ := rcCall_ok he
  obtain ⟨rfl, g1, g2⟩ := isGl_ok g hb (by simp) h
  cases ha with
  | cons na hs he2 hr =>
    cases hr
    refine PE.imp (pe_callB cr_sortAny g1 g2 (by decide +kernel) (pa_cons he2 pa_nil (hs _)) (by decide) (by decide) (hs _) (by rfl)) fun σ H Q h => ?_
    obtain ⟨A₀, W₀, A, W, sl, n, E, Qd, e, R, Xs, hw, kk⟩ := pri1 na hp h
    refine ⟨A₀, W₀, A, W, sl, n, E, Qd, e, R, Xs, hw, fun v d W1 n1 S1 r1 q1 => ?_⟩
    obtain ⟨A2, W2, d, n2, Qd2, Ed2, e2, P2, a2, sp2⟩ := kk v d W1 n1 S1 r1 q1
    rw [← e2]
    cases d with
    | lst j xs =>
      obtain ⟨a, vs, rfl, h1, h2⟩ := a2.isl
      rcases sp2 with ⟨ns, hn, q⟩ | ⟨h64, ⟨d, B, hd, ht⟩, q⟩
      · refine .inl ⟨a, ns, rfl, SqL.of (by rw [← ints_at h2 hn]; exact h1), fun ns' p pm pw np => P2.lst np (at_ints ns') (q ns' pm pw)⟩
      · refine .inr ⟨d, B, hd, a, vs, rfl, SqL.of h1, by rw [h2.length]; exact h64, fun v hv => ?_, fun ys p pm _ np => ?_⟩
        · obtain ⟨i, hi⟩ := List.getElem?_of_mem hv
          obtain ⟨x, ex, ax⟩ := h2.getV hi
          exact tupI_at ax (ht x (List.mem_of_getElem? ex))
        · obtain ⟨ds, pd, ad⟩ := ats_perm pm h2
          exact P2.lst np ad (q ds pd)
    | _ => exact False.elim sp2
end Q
/-! Q layer, part q: repr. -/
namespace Q
open PySem PySem.Spec L2
def flatD : D → Bool
  | .non => true
  | .bl _ => true
  | .int _ => true
  | .str _ => true
  | _ => false
def keyP : L2.Key → PyData
  | .inl i => .int i
  | .inr s => .str s
/-- what repr shows -/
def D.shw : D → PyData
  | .dK kvs => .dict (kvs.map fun q => (keyP q.1, q.2.py))
  | d => d.py
def D.rok : D → Bool
  | .dK kvs => (kvs.all fun q => flatD q.2) && ((D.shw (.dK kvs)).showable && decide ((D.shw (.dK kvs)).shown.length ≤ sizeLine))
  | d => d.ok 60 && (d.py.showable && decide (d.py.shown.length ≤ sizeLine))
theorem flat_reads {G : Gb} {A : Addr → Prop} {W : Wd} {h : Heap} {v : V} {d : D} {u : Value} (a : At G A W v d) (f : flatD d = true) (r : L2.RelV v u) : Reads h u d.py [] := by
  cases a <;> first | cases f | skip
  · cases r
    exact .none
  · cases r
    exact .bool _
  · obtain ⟨t, rfl⟩ := r
    exact .int _ t
  · obtain ⟨t, rfl⟩ := r
    exact .str _ t
theorem key_reads {h : Heap} {k : L2.Key} {u : Value} (r : L2.RelV (kV k) u) : Reads h u (keyP k) [] := by
  cases k with
  | inl i =>
    obtain ⟨t, rfl⟩ := r
    exact .int _ t
  | inr s =>
    obtain ⟨t, rfl⟩ := r
    exact .str _ t
theorem reads_nils {h : Heap} {α : Type} {f : α → Value} {g : α → PyData} : ∀ {l : List α}, (∀ x ∈ l, Reads h (f x) (g x) []) → ReadsAll h (l.map f) (l.map g) []
  | [], _ => .nil
  | x :: l, hx => .cons (as := []) (bs := []) (hx x List.mem_cons_self) (reads_nils fun y hy => hx y (List.mem_cons_of_mem _ hy))
theorem keyIs_reads {h : Heap} {k : L2.Key} {u : Value} (e : keyIs k u = true) : Reads h u (keyP k) [] := by
  rcases keyIs_shape e with ⟨i, t, rfl, rfl⟩ | ⟨x, t, rfl, rfl⟩
  · exact .int i t
  · exact .str x t
theorem entries_reads {P : Program} {w : World} {h : Heap} {G : Gb} {A : Addr → Prop} {W : Wd} : ∀ {es : List DictEntry} {vs : List (L2.Key × Value)} {kvs : List (L2.Key × V)} {xs : List (L2.Key × D)}, Pairs (mixKind P w) es vs → KV kvs vs → kvs.map Prod.fst = xs.map Prod.fst →
    Ats G A W (kvs.map Prod.snd) (xs.map Prod.snd) → (∀ q ∈ xs, flatD q.2 = true) → ReadsAll h (es.map (·.key)) (xs.map fun q => keyP q.1) [] ∧ ReadsAll h (es.map (·.val)) (xs.map fun q => q.2.py) []
  | _, _, [], [], .nil, .nil, _, _, _ => ⟨.nil, .nil⟩
  | _, _, _, [], .cons _ _ _, .cons _ _, e, _, _ => by cases e
  | [], _, _ :: _, _ :: _, hp, kv, _, _, _ => by
    cases hp
    cases kv
  | e :: es, (k1, v1) :: vs, (k2, v2) :: kvs, (k3, d) :: xs, .cons hk hv t, .cons r rs, eq, a, f => by
    rw [List.map_cons, List.map_cons] at eq
    obtain ⟨q1, q2⟩ := List.cons.inj eq
    have q1 : k2 = k3 := q1
    subst q1
    obtain ⟨r1, r2⟩ := r
    have r1 : k2 = k1 := r1
    subst r1
    cases a with
    | cons a as =>
      obtain ⟨i1, i2⟩ := entries_reads t rs q2 as fun q hq => f q (List.mem_cons_of_mem _ hq)
      refine ⟨.cons (as := []) (bs := []) (keyIs_reads hk) i1, .cons (as := []) (bs := []) ?_ i2⟩
      have hv : e.val = v1 := hv
      show Reads h e.val d.py []
      rw [hv]
      exact flat_reads a (f _ List.mem_cons_self) r2
theorem flat_depth {kvs : List (L2.Key × D)} (h : (kvs.all fun q => flatD q.2) = true) : (D.shw (.dK kvs)).depth ≤ 64 := by
  have key : ∀ l : List (L2.Key × D), (l.all fun q => flatD q.2) = true → PyData.depthKv (l.map fun q => (keyP q.1, q.2.py)) = 0 := by
    intro l
    induction l with
    | nil => intro _; simp [PyData.depthKv]
    | cons q l ih =>
      intro h
      rw [List.all_cons, Bool.and_eq_true] at h
      obtain ⟨k, d⟩ := q
      have e1 : (keyP k).depth = 0 := by cases k <;> simp [keyP, PyData.depth]
      have e2 : d.py.depth = 0 := by
        have := h.1
        have this : flatD d = true := this
        cases d <;> first | (simp [D.py, PyData.depth]; done) | (exact absurd this (by simp [flatD]))
      simp only [List.map_cons, PyData.depthKv, ih h.2, e1, e2]
      rfl
  show PyData.depth (.dict _) ≤ 64
  simp only [PyData.depth, key kvs h]
  omega
/-- repr, where nothing is being shown already -/
theorem call_reprD {c : Cx} (hg : c.A.guards = some []) (hu : c.A.units + 100 < cLine) : CallR c (.builtin "repr") (fun xs H Q => ∃ (G : Gb) (A : Addr → Prop) (W : Wd) (v : V) (d : D), xs = [v] ∧ W.H = H ∧ At G A W v d ∧ d.rok = true ∧ Q (.str d.shw.shown) H) := by
  intro pins s σ H xs us Q I r h
  obtain ⟨G, A, W, v, d, rfl, rfl, a, ok, q⟩ := h
  match us, r with
  | [u], .cons r .nil =>
    have fin : ∀ {h' : Heap} {tk : Tok} {tk' : Nat}, (∀ b o, s.heap.get? b = some o → h'.get? b = some o) → EP c pins σ Q (.str d.shw.shown tk) { s with heap := h', toks := tk' } := fun k => ⟨.str _, W.H, I.kept k, ⟨_, rfl⟩, q⟩
    have main : ∀ {as : List Addr} (y : PyData), Reads s.heap u y as → y.showable = true → (y.hasDict = true → sysModules ∉ as) → y.shown.length ≤ sizeLine → y.depth ≤ 64 → (∀ {h' : Heap} {tk : Tok} {tk' : Nat}, (∀ b o, s.heap.get? b = some o → h'.get? b = some o) → EP c pins σ Q (.str y.shown tk) { s with heap := h', toks := tk' }) →
        wpAny (model c.prog c.w) c.A (call (.builtin "repr") [u]) (EP c pins σ Q) c.xe s := by
      intro as y rd hs hm hz hd fin
      cases rd with
      | none =>
        have := fin (tk := s.toks) (tk' := s.toks + 1) (h' := s.heap) (fun _ _ e => e)
        simp only [PyData.shown] at this
        exact PySem.P.repr_of_none this
      | bool b =>
        have := fin (tk := s.toks) (tk' := s.toks + 1) (h' := s.heap) (fun _ _ e => e)
        simp only [PyData.shown] at this
        exact PySem.P.repr_of_bool this
      | int i t =>
        have := fin (tk := s.toks) (tk' := s.toks + 1) (h' := s.heap) (fun _ _ e => e)
        simp only [PyData.shown] at this
        simp only [PyData.showable, decide_eq_true_eq] at hs
        exact PySem.P.repr_of_int hs this
      | str x t =>
        have := fin (tk := s.toks) (tk' := s.toks + 1) (h' := s.heap) (fun _ _ e => e)
        simp only [PyData.shown] at this hz
        exact PySem.P.repr_of_str this hz
      | list h1 h2 h3 h4 => exact PySem.repr_of_reads' (.list h1 h2 h3 h4) hs hm hg (by omega) (fun _ _ e => e) (fun h' u tk k => fin k) hz
      | tuple h1 h2 h3 h4 => exact PySem.repr_of_reads' (.tuple h1 h2 h3 h4) hs hm hg (by omega) (fun _ _ e => e) (fun h' u tk k => fin k) hz
      | dict h1 h2 h3 h4 h5 => exact PySem.repr_of_reads' (.dict h1 h2 h3 h4 h5) hs hm hg (by omega) (fun _ _ e => e) (fun h' u tk k => fin k) hz
    by_cases hk : ∃ kvs, d = .dK kvs
    · obtain ⟨kvs, rfl⟩ := hk
      have ok : ((kvs.all fun q => flatD q.2) && ((D.shw (.dK kvs)).showable && decide ((D.shw (.dK kvs)).shown.length ≤ sizeLine))) = true := ok
      simp only [Bool.and_eq_true, decide_eq_true_eq] at ok
      cases a with
      | @dK ad kvs' _ h1 h2 h3 h4 =>
        cases (show u = Value.ref ad from r)
        obtain ⟨z1, z2, vs, kv, ho⟩ := dk_rd I.hok h1
        obtain ⟨ep, o, es, e1, e2, e3, e4, e5, _⟩ := ho.dictAt
        have rd : Reads s.heap (.ref ad) (D.shw (.dK kvs)) (ad :: [] ++ []) := by
          have two := entries_reads (h := s.heap) (W := W) e5 kv h3 h4 fun q hq => by
            have := List.all_eq_true.mp ok.1 q hq
            exact this
          refine Reads.dict e1 e2.1 e3 ?_ ?_
          · have e : (kvs.map fun q => (keyP q.1, q.2.py)).map (·.1) = kvs.map fun q => keyP q.1 := by simp
            rw [e]
            exact two.1
          · have e : (kvs.map fun q => (keyP q.1, q.2.py)).map (·.2) = kvs.map fun q => q.2.py := by simp
            rw [e]
            exact two.2
        exact main _ rd ok.2.1 (fun _ hm => by
          have : sysModules = ad := by simpa using hm
          rw [← this] at z2
          cases z2) ok.2.2 (flat_depth ok.1) fin
    · have es : d.shw = d.py := by
        cases d <;> first | rfl | exact absurd ⟨_, rfl⟩ hk
      have ok : (d.ok 60 && (d.py.showable && decide (d.py.shown.length ≤ sizeLine))) = true := by
        cases d <;> first | exact ok | exact absurd ⟨_, rfl⟩ hk
      simp only [Bool.and_eq_true, decide_eq_true_eq] at ok
      have K : Dp c.K W.H v d.py := a.dp ok.1
      obtain ⟨as, rd⟩ := Dp.reads I _ v u K r
      have hd : d.py.hasDict = false := PyData.hasDict_of_canLay _ (ok_lay ok.1).1
      refine main d.py rd ok.2.1 (fun z => by rw [hd] at z; cases z) ok.2.2 (by have := (ok_lay ok.1).2; omega) ?_
      rw [← es]
      exact fin
def pRepr : Prm := ⟨rcCall "repr", 1, fun ds n Q _ => match ds with | [d] => d.rok = true ∧ Q (.str d.shw.shown) n | _ => False⟩
theorem pRepr_ok {c : Cx} {M : Pm} {Wx : WX} {p : Nat} {e : Expr} {es : List Expr} {xs : X} (gd : M.gd = true) (g : Good c M.off Wx) (hb : ("repr" : Str) ∈ M.bs) (hp : M.Phy[p]? = some pRepr.fn) (he : pRepr.rc c.env.scope e = some es) (ha : PEs c M Wx xs es) : PE c e (rdX M Wx (.pri p xs)) := by
  obtain ⟨s, p1, e, p2, rfl, rfl, h⟩ := rcCall_ok he
  obtain ⟨rfl, g1, g2⟩ := isGl_ok (bs := [Str.ofString "repr"]) g (fun s hs => by rw [List.mem_singleton.mp hs]; exact hb) (by simp) h
  cases ha with
  | cons na hs he2 hr =>
    cases hr
    have hu : c.A.units + 100 < cLine := by have := g.rm.un; omega
    refine PE.imp (pe_callB (call_reprD (g.gd gd) hu) g1 g2 (by decide +kernel) (pa_cons he2 pa_nil (hs _)) (by decide) (by decide) (hs _) (by rfl)) fun σ H Q h => ?_
    obtain ⟨A₀, W₀, A, W, sl, n, E, Qd, e, R, Xs, hw, kk⟩ := pri1 na hp h
    refine ⟨A₀, W₀, A, W, sl, n, E, Qd, e, R, Xs, hw, fun v d W1 n1 S1 r1 q1 => ?_⟩
    obtain ⟨A2, W2, d, n2, Qd2, Ed2, e2, P2, a2, sp2⟩ := kk v d W1 n1 S1 r1 q1
    rw [← e2]
    exact ⟨_, A2, W2, v, d, rfl, rfl, a2, sp2.1, P2.at .str sp2.2⟩
end Q
/-! Q layer, part s: set(xs) of a list of ints, with its order; sorted(set(xs)). -/
namespace Q
open PySem PySem.Spec L2 PyProof.Rows
section
variable {P : Program} {w : World} {A : Around} {E : Value → Shared → Prop} {s : Shared}
theorem set_lstI {l : Addr} {its : Array Value} (ns : List Int) {Q : Value → Shared → Prop} (hh : A.handled = none) (hl : s.heap.IsList l its) (hi : IntsAre its.toList ns) (hb : ns.length + 1 < scanBound)
    (k : ∀ (H' : Heap) (tk c : Nat), SetR w H' s.heap.objs.size (fun j => decide (j ∈ ns)) c → c ≤ ns.length → (∀ b o, s.heap.get? b = some o → H'.get? b = some o) → Q (.ref s.heap.objs.size) { s with heap := H', toks := tk }) :
    wpAny (model P w) A (call (.type "set") [.ref l]) Q E s := by
  have nz : its.size = ns.length := by have q := IntsAre.length hi; rw [Array.length_toList] at q; exact q
  obtain ⟨c0, tl, hmro⟩ := F.called_set.mro; have m1 := F.called_set.made; have m2 := F.called_set.sub
  refine wpAny_call (codeAny_of_tree ?_); show wpAny _ _ (callAny (.type "set") _) _ _ _
  refine wpAny_pure ⟨Code.quiet_builtin _ (by decide +kernel), codeAny_builtin F.entry_type_call ?_⟩; rw [Around.under_plain (weight_type_call_type "set" [.ref l] []) rfl]
  have m3 := F.called_set.notType; have m4 := F.called_set.canCreate; have m5 := F.typeCall_set_1 (.ref l)
  repeat (any_goals (first | assumption | wp_step))
  refine codeAny_mono (code_set_led1 (.ref l) (E := E) (Q₁ := fun ob t => ob = .ref s.heap.objs.size ∧ t = { s with heap := s.heap.push { cls := .type "set", dict := none, data := .set #[] 0 (.fresh 0 0 (!w.params.followText "set-order")) } }) ⟨rfl, rfl⟩) fun r t hr => ?_
  cases r with
  | error e => exact hr
  | ok fl => cases fl with
    | ret ob =>
      obtain ⟨rfl, rfl⟩ := hr
      have g0 : (s.heap.push { cls := .type "set", dict := none, data := .set #[] 0 (.fresh 0 0 (!w.params.followText "set-order")) }).get? s.heap.objs.size = some { cls := .type "set", dict := none, data := .set #[] 0 (.fresh 0 0 (!w.params.followText "set-order")) } := Heap.get?_push_size _ rfl
      have gT : Shared.TypeIs { s with heap := s.heap.push { cls := .type "set", dict := none, data := .set #[] 0 (.fresh 0 0 (!w.params.followText "set-order")) } } (.ref s.heap.objs.size) "set" := ⟨_, g0, rfl⟩
      have m6 := F.called_set.init.lookup; have m7 := F.called_set.init.bind (.ref s.heap.objs.size)
      repeat (any_goals (first | assumption | wp_step))
      refine codeAny_mono (codeAny_call_builtin (R := wants (fun r u => r = .none ∧ ∃ H' tk c, u = { s with heap := H', toks := tk } ∧ SetR w H' s.heap.objs.size (fun j => decide (j ∈ ns)) c ∧ c ≤ ns.length ∧ (∀ b o, s.heap.get? b = some o → H'.get? b = some o)) E) F.called_set.init.plain F.entry_set_init (check_set_init_1 gT ?_)) fun r2 u hr2 => ?_
      · obtain ⟨lo, hlo, hcl, nl, hdl⟩ := hl; obtain ⟨ocls, odict, odata, oslots⟩ := lo; simp only at hcl hdl; subst hcl; subst hdl
        have lo' : (s.heap.push { cls := .type "set", dict := none, data := .set #[] 0 (.fresh 0 0 (!w.params.followText "set-order")) }).get? l = some { cls := .type "list", dict := odict, data := .seq its nl, slots := oslots } := Heap.get?_push_of_some _ hlo
        have hsls := F.sub_list_set; have hslf := F.sub_list_frozenset; have hne : (Value.type "list" == Value.type "dict") = false := by decide
        have hl1 : (s.heap.push { cls := .type "set", dict := none, data := .set #[] 0 (.fresh 0 0 (!w.params.followText "set-order")) }).IsList l its := ⟨_, lo', rfl, nl, rfl⟩
        unfold Builtin.«set.__init__» noKeywords Builtin.Frozenset.updateFrom; generalize hPI : pyIter = PI; wp_walk; subst hPI
        refine wpAny_pyIter_list hl1 ?_; refine wpAny_bind (wpAny_runValue ?_)
        have hlS : l < s.heap.objs.size := Heap.lt_size hlo
        have hh3 : A.in1.in1.in1.handled = none := by simp [hh]
        have hneI : l ≠ (s.heap.push { cls := .type "set", dict := none, data := .set #[] 0 (.fresh 0 0 (!w.params.followText "set-order")) }).objs.size := by rw [Heap.size_push]; exact Nat.ne_of_lt (Nat.lt_succ_of_lt hlS)
        have hSf : s.heap.objs.size ∉ [(s.heap.push { cls := .type "set", dict := none, data := .set #[] 0 (.fresh 0 0 (!w.params.followText "set-order")) }).objs.size, l] := by
          rw [Heap.size_push]; simp only [List.mem_cons, List.mem_singleton, List.not_mem_nil, or_false, not_or]; exact ⟨Nat.ne_of_lt (Nat.lt_succ_self _), Nat.ne_of_gt hlS⟩
        have hval : ∀ (i : Nat) (v : Value), its[i]? = some v → ∃ z t, ns[i]? = some z ∧ v = .int z t := fun i v hv => by
          have hz : i < ns.length := by rw [← nz]; exact (Array.getElem?_eq_some_iff.mp hv).1
          obtain ⟨t, e⟩ := PyProof.Rows.IntsAre.int_at hi i v (by rw [Array.getElem?_toList]; exact hv)
          exact ⟨ns[i], t, List.getElem?_eq_getElem hz, by rw [e, List.getD_eq_getElem?_getD, List.getElem?_eq_getElem hz] <;> rfl⟩
        refine set_update_ints ((Walks.list hh3 _ l hneI its).toS) s.heap.objs.size hSf ns nz hb hval (its.size - 0) 0 _ (by omega) (Nat.zero_le _) ⟨⟨_, Heap.get?_push_size _ rfl, rfl, rfl⟩, (hl1.push _)⟩ ?qa ?qb
        case qa =>
          exact ⟨0, Nat.le_refl 0, setR_new_at (Heap.get?_push_of_some _ g0)⟩
        case qb =>
          intro t c' hm hc' hS'
          obtain ⟨H', g2, d', tk', os'⟩ := t
          obtain rfl : g2 = s.gens := hm.gens; obtain rfl : d' = s.drawn := hm.drawn; obtain rfl : os' = s.os := hm.os
          show wpAny _ _ _ _ _ _; refine wpAny_pure ?_; show wpAny _ _ (ret Value.none) _ _ _
          rw [nz] at hc'
          refine wpAny_pure ⟨rfl, H', tk', c', rfl, hS', hc', fun b o e => ?_⟩
          have b0 : b < s.heap.objs.size := Heap.lt_size e
          have b2 : b ≠ (s.heap.push { cls := .type "set", dict := none, data := .set #[] 0 (.fresh 0 0 (!w.params.followText "set-order")) }).objs.size := by rw [Heap.size_push]; exact Nat.ne_of_lt (Nat.lt_succ_of_lt b0)
          exact hm.heap b o (by simp only [List.mem_cons, List.mem_singleton, List.not_mem_nil, or_false, not_or]; exact ⟨Nat.ne_of_lt b0, b2⟩) (Heap.get?_push_of_some _ (Heap.get?_push_of_some _ e))
      · cases r2 with
        | error e => exact hr2
        | ok f2 => cases f2 with
          | ret r =>
            obtain ⟨rfl, H', tk, c', rfl, hS', hc', hk'⟩ := hr2
            repeat (any_goals (first | assumption | wp_step))
            exact k _ _ _ hS' hc' hk'
          | _ => exact hr2.elim
    | _ => exact hr.elim
end
end Q
/-! Q layer, part t: sorted(set(xs)), xs a list or a tuple of ints. -/
namespace Q
open PySem PySem.Spec L2
section
variable {c : Cx}
def rSetI (K : PySem.W.Frag) (w : World) : List V → Hp → VK → Prop := fun vs H Q => ∃ (a : Addr) (ns : List Int), vs = [V.ref a] ∧ (SqL K H a (ns.map V.int) ∨ SqT K H a (ns.map V.int)) ∧ ns.length + 1 < scanBound ∧
  ∀ (p : Addr) (n : Nat), H p = none → n ≤ ns.length → Q (.ref p) (upd H p (SetO w p (fun j => decide (j ∈ ns)) n))
theorem cr_setI (hc : c.calm = true) : CallR c (.type "set") (rSetI c.K c.w) := by
  intro pins s σ H vs us Q I r h
  obtain ⟨a, ns, rfl, hs, hb, q⟩ := h
  rw [Vals.ref1 r]
  rcases hs with hs | hs
  · obtain ⟨its, rv, hl, _⟩ := I.list hs
    refine set_lstI ns (I.ok.hd hc) hl.isList rv.ints hb fun h' tk n hS hn hk => ?_
    exact ⟨.ref _, upd H s.heap.objs.size (SetO c.w s.heap.objs.size (fun j => decide (j ∈ ns)) n), I.laid (t' := tk) hk (Nat.le_refl _) (setO_new hS), rfl, q _ _ (I.hok.fresh (Nat.le_refl _)) hn⟩
  · obtain ⟨its, rv, hl, _⟩ := I.tuple hs
    refine call_set_tupI ns (I.ok.hd hc) hl rv.ints hb fun h' tk n hS hn hk => ?_
    exact ⟨.ref _, upd H s.heap.objs.size (SetO c.w s.heap.objs.size (fun j => decide (j ∈ ns)) n), I.laid (t' := tk) hk (Nat.le_refl _) (setO_new hS), rfl, q _ _ (I.hok.fresh (Nat.le_refl _)) hn⟩
end
end Q
/-! Q layer, part u: an __init__ with a lambda in it. -/
namespace Q
open PySem PySem.Spec L2
section
variable {P : Program} {w : World} {K : PySem.W.Frag} {mg : Str → Option Value} {base : Heap} {M : Pm} {cf : Cf} {N : List Str}
theorem init_okL {F : Fn} {k : Nat} {x qual : Str} {ps : Arguments} {body : List Stmt} {sc : Scope} {dV kV doc pm ct oc : Value} {an od : Option Addr} {osl : Array (Option Value)} {f c0 T0 : Addr} {s : S}
    (lk : K.lookup f = some ⟨oc, od, .func (PySem.W.fnOf x qual ps body sc dV kV doc pm an (.ref c0) ct), osl⟩) (hcd : PySem.W.codeIn K (.ref c0) qual = true) (Sc : FnScope N F.ps sc)
    (tb : LamX.TabB base mg c0 T0) (tm : (T0, (qual ++ (".<locals>." : Str)) ++ ("<lambda>" : Str)) ∈ M.G.T) (tu : ∀ p ∈ M.G.T, p.1 = T0 → p.2 = (qual ++ (".<locals>." : Str)) ++ ("<lambda>" : Str))
    (fx : Fx P w K mg base M) (fit : Fit M cf) (nc : M.cal = false) (ng : M.gd = false) (hk : k ∈ M.G.cl) (ck : ckSs cf N s sc body = true) (law : DoesI M.G M.Phy N k F s) :
    FnOk P w K mg base (L2.CX P w) (M.k + M.x + 1) f (PySem.W.fnOf x qual ps body sc dV kV doc pm an (.ref c0) ct) F.ps (spI M k F) := by
  refine fn_of lk hcd Sc (fun vs H Q E h => h.1) fun A outer s0 H vs Q E hr h => ?_
  obtain ⟨hl, p, dx, vs', A', W, ds, n, Qd, Ed, rfl, np, nd, ne, rfl, hb, hst, ht, ha, hsp, hQ, hE⟩ := h
  have hc : GoodS (cxOf (L2.CX P w) P w K mg base N qual sc f (.ref c0) A outer s0 (upd (upd W.H dx (.own p)) p (.ins (M.G.kap k) dx [])) E) M (fun cls d _ H => E cls d H) :=
    ⟨⟨fx, rfl, Sc.nd, hr, takes_of rfl rfl rfl rfl, (fun h => by rw [nc] at h; cases h), (fun _ => ⟨c0, T0, rfl, tb, tm, tu⟩), (fun h => by rw [ng] at h; cases h)⟩, passes_of rfl, fun s h => ⟨h, .inl rfl⟩, Sc.kind, rfl, rfl⟩
  obtain ⟨R0, _⟩ := rep0I (N := N) np nd ne hk hb hst ht ha
  refine ⟨_, ckSs_ok fit s _ _ hc rfl body ck, A', W, _, _, _, fun e ρ => Ed e ρ.n, _, rfl, R0, fun A2 σ2 W2 ρ2 e cls dd R x q => hE e W2 ρ2.n cls dd R.ste0 (x.less R.aup) q, law p ds n Qd Ed (by rw [← ha.length]; exact hl) hsp, ?_⟩
  refine ⟨fun A2 σ2 W2 ρ2 R s q => ?_, fun _ _ _ _ _ _ z => z.elim, fun _ _ _ _ _ _ z => z.elim, fun v d A2 σ2 W2 sl n R x _ q => q.elim⟩
  have q : isMade M.G k p Qd ρ2 := q
  unfold isMade at q
  split at q
  case h_2 => exact q.elim
  rename_i c' p' fs e
  obtain ⟨⟨rfl, rfl⟩, q1, q2⟩ := q
  obtain ⟨o2, e1, e2, e3, e4, dx2, fs2, rfl, e5, e6, e7, e8⟩ := R.slf 0 _ p' e rfl
  refine hQ (.obj c' fs) W2 ρ2.n R.ste0 (.obj e8 e4 e3 ?_ (e7.stp (.less R.aup))) q2
  rw [e5, q1, List.take_length]
end
end Q
/-! Q layer, part w: more primitives: gcd, sorted of any data, of a dict, min of a list, dict(d); new ones told. -/
namespace Q
open PySem PySem.Spec L2
open PySem.W (EachIs AllAlike Sortable dataLe)
section
variable {c : Cx} {M : Pm} {Wx : WX}
/-- a primitive keeps its promise, and tells a new thing -/
def PrmF (q : Prm) (bs : List Str) : Prop := ∀ {c : Cx} {M : Pm} {Wx : WX} {p : Nat} {e : Expr} {es : List Expr} {xs : X}, Good c M.off Wx → (∀ s ∈ bs, s ∈ M.bs) → M.Phy[p]? = some q.fn → q.rc c.env.scope e = some es → PEs c M Wx xs es → PE c e (rdX M Wx (.priF p xs))
theorem PrmF.ok {q : Prm} {bs : List Str} (h : PrmF q bs) : PrmOk q bs := fun g hb hp he ha => pri_of (h g hb hp he ha)
structure PEndF (M : Pm) (A : Addr → Prop) (W : Wd) (n : Nat) (Qd : D → Nat → Prop) (Q : VK) : Prop where
  b : Bas M.G A W
  s : Strm M.G n W.H
  t : LamX.Tabs M.G.T W.H
  k : ∀ v d W' n', Ste M.G A W W' n' → At M.G A W' v d → Frs M.G A W W' v d → Qd d n' → Q v W'.H
theorem PEndF.lst {A : Addr → Prop} {W : Wd} {n : Nat} {Q : VK} {Qd : D → Nat → Prop} (P : PEndF M A W n Qd Q) {p : Addr} {vs : List V} {ds : List D} (np : W.H p = none) (a : Ats M.G A W vs ds) (q : Qd (.lst 0 ds) n) : Q (.ref p) (upd W.H p (.lst vs)) := by
  obtain ⟨W', e, S, at', fr⟩ := fresh_at P.b (.refl P.s P.t) np a
  rw [← e]
  exact P.k _ _ W' n S at' fr q
/-- a new dict at p -/
theorem PEndF.dK {A : Addr → Prop} {W : Wd} {n : Nat} {Q : VK} {Qd : D → Nat → Prop} (P : PEndF M A W n Qd Q) {p : Addr} {kvs : List (L2.Key × V)} {xs : List (L2.Key × D)} (np : W.H p = none) (e : kvs.map Prod.fst = xs.map Prod.fst) (a : Ats M.G A W (kvs.map Prod.snd) (xs.map Prod.snd)) (q : Qd (.dK xs) n) : Q (.ref p) (upd W.H p (.dK kvs)) := by
  have nA : ¬ A p := fun z => by
    obtain ⟨o, e, _⟩ := P.b.ain p z
    rw [np] at e
    cases e
  have s2 : Ste M.G A W ⟨W.iot, upd W.H p (.dK kvs)⟩ n := .lay P.s P.t np
  have m : Stp A W (fun a => A a ∨ a = p) W := .more np
  refine P.k _ _ ⟨W.iot, upd W.H p (.dK kvs)⟩ n s2 (.dK (.inl upd_same) nA e (a.stp (P.b.stp s2))) ⟨(fun _ _ z => nomatch z), fun _ => ⟨p, _, rfl, .of np, upd_same, kvs, rfl, e, (a.stp m).stp (Stp.lay np)⟩⟩ q
theorem priF1 {q : Prm} {p : Nat} {a : X} {σ : L2.St} {H : Hp} {Q : VK} (na : a.isBor = false) (hp : M.Phy[p]? = some q.fn) (h : rdX M Wx (.priF p (.cons a .nil)) σ H Q) :
    rdX M Wx a σ H fun v H1 => ∃ (A : Addr → Prop) (W : Wd) (d : D) (n : Nat) (Qd : D → Nat → Prop) (Ed : Exc → Nat → Prop), W.H = H1 ∧ PEndF M A W n Qd Q ∧ At M.G A W v d ∧ q.sp [d] n Qd Ed := by
  obtain ⟨A₀, W₀, A, W, sl, n, E, Qd, e, R, Xs, hw, kk⟩ := h
  refine ⟨A₀, W₀, A, W, sl, n, E, _, e, R, Xs, hw, fun v d W1 n1 S1 r1 q1 => ?_⟩
  have q1 : callW M.Phy p [d] n1 Qd E := q1
  unfold callW at q1
  rw [hp] at q1
  have R1 := R.ste S1
  exact ⟨A, W1, d, n1, Qd, E, rfl, ⟨R1.bas, R1.strm, R1.tabs, fun v d W' n' S a f q => kk v d W' n' (S1.trans S) ⟨.inl a, fun _ => a, fun _ => f.back S1⟩ q⟩, r1.2.1 na, q1.2⟩
end
/-! ### sorted(xs), xs any data -/
theorem pys_map : ∀ {xs : List D}, D.pys xs = xs.map D.py
  | [] => rfl
  | x :: xs => by rw [D.pys, List.map_cons, pys_map]
def rSortG (K : PySem.W.Frag) : List V → Hp → VK → Prop := fun vs H Q => ∃ (a : Addr) (L : List (V × D)), vs = [.ref a] ∧ SqL K H a (L.map Prod.fst) ∧ (∀ q ∈ L, Dp K H q.1 q.2.py ∧ q.2.py.depth ≤ 64) ∧ AllAlike (L.map fun q => q.2.py) ∧ Sortable (L.map fun q => q.2.py) ∧
  ∀ p, H p = none → Q (.ref p) (upd H p (.lst ((L.mergeSort (dataLe false fun q => q.2.py)).map Prod.fst)))
theorem each_vals : ∀ {L : List (V × D)} {us : List Value}, EachIs (fun (u : Value) (q : V × D) => RelV q.1 u) us L → Vals (L.map Prod.fst) us
  | [], _, h => by cases h; exact .nil
  | q :: L, _, h => by
    cases h with
    | cons h1 h2 => exact .cons h1 (each_vals h2)
theorem vals_each : ∀ {L : List (V × D)} {us : List Value}, Vals (L.map Prod.fst) us → EachIs (fun (u : Value) (q : V × D) => RelV q.1 u) us L
  | [], _, h => by cases h; exact .nil
  | q :: L, _, h => by
    cases h with
    | cons h1 h2 => exact .cons h1 (vals_each h2)
theorem each_imp {α β : Type} {R S : α → β → Prop} : ∀ {us : List α} {L : List β}, EachIs R us L → (∀ u, ∀ q ∈ L, R u q → S u q) → EachIs S us L
  | _, _, .nil, _ => .nil
  | _, _, .cons h t, k => .cons (k _ _ List.mem_cons_self h) (each_imp t fun u q hq => k u q (List.mem_cons_of_mem _ hq))
theorem cr_sortG {X : Cx} (hu : X.A.units + 100 < cLine) : CallR X (.builtin "sorted") (rSortG X.K) := by
  intro pins s σ H vs us Q I r h
  obtain ⟨a, L, rfl, hs, hd, hal, hk, q⟩ := h
  obtain ⟨its, rv, hl, hz⟩ := I.list hs
  rw [Vals.ref1 r]
  have e := vals_each rv
  have er : EachIs (fun v (q : V × D) => ∃ as, Reads s.heap v q.2.py as) its L := each_imp e fun u q hq h => Dp.reads I _ q.1 u (hd q hq).1 h
  rw [List.length_map] at hz
  refine PySem.W.sorted_data (enc := fun q : V × D => q.2.py) hl.isList e er hal hk hz (fun q hq => by have := (hd q hq).2; omega) fun out h1 h2 => ?_
  obtain ⟨ep, he'⟩ := PyProof.Rows.sortedAll_at s.heap its out.toArray
  have hv := each_vals h2
  have hlen : ((L.mergeSort (dataLe false fun q : V × D => q.2.py)).map Prod.fst).length ≤ sizeLine := by
    rw [List.length_map, List.length_mergeSort]
    exact hz
  exact ⟨.ref _, upd H (s.heap.objs.size + 1) (.lst _), I.laid (t' := s.toks) (fun _ _ => PyProof.Rows.sortedAll_old) (Nat.le_succ _) ⟨hlen, out, ep, hv, he'⟩, rfl, q _ (I.hok.fresh (Nat.le_succ _))⟩
abbrev srtD (xs : List D) : List D := xs.mergeSort (dataLe false D.py)
def pSortG : Prm := ⟨rcCall "sorted", 1, fun ds n Q _ => match ds with
  | [.lst _ xs] => (∀ x ∈ xs, x.ok 59 = true) ∧ AllAlike (xs.map D.py) ∧ Sortable (xs.map D.py) ∧ Q (.lst 0 (srtD xs)) n
  | _ => False⟩
theorem ats_zip {G : Gb} {A : Addr → Prop} {W : Wd} : ∀ {vs : List V} {xs : List D}, Ats G A W vs xs → (vs.zip xs).map Prod.fst = vs ∧ (vs.zip xs).map Prod.snd = xs ∧ ∀ q ∈ vs.zip xs, At G A W q.1 q.2
  | _, _, .nil => ⟨rfl, rfl, fun q h => nomatch h⟩
  | _, _, .cons (v := v) (d := d) (vs := vs) (ds := xs) h t => by
    obtain ⟨h1, h2, h3⟩ := ats_zip t
    refine ⟨by rw [List.zip_cons_cons, List.map_cons, h1], by rw [List.zip_cons_cons, List.map_cons, h2], fun q hq => ?_⟩
    rw [List.zip_cons_cons] at hq
    rcases List.mem_cons.mp hq with rfl | hq
    · exact h
    · exact h3 q hq
theorem ats_of {G : Gb} {A : Addr → Prop} {W : Wd} : ∀ {L : List (V × D)}, (∀ q ∈ L, At G A W q.1 q.2) → Ats G A W (L.map Prod.fst) (L.map Prod.snd)
  | [], _ => .nil
  | q :: L, h => .cons (h q List.mem_cons_self) (ats_of fun r hr => h r (List.mem_cons_of_mem _ hr))
theorem pSortG_ok : PrmF pSortG ["sorted"] := fun {c M Wx p e es xs} g hb hp he ha => by
  obtain ⟨s, p1, e, p2, rfl, rfl, h⟩ := rcCall_ok he
  obtain ⟨rfl, g1, g2⟩ := isGl_ok g hb (by simp) h
  have hu : c.A.units + 100 < cLine := by have := g.rm.un; omega
  cases ha with
  | cons na hs he2 hr =>
    cases hr
    refine PE.imp (pe_callB (cr_sortG hu) g1 g2 (by decide +kernel) (pa_cons he2 pa_nil (hs _)) (by decide) (by decide) (hs _) (by rfl)) fun σ H Q h => ?_
    obtain ⟨A₀, W₀, A, W, sl, n, E, Qd, e, R, Xs, hw, kk⟩ := priF1 na hp h
    refine ⟨A₀, W₀, A, W, sl, n, E, Qd, e, R, Xs, hw, fun v d W1 n1 S1 r1 q1 => ?_⟩
    obtain ⟨A2, W2, d, n2, Qd2, Ed2, e2, P2, a2, sp2⟩ := kk v d W1 n1 S1 r1 q1
    rw [← e2]
    cases d with
    | lst j xs =>
      obtain ⟨a, vs, rfl, h1, h2⟩ := a2.isl
      obtain ⟨ok, hal, hk, q⟩ := sp2
      obtain ⟨z1, z2, z3⟩ := ats_zip h2
      have key : (vs.zip xs).map (fun q => q.2.py) = xs.map D.py := by
        have k2 : ((vs.zip xs).map Prod.snd).map D.py = xs.map D.py := by rw [z2]
        rw [← k2, List.map_map]
        rfl
      refine ⟨a, vs.zip xs, rfl, SqL.of (by rw [z1]; exact h1), fun q hq => ?_, by rw [key]; exact hal, by rw [key]; exact hk, fun p np => ?_⟩
      · have hx : q.2 ∈ xs := by
          rw [← z2]
          exact List.mem_map_of_mem hq
        have o := ok _ hx
        exact ⟨(z3 q hq).dp o, Nat.le_trans (ok_lay o).2 (by decide)⟩
      · have hm : ((vs.zip xs).mergeSort (dataLe false fun q => q.2.py)).map Prod.snd = srtD xs := by
          have k3 := List.map_mergeSort (l := vs.zip xs) (f := Prod.snd) (r := dataLe false fun q : V × D => q.2.py) (s := dataLe false D.py) (fun a _ b _ => rfl)
          rw [k3, z2]
        refine P2.lst np (ds := srtD xs) ?_ q
        rw [← hm]
        exact ats_of fun q hq => z3 q (List.mem_mergeSort.mp hq)
    | _ => exact False.elim sp2
/-! ### sorted(d), d a dict of numbers -/
def pSortD : Prm := ⟨rcCall "sorted", 1, fun ds n Q _ => match ds with
  | [.dK kvs] => ∃ ks : List Int, kvs.map Prod.fst = ks.map Sum.inl ∧ ks.length < 64 ∧ ∀ ys : List Int, ys.Perm ks → ys.Pairwise (· ≤ ·) → Q (.lst 0 (ys.map D.int)) n
  | _ => False⟩
theorem pSortD_ok : PrmF pSortD ["sorted"] := fun {c M Wx p e es xs} g hb hp he ha => by
  obtain ⟨s, p1, e, p2, rfl, rfl, h⟩ := rcCall_ok he
  obtain ⟨rfl, g1, g2⟩ := isGl_ok g hb (by simp) h
  cases ha with
  | cons na hs he2 hr =>
    cases hr
    refine PE.imp (pe_callB (call_sortedDI g.calm) g1 g2 (by decide +kernel) (pa_cons he2 pa_nil (hs _)) (by decide) (by decide) (hs _) (by rfl)) fun σ H Q h => ?_
    obtain ⟨A₀, W₀, A, W, sl, n, E, Qd, e, R, Xs, hw, kk⟩ := priF1 na hp h
    refine ⟨A₀, W₀, A, W, sl, n, E, Qd, e, R, Xs, hw, fun v d W1 n1 S1 r1 q1 => ?_⟩
    obtain ⟨A2, W2, d, n2, Qd2, Ed2, e2, P2, a2, sp2⟩ := kk v d W1 n1 S1 r1 q1
    rw [← e2]
    cases d with
    | dK kvs =>
      obtain ⟨ks, hk, h64, q⟩ := sp2
      cases a2 with
      | dK rd _ ek _ => exact ⟨_, _, ks, rfl, rd, by rw [← hk]; exact ek, h64, fun ys p pm pw np => P2.lst np (at_ints ys) (q ys pm pw)⟩
    | _ => exact False.elim sp2
/-! ### dict(d) -/
def pDictC : Prm := ⟨rcCall "dict", 1, fun ds n Q _ => match ds with
  | [.dK kvs] => Q (.dK kvs) n
  | _ => False⟩
theorem pDictC_ok : PrmF pDictC ["dict"] := fun {c M Wx p e es xs} g hb hp he ha => by
  obtain ⟨s, p1, e, p2, rfl, rfl, h⟩ := rcCall_ok he
  obtain ⟨rfl, g1, g2⟩ := isGl_ok g hb (by simp) h
  cases ha with
  | cons na hs he2 hr =>
    cases hr
    refine PE.imp (pe_callTy call_dictD g1 g2 (by decide +kernel) (pa_cons he2 pa_nil (hs _)) (by decide) (by decide) (hs _) (by rfl)) fun σ H Q h => ?_
    obtain ⟨A₀, W₀, A, W, sl, n, E, Qd, e, R, Xs, hw, kk⟩ := priF1 na hp h
    refine ⟨A₀, W₀, A, W, sl, n, E, Qd, e, R, Xs, hw, fun v d W1 n1 S1 r1 q1 => ?_⟩
    obtain ⟨A2, W2, d, n2, Qd2, Ed2, e2, P2, a2, sp2⟩ := kk v d W1 n1 S1 r1 q1
    rw [← e2]
    cases d with
    | dK kvs =>
      cases a2 with
      | dK rd _ ek ae => exact ⟨_, _, rfl, rd, fun p np => P2.dK np ek ae sp2⟩
    | _ => exact False.elim sp2
/-! ### min(list of numbers) -/
def pMinl : Prm := ⟨rcCall "min", 1, fun ds n Q _ => match ds with
  | [.lst _ xs] => ∃ ns, intsOf xs = some ns ∧ 0 < ns.length ∧ ∀ m, m ∈ ns → (∀ y ∈ ns, m ≤ y) → Q (.int m) n
  | _ => False⟩
theorem pMinl_ok : PrmOk pMinl ["min"] := fun {c M Wx p e es xs} g hb hp he ha => by
  obtain ⟨s, p1, e, p2, rfl, rfl, h⟩ := rcCall_ok he
  obtain ⟨rfl, g1, g2⟩ := isGl_ok g hb (by simp) h
  cases ha with
  | cons na hs he2 hr =>
    cases hr
    refine PE.imp (pe_callB (cr_min g.calm) g1 g2 (by decide +kernel) (pa_cons he2 pa_nil (hs _)) (by decide) (by decide) (hs _) (by rfl)) fun σ H Q h => ?_
    obtain ⟨A₀, W₀, A, W, sl, n, E, Qd, e, R, Xs, hw, kk⟩ := pri1 na hp h
    refine ⟨A₀, W₀, A, W, sl, n, E, Qd, e, R, Xs, hw, fun v d W1 n1 S1 r1 q1 => ?_⟩
    obtain ⟨A2, W2, d, n2, Qd2, Ed2, e2, P2, a2, sp2⟩ := kk v d W1 n1 S1 r1 q1
    rw [← e2]
    cases d with
    | lst j xs =>
      obtain ⟨ns, hn, h0, q⟩ := sp2
      obtain ⟨a, vs, rfl, h1, h2⟩ := a2.isl
      exact ⟨a, ns, rfl, SqL.of (by rw [← ints_at h2 hn]; exact h1), h0, fun m hm hy => P2.at .int (q m hm hy)⟩
    | _ => exact False.elim sp2
/-! ### gcd(a, b), gcd the module's -/
def pGcd : Prm := ⟨fun sc e => match e with
  | .Call (.Name s _) [e, f] [] _ => if (decide (s = Str.ofString "gcd") && glB sc s) = true then some [e, f] else none
  | _ => none, 2, fun ds n Q _ => match ds with
  | [.int a, .int b] => Q (.int ((Nat.gcd a.natAbs b.natAbs : Nat) : Int)) n
  | _ => False⟩
theorem pGcd_ok {c : Cx} {M : Pm} {Wx : WX} {p : Nat} {e : Expr} {es : List Expr} {xs : X} (hm : c.mg (Str.ofString "gcd") = some (.builtin "math.gcd")) (hp : M.Phy[p]? = some pGcd.fn) (he : pGcd.rc c.env.scope e = some es) (ha : PEs c M Wx xs es) : PE c e (rdX M Wx (.pri p xs)) := by
  unfold pGcd at he
  dsimp only at he
  split at he
  case h_2 => cases he
  split at he
  case isFalse => cases he
  rename_i hh
  rw [Bool.and_eq_true, decide_eq_true_eq] at hh
  obtain ⟨rfl, hg⟩ := hh
  cases he
  cases ha with
  | cons na hs he2 hr =>
    cases hr with
    | cons nb hs' he3 hr' =>
      cases hr'
      refine PE.imp (pe_callBfun cr_gcd (gl_ok hg).1 hm (pa_cons he2 (pa_cons he3 pa_nil (hs' _)) (hs _)) (gl_ok hg).2 (hs _) (by rw [hs' []]; rfl)) fun σ H Q h => ?_
      obtain ⟨A₀, W₀, A, W, sl, n, E, Qd, e, R, Xs, hw, kk⟩ := h
      refine ⟨A₀, W₀, A, W, sl, n, E, _, e, R, Xs, hw, fun v d W1 n1 S1 r1 q1 => ?_⟩
      refine ⟨A₀, W₀, A, W1, sl, n1, E, _, rfl, R.ste S1, Xs.ste S1, q1, fun v2 d2 W2 n2 S2 r2 q2 => ?_⟩
      have q2 : callW M.Phy p [d, d2] n2 Qd E := q2
      unfold callW at q2
      rw [hp] at q2
      obtain ⟨_, q2⟩ := q2
      have a1 := (r1.2.1 na).stp ((R.ste S1).bas.stp S2)
      have a2 := r2.2.1 nb
      cases d <;> first | exact False.elim q2 | skip
      cases d2 <;> first | exact False.elim q2 | skip
      cases a1
      cases a2
      exact ⟨_, _, rfl, kk _ _ W2 n2 (S1.trans S2) ⟨.inl .int, fun _ => .int, fun z => nomatch z⟩ q2⟩
end Q
/-! Q layer, part X: a def is called at one caller; the law at the end. -/
namespace Q
open PySem PySem.Spec PyProof.Rows L2
section
variable {P : Program} {w : World} {K : PySem.W.Frag} {mg : Str → Option Value}
/-- a def without defaults, called by one caller -/
theorem run_at {CX : CXT} {base : Heap} {k : Nat} {x qual : Str} {ar : Arguments} {bd : List Stmt} {sc : Scope} {f : Addr} {fd : FuncData} {N ps : List Str} {A : Around} {outer : List PySem.Env} {s0 : Shared} {H : Hp} {args : Args} {us : List Value} {vs : List V} {Q : VK} {E : XK}
    (Fu : FunD K x qual ar bd sc [] [] f fd) (Sc : FnScope N ps sc) (room : Room (k + 1) A) (env0 : Env0 P w K mg base A outer s0 H) (bind : BindsTo s0 fd args (ps.zip us)) (rel : Vals vs us) (lv : vs.length = ps.length)
    (body : ∀ cdv, Room k (A.deeper (envOfC qual sc s0.heap.objs.size f cdv)) → ∃ t, PSs (cxOf CX P w K mg base N qual sc f cdv A outer s0 H E) bd t ∧ t { nx := fun _ H' => Q .non H', rt := Q } (L2.start N vs) H) :
    codeAny (model P w) A (.call (.ref f) args) (CR CX outer P w H s0 Q E) s0 := by
  obtain ⟨oc, od, dV, kV, doc, pm, an, cdv, ct, osl, rfl, look, cod, _, _⟩ := Fu.ex
  have inS : K.In s0.heap := env0.mod.kin.keeps fun b o z => (env0.bs b o z).1
  have kinds : ∀ q ∈ ps.zip us, sc.names.lookup q.1 = some .local ∨ (sc.names.lookup q.1 = some .cell ∧ ((cellsFrom (s0.heap.objs.size + 1) sc.names []).lookup q.1).isSome = true) := by
    intro q hq
    have mem : q.1 ∈ ps := (List.of_mem_zip (show (q.1, q.2) ∈ ps.zip us from hq)).1
    exact (Sc.par q.1 mem).imp id fun z => ⟨z, PySem.W.cellsFrom_some _ _ _ (.inl z)⟩
  refine codeAny_call_function room.depth (inS _ _ look) rfl Sc.co Sc.gen rfl (PySem.W.codeRec_of inS cod) (bind _ _ _ _ ?_)
  refine wpAny_newFunctionEnv_cells Sc.kind kinds fun env eq s1 inC => ?_
  subst eq
  refine ⟨(env0.mod.nolimit.keeps fun b o z => (env0.bs b o z).1).keeps inC.toInCall.keep, codeAny_func ?_⟩
  obtain ⟨t, run, want⟩ := body cdv (room.deeper _)
  have start : Inv (cxOf CX P w K mg base N qual sc f cdv A outer s0 H E) [] (L2.start N vs) H s1 := inv_start Sc room.hd env0 lv rel inC
  refine wpAny_mono (run.run [] s1 _ H _ start want) (fun fl s2 got => ?_) fun e s2 got => got
  have done : ∀ {σ2 : L2.St} {H2 : Hp} {v : V} {u : Value}, Inv (cxOf CX P w K mg base N qual sc f cdv A outer s0 H E) [] σ2 H2 s2 → RelV v u → Q v H2 → CE outer P w H s0 Q u s2 :=
    fun J r q => ⟨_, _, J.os, J.bare, J.base, J.hok, r, q⟩
  cases fl with
  | brk => exact (show False from got.choose_spec.choose_spec.2).elim
  | cont => exact (show False from got.choose_spec.choose_spec.2).elim
  | next =>
    obtain ⟨σ2, H2, J, q⟩ := got
    exact done (v := V.non) (u := Value.none) J rfl q
  | ret u =>
    obtain ⟨v, σ2, H2, J, r, q⟩ := got
    exact done J r q
/-- the law's start: the tables stand open, the script perhaps known -/
def open0 (T : List (Addr × Addr)) (a : Addr) (sc : Option HO) : Hp := fun b => if b ∈ T.map Prod.snd then some (.tbl #[]) else if b = a then sc else none
theorem open0_tab {T : List (Addr × Addr)} {a : Addr} {sc : Option HO} {q : Addr × Addr} (h : q ∈ T) : open0 T a sc q.2 = some (.tbl #[]) := if_pos (List.mem_map_of_mem h)
theorem open0_cases {T : List (Addr × Addr)} {a b : Addr} {sc : Option HO} {o : HO} (h : open0 T a sc b = some o) : (b ∈ T.map Prod.snd ∧ o = .tbl #[]) ∨ (b ∉ T.map Prod.snd ∧ b = a ∧ sc = some o) := by
  unfold open0 at h
  split at h
  · rename_i m
    exact .inl ⟨m, (Option.some.inj h).symm⟩
  · rename_i m
    split at h
    · rename_i e
      exact .inr ⟨m, e, h⟩
    · cases h
/-- the row's end: what is run at the caller answers True -/
theorem end_run {mb : Str → Option Value} {fa a : Addr} {T : List (Addr × Addr)} {s1 : Shared} {vs : List Value} {ns : List Int} (inK : K.In s1.heap) (glob : s1.heap.Ns mainGlobals mg) (bltn : s1.heap.Ns builtinsNs mb)
    (same : ∀ x : Str, x ≠ "__name__" → mb x = bootBuiltins x) (lim : s1.heap.NoLimit) (nogen : s1.gens = #[]) (emp : ∀ q ∈ T, s1.heap.get? q.2 = some { cls := .none, data := .fields #[] }) (outK : ∀ q ∈ T, K.lookup q.2 = none) (cod : ∀ q ∈ T, PySem.W.CodeHd s1.heap q.1 q.2)
    (bmod : ∃ (bm : Addr) (ob : Obj), mg "__builtins__" = some (.ref bm) ∧ bm ≠ builtinsNs ∧ s1.heap.get? bm = some ob ∧ ob.cls = .type "module" ∧ ob.dict = some builtinsNs ∧ ob.data = .plain)
    (scr : s1.heap.get? a = some { cls := .type "list", data := .seq vs.toArray }) (isI : IntsAre vs ns) (short : ns.length ≤ sizeLine)
    (go : ∀ (base : Heap) (H : Hp), K.In base → base.Ns mainGlobals mg → (∀ q ∈ T, LamX.TabB base mg q.1 q.2) → (∀ q ∈ T, H q.2 = some (.tbl #[])) → SqL K H a (ns.map V.int) → Env0 P w K mg base callerA [] s1 H →
      codeAny (model P w) callerA (.call (.ref fa) ⟨[.ref a], []⟩) (CR (L2.CX P w) [] P w H s1 (fun v _ => v = .bl true) fun _ _ _ => False) s1) :
    codeAny (model P w) callerA (.call (.ref fa) ⟨[.ref a], []⟩) (fun r s2 => r = .ok (.ret (.bool true)) ∧ OldK s1.heap s2.heap ∧ s2.os = s1.os ∧ AllBare s2.gens) s1 := by
  have tabAt : ∀ {b : Addr}, b ∈ T.map Prod.snd → ∃ q ∈ T, q.2 = b := fun h => by
    obtain ⟨q, hq, e⟩ := List.mem_map.mp h
    exact ⟨q, hq, e⟩
  have aOut : a ∉ T.map Prod.snd := fun z => by
    obtain ⟨q, hq, e⟩ := tabAt z
    have := emp q hq
    rw [e, scr] at this
    cases this
  obtain ⟨sc, scH, scK, scS⟩ : ∃ sc : Option HO, (∀ o, sc = some o → o = .frz { cls := .type "list", data := .seq vs.toArray } (.lst (ns.map V.int))) ∧ (∀ o, K.lookup a = some o → sc = none) ∧ SqL K (open0 T a sc) a (ns.map V.int) := by
    cases known : K.lookup a with
    | none =>
      refine ⟨some (.frz { cls := .type "list", data := .seq vs.toArray } (.lst (ns.map V.int))), fun o h => (Option.some.inj h).symm, (fun o h => nomatch h), .inl (.inr ⟨{ cls := .type "list", data := .seq vs.toArray }, ?_⟩)⟩
      unfold open0
      rw [if_neg aOut, if_pos rfl]
    | some o =>
      have e : o = { cls := .type "list", data := .seq vs.toArray } := by
        have := inK a o known
        rw [scr] at this
        exact (Option.some.inj this).symm
      refine ⟨none, (fun o h => nomatch h), (fun _ _ => rfl), .inr ⟨o, vs.toArray, 0, known, by rw [e], by rw [e], by rw [e], by rw [List.size_toArray, isI.length]; exact short, by simpa using vals_ints isI⟩⟩
  have free : ∀ {b : Addr} {o : Obj}, s1.heap.get? b = some o → o.data ≠ .fields #[] → (∀ us n, o.data ≠ .seq us n) → open0 T a sc b = none := fun {b o} get n1 n2 => by
    cases h : open0 T a sc b with
    | none => rfl
    | some u =>
      exfalso
      rcases open0_cases h with ⟨m, _⟩ | ⟨_, e, _⟩
      · obtain ⟨q, hq, e⟩ := tabAt m
        rw [← e, emp q hq] at get
        exact n1 (congrArg Obj.data (Option.some.inj get).symm)
      · rw [e, scr] at get
        exact n2 vs.toArray 0 (congrArg Obj.data (Option.some.inj get).symm)
  have stay : ∀ {b : Addr} {o : Obj}, s1.heap.get? b = some o → o.data ≠ .fields #[] → (∀ us n, o.data ≠ .seq us n) → (hidT s1.heap (open0 T a sc)).get? b = some o := fun get n1 n2 => hidT_get get (free get n1 n2)
  have names : ∀ {b : Addr} {m : Str → Option Value}, s1.heap.Ns b m → (hidT s1.heap (open0 T a sc)).Ns b m := fun ⟨o, es, ep, get, d, r⟩ =>
    ⟨o, es, ep, stay get (by rw [d]; exact fun z => nomatch z) (by rw [d]; exact fun _ _ z => nomatch z), d, r⟩
  have inB : K.In (hidT s1.heap (open0 T a sc)) := fun b o known => hidT_get (inK b o known) (by
    cases h : open0 T a sc b with
    | none => rfl
    | some u =>
      exfalso
      rcases open0_cases h with ⟨m, _⟩ | ⟨_, e, e2⟩
      · obtain ⟨q, hq, e⟩ := tabAt m
        rw [← e, outK q hq] at known
        cases known
      · rw [scK o (by rw [← e]; exact known)] at e2
        cases e2)
  have good : HOk P w (open0 T a sc) s1.heap := fun b o h => by
    rcases open0_cases h with ⟨m, rfl⟩ | ⟨_, rfl, e⟩
    · obtain ⟨q, hq, rfl⟩ := tabAt m
      exact emp q hq
    · rw [scH o e]
      exact ⟨scr, by rw [List.length_map]; exact short, vs, _, vals_ints isI, scr⟩
  have tabs : ∀ q ∈ T, LamX.TabB (hidT s1.heap (open0 T a sc)) mg q.1 q.2 := fun q hq => by
    have isE := emp q hq
    refine ⟨?_, ?_, fun z => ?_⟩
    · obtain ⟨o, us, file, tf, flags, tg, inF, text, tt, get, c1, c2, c3, rest⟩ := cod q hq
      refine ⟨o, us, file, tf, flags, tg, inF, text, tt, stay get (fun z => ?_) (fun _ _ z => ?_), c1, c2, c3, rest⟩
      · rw [c2] at z
        cases z
        simp at c3
      · rw [c2] at z
        cases z
    · obtain ⟨bm, ob, b1, b2, get, b4, b5, b6⟩ := bmod
      refine ⟨bm, ob, b1, b2, fun z => ?_, fun z => ?_, stay get (by rw [b6]; exact fun z => nomatch z) (by rw [b6]; exact fun _ _ z => nomatch z), b4, b5, b6⟩
      · obtain ⟨o, es, ep, g2, d, _⟩ := glob
        rw [z, g2] at get
        cases get
        rw [d] at b6
        cases b6
      · rw [z, isE] at get
        cases get
        cases b6
    · obtain ⟨o, es, ep, g2, d, _⟩ := glob
      rw [z, isE] at g2
      cases g2
      cases d
  have env0 : Env0 P w K mg (hidT s1.heap (open0 T a sc)) callerA [] s1 (open0 T a sc) :=
    ⟨rfl, ⟨inB, names glob, ⟨mb, names bltn, same⟩, let ⟨mc, l1, l2⟩ := lim; ⟨mc, names l1, l2⟩⟩, fun b o h => of_hidT h, Nat.le_of_eq (hidT_size _ _), trivial, fun b h => absurd (show b ∈ ([] : List Addr) from h) (by simp), good, .of_eq nogen⟩
  refine codeAny_mono (go _ _ inB (names glob) tabs (fun q hq => open0_tab hq) scS env0) fun r s2 got => ?_
  match r, got with
  | .error e, got => exact (got : L2.CX P w [] _ s1 (fun _ _ _ => False) e s2).choose_spec.choose_spec.choose_spec.choose_spec.choose_spec.2.2.2.2.2.2.2.elim
  | .ok (.ret u), got =>
    obtain ⟨v, H2, os, bare, un, good2, rel, rfl⟩ := (got : CE [] P w _ s1 _ u s2)
    have rel : u = Value.bool true := rel
    subst rel
    have kept : ∀ {b : Addr} {o : Obj}, b ∉ T.map Prod.snd → s1.heap.get? b = some o → s2.heap.get? b = some o := fun {b o} nb get => by
      cases h : open0 T a sc b with
      | none => exact un.keep b o get h (fun z => absurd (show b ∈ ([] : List Addr) from z) (by simp)) (by simp)
      | some u =>
        rcases open0_cases h with ⟨m, _⟩ | ⟨_, e, e2⟩
        · exact absurd m nb
        · have eu := scH u e2
          subst eu
          have g2 := (good2 b _ (un.frzs b _ _ h)).1
          have g1 := (good b _ h).1
          rw [get] at g1
          cases g1
          exact g2
    have more : ∀ {b : Addr} {o : Obj}, b ∈ T.map Prod.snd → s1.heap.get? b = some o → asItWas s1.heap s2.heap b o ∧ ∃ o', s2.heap.get? b = some o' := fun {b o} m get => by
      obtain ⟨q, hq, rfl⟩ := tabAt m
      obtain ⟨ps, z⟩ := un.tbls q.2 #[] (open0_tab hq)
      have g2 := good2 q.2 _ z
      have isE := emp q hq
      rw [isE] at get
      cases get
      exact ⟨.inr (.inl ⟨((cod q hq).tab isE).isCodeTable, rfl, #[], ps, rfl, by rw [Array.empty_append]; rw [Array.empty_append] at g2; exact g2⟩), _, g2⟩
    refine ⟨rfl, ⟨fun b o get => ?_, fun b o get => ?_⟩, os, bare⟩
    · by_cases m : b ∈ T.map Prod.snd
      · exact (more m get).1
      · exact .inl (kept m get)
    · by_cases m : b ∈ T.map Prod.snd
      · exact (more m get).2
      · exact ⟨o, kept m get⟩
  | .ok .next, got => exact False.elim got
  | .ok .brk, got => exact False.elim got
  | .ok .cont, got => exact False.elim got
end
end Q
/-! Q layer, part y: a def with a known code is called at one caller. -/
namespace Q
open PySem PySem.Spec PyProof.Rows L2
section
variable {P : Program} {w : World} {K : PySem.W.Frag} {mg : Str → Option Value}
theorem run_atC {CX : CXT} {base : Heap} {k : Nat} {x qual : Str} {ar : Arguments} {bd : List Stmt} {sc : Scope} {f : Addr} {oc dV kV doc pm cdv ct : Value} {od an : Option Addr} {osl : Array (Option Value)} {N ps : List Str} {A : Around} {outer : List PySem.Env} {s0 : Shared} {H : Hp} {args : Args} {us : List Value} {vs : List V} {Q : VK} {E : XK}
    (look : K.lookup f = some ⟨oc, od, .func (PySem.W.fnOf x qual ar bd sc dV kV doc pm an cdv ct), osl⟩) (cod : PySem.W.codeIn K cdv qual = true) (Sc : FnScope N ps sc) (room : Room (k + 1) A) (env0 : Env0 P w K mg base A outer s0 H) (bind : BindsTo s0 (PySem.W.fnOf x qual ar bd sc dV kV doc pm an cdv ct) args (ps.zip us)) (rel : Vals vs us) (lv : vs.length = ps.length)
    (body : Room k (A.deeper (envOfC qual sc s0.heap.objs.size f cdv)) → ∃ t, PSs (cxOf CX P w K mg base N qual sc f cdv A outer s0 H E) bd t ∧ t { nx := fun _ H' => Q .non H', rt := Q } (L2.start N vs) H) :
    codeAny (model P w) A (.call (.ref f) args) (CR CX outer P w H s0 Q E) s0 := by
  have inS : K.In s0.heap := env0.mod.kin.keeps fun b o z => (env0.bs b o z).1
  have kinds : ∀ q ∈ ps.zip us, sc.names.lookup q.1 = some .local ∨ (sc.names.lookup q.1 = some .cell ∧ ((cellsFrom (s0.heap.objs.size + 1) sc.names []).lookup q.1).isSome = true) := by
    intro q hq
    have mem : q.1 ∈ ps := (List.of_mem_zip (show (q.1, q.2) ∈ ps.zip us from hq)).1
    exact (Sc.par q.1 mem).imp id fun z => ⟨z, PySem.W.cellsFrom_some _ _ _ (.inl z)⟩
  refine codeAny_call_function room.depth (inS _ _ look) rfl Sc.co Sc.gen rfl (PySem.W.codeRec_of inS cod) (bind _ _ _ _ ?_)
  refine wpAny_newFunctionEnv_cells Sc.kind kinds fun env eq s1 inC => ?_
  subst eq
  refine ⟨(env0.mod.nolimit.keeps fun b o z => (env0.bs b o z).1).keeps inC.toInCall.keep, codeAny_func ?_⟩
  obtain ⟨t, run, want⟩ := body (room.deeper _)
  have start : Inv (cxOf CX P w K mg base N qual sc f cdv A outer s0 H E) [] (L2.start N vs) H s1 := inv_start Sc room.hd env0 lv rel inC
  refine wpAny_mono (run.run [] s1 _ H _ start want) (fun fl s2 got => ?_) fun e s2 got => got
  have done : ∀ {σ2 : L2.St} {H2 : Hp} {v : V} {u : Value}, Inv (cxOf CX P w K mg base N qual sc f cdv A outer s0 H E) [] σ2 H2 s2 → RelV v u → Q v H2 → CE outer P w H s0 Q u s2 :=
    fun J r q => ⟨_, _, J.os, J.bare, J.base, J.hok, r, q⟩
  cases fl with
  | brk => exact (show False from got.choose_spec.choose_spec.2).elim
  | cont => exact (show False from got.choose_spec.choose_spec.2).elim
  | next =>
    obtain ⟨σ2, H2, J, q⟩ := got
    exact done (v := V.non) (u := Value.none) J rfl q
  | ret u =>
    obtain ⟨v, σ2, H2, J, r, q⟩ := got
    exact done J r q
end
end Q
/-! Q layer, part Y: what the head tells of classes, exceptions, defs. -/
namespace Q
open PySem PySem.Spec PyProof.Rows L2
/-- where all stands, by names -/
structure Lay where
  cl : List Nat
  xc : List Nat
  nm : Nat → List Str
  cn : Nat → Str
  pl : Nat → He.Defn
  lam : List (He.Defn × Str)
def gOf (L : Lay) (K : PySem.W.Frag) : Gb where
  K := K
  kap := fun c => He.ga K (L.cn c)
  nm := L.nm
  gam := fun i => He.fAd K (L.pl i)
  st := 0
  inn := 0
  T := L.lam.map fun p => ((He.cT K p.1).2, p.2)
  cl := L.cl
  cn := L.cn
  xc := L.xc
def tys (cl : List Nat) : List Ty := [.int, .bool, .str, .list, .tuple, .dict] ++ cl.map .cls
def clB (K : PySem.W.Frag) (G : Gb) (c : Nat) : Bool :=
  He.eqO (PySem.W.findIn K (.ref (G.kap c)) "__class__") (some (some (.builtin "object.__class__"))) && (He.eqO (PySem.W.specialIn K (.builtin "object.__class__") "__get__") (some (some (.builtin "getset_descriptor.__get__"))) &&
  (decide (PySem.W.takesIn K (.builtin "object.__class__") = some true) && (decide (PySem.W.mroIn K (G.kap c) (.type "object") = some true) && ((G.nm c).all (fun f => He.eqO (PySem.W.findIn K (.ref (G.kap c)) f) (some none)) &&
  (decide (G.nm c).Nodup && ((tys G.cl).all (fun u => decide (PySem.W.kitOne K (.ref (G.kap c)) (tyV G u) = some (decide (u = .cls c)))) &&
  (["NoneType", "int", "bool", "str", "list", "tuple", "dict"] : List String).all fun b => decide (PySem.W.kitOne K (.type b) (.ref (G.kap c)) = some false)))))))
theorem clB_ok {K : PySem.W.Frag} {G : Gb} {c : Nat} (h : clB K G c = true) (hc : Cls K (G.kap c)) : ClF K G c := by
  unfold clB at h
  obtain ⟨h1, h⟩ := He.ba h
  obtain ⟨h2, h⟩ := He.ba h
  obtain ⟨h3, h⟩ := He.ba h
  obtain ⟨h4, h⟩ := He.ba h
  obtain ⟨h5, h⟩ := He.ba h
  obtain ⟨h6, h⟩ := He.ba h
  obtain ⟨h7, h8⟩ := He.ba h
  refine ⟨hc, He.eqO_ok h1, He.eqO_ok h2, of_decide_eq_true h3, of_decide_eq_true h4, fun f hf => He.eqO_ok (List.all_eq_true.mp h5 f hf), of_decide_eq_true h6, fun u hu => ?_, fun b hb => of_decide_eq_true (List.all_eq_true.mp h8 b hb)⟩
  have mem : u ∈ tys G.cl := by
    unfold tys
    cases u with
    | cls k => exact List.mem_append_right _ (List.mem_map_of_mem (hu k rfl))
    | _ => exact List.mem_append_left _ (by decide)
  exact of_decide_eq_true (List.all_eq_true.mp h7 u mem)
def oexB (K : PySem.W.Frag) (C : Addr) : Bool := (match K.lookup C with
  | some ⟨.type t, _, .cls cd, sl⟩ => (match cd.mro, sl.toList with
    | .ref C' :: bm, [_, _, _, _, some (.builtin n), _] => decide (t = "type") && (decide (C' = C) && (decide (n = "ValueError.__new__") && (!cd.hasDel && (cd.hasDict && PySem.HandSPX.refsVE bm))))
    | _, _ => false)
  | _ => false) && (He.eqO (PySem.W.findIn K (.ref C) "__setattr__") (some (some (.builtin "object.__setattr__"))) && (decide (PySem.W.subIn K (.ref C) (.type "BaseException") = some true) && (decide (PySem.W.typeIn K (.ref C) = some (.type "type")) && PySem.W.keepIn K (.ref C))))
theorem oexB_ok {K : PySem.W.Frag} {C : Addr} (h : oexB K C = true) : OexC K C := by
  unfold oexB at h
  obtain ⟨h1, h⟩ := He.ba h
  obtain ⟨h2, h⟩ := He.ba h
  obtain ⟨h3, h⟩ := He.ba h
  obtain ⟨h4, h5⟩ := He.ba h
  refine ⟨?_, He.eqO_ok h2, of_decide_eq_true h3, of_decide_eq_true h4, h5⟩
  split at h1
  case h_2 => cases h1
  rename_i t dd cd sl lk
  split at h1
  case h_2 => cases h1
  rename_i C' bm k0 k1 k2 k3 n k5 em es
  obtain ⟨g1, h1⟩ := He.ba h1
  obtain ⟨g2, h1⟩ := He.ba h1
  obtain ⟨g3, h1⟩ := He.ba h1
  obtain ⟨g4, h1⟩ := He.ba h1
  obtain ⟨g5, g6⟩ := He.ba h1
  have g1 := of_decide_eq_true g1
  have g2 := of_decide_eq_true g2
  have g3 := of_decide_eq_true g3
  subst g1 g2 g3
  obtain ⟨nm, bs, mro, ns, q, hd, sn, sub, ab, col, del⟩ := cd
  have em : mro = .ref C' :: bm := em
  have g4 : (!del) = true := g4
  have g5 : hd = true := g5
  subst em g5
  have g4 : del = false := by
    cases del with
    | false => rfl
    | true => cases g4
  subst g4
  obtain ⟨l⟩ := sl
  have es : l = [k0, k1, k2, k3, some (.builtin "ValueError.__new__"), k5] := es
  subst es
  exact ⟨nm, q, ns, bs, bm, sn, sub, ab, col, dd, k0, k1, k2, k3, k5, lk, g6⟩
/-- a raised class -/
def xcB (K : PySem.W.Frag) (G : Gb) (c : Nat) : Bool := xfB K (G.kap c) && (oexB K (G.kap c) && ((G.nm c).all (fun f => He.eqO (PySem.W.findIn K (.ref (G.kap c)) f) (some none)) && (decide (G.nm c).Nodup &&
  (He.eqO (PySem.W.findIn K (.ref (G.kap c)) "__init__") (some (some (.ref (He.fAd K (G.cn c, some "__init__"))))) && (decide (PySem.W.typeIn K (.ref (He.fAd K (G.cn c, some "__init__"))) = some (.type "function")) &&
  G.xc.all fun c' => decide (PySem.W.exmOne K (.ref (G.kap c)) (.ref (G.kap c')) = some (decide (c = c'))))))))
structure XcT (K : PySem.W.Frag) (G : Gb) (c : Nat) : Prop where
  xf : XfC K (G.kap c)
  oex : OexC K (G.kap c)
  no : ∀ f ∈ G.nm c, PySem.W.findIn K (.ref (G.kap c)) f = some none
  nd : (G.nm c).Nodup
  ini : PySem.W.findIn K (.ref (G.kap c)) "__init__" = some (some (.ref (He.fAd K (G.cn c, some "__init__"))))
  typ : PySem.W.typeIn K (.ref (He.fAd K (G.cn c, some "__init__"))) = some (.type "function")
  exm : ∀ c' ∈ G.xc, PySem.W.exmOne K (.ref (G.kap c)) (.ref (G.kap c')) = some (decide (c = c'))
theorem xcB_ok {K : PySem.W.Frag} {G : Gb} {c : Nat} (h : xcB K G c = true) : XcT K G c := by
  unfold xcB at h
  obtain ⟨h1, h⟩ := He.ba h
  obtain ⟨h2, h⟩ := He.ba h
  obtain ⟨h3, h⟩ := He.ba h
  obtain ⟨h4, h⟩ := He.ba h
  obtain ⟨h5, h⟩ := He.ba h
  obtain ⟨h6, h7⟩ := He.ba h
  exact ⟨xfB_ok h1, oexB_ok h2, fun f hf => He.eqO_ok (List.all_eq_true.mp h3 f hf), of_decide_eq_true h4, He.eqO_ok h5, of_decide_eq_true h6, fun c' hc => of_decide_eq_true (List.all_eq_true.mp h7 c' hc)⟩
/-- all of it -/
def exL (L : Lay) (K : PySem.W.Frag) : Bool := L.cl.all (clB K (gOf L K)) && L.xc.all (xcB K (gOf L K))
theorem exL_cl {L : Lay} {K : PySem.W.Frag} (h : exL L K = true) {c : Nat} (hc : c ∈ L.cl) (k : Cls K (He.ga K (L.cn c))) : ClF K (gOf L K) c := clB_ok (List.all_eq_true.mp (He.ba h).1 c hc) k
theorem exL_xc {L : Lay} {K : PySem.W.Frag} (h : exL L K = true) {c : Nat} (hc : c ∈ L.xc) : XcT K (gOf L K) c := xcB_ok (List.all_eq_true.mp (He.ba h).2 c hc)
/-- the function that stands there -/
def fdAt (K : PySem.W.Frag) (d : FuncData) (f : Addr) : FuncData := match K.lookup f with
  | some ⟨_, _, .func fd, _⟩ => fd
  | _ => d
theorem fdAt_eq {K : PySem.W.Frag} {d : FuncData} {x qual : Str} {ar : Arguments} {bd : List Stmt} {sc : Scope} {dvs : List V} {kws : List (Str × V)} {f : Addr} {fd : FuncData} (F : FunD K x qual ar bd sc dvs kws f fd) : FunD K x qual ar bd sc dvs kws f (fdAt K d f) := by
  have e : fdAt K d f = fd := by
    obtain ⟨oc, od, dV, kV, doc, pm, an, cdv, ct, osl, _, lk, _⟩ := F.ex
    unfold fdAt
    rw [lk]
  rw [e]
  exact F
end Q
/-! loops and comprehensions over data. -/
namespace Q
open PySem PySem.Spec L2
theorem call_is {Phy : List Fn} {g : Nat} {F : Fn} (h : Phy[g]? = some F) {ds : List D} {n : Nat} {Q : D → Nat → Prop} {E : Exc → Nat → Prop} : callW Phy g ds n Q E ↔ (ds.length = F.ps.length ∧ F.sp ds n Q E) := by
  unfold callW
  rw [h]
/-- each turn gives one, and asks nothing of the stream -/
theorem compL_fm {step : D → Nat → (Option D → Nat → Prop) → Prop} {f : D → Option D} {n : Nat} {K : List D → Nat → Prop} : ∀ {xs acc : List D}, (∀ x ∈ xs, ∀ k : Option D → Nat → Prop, k (f x) n → step x n k) → acc.length + xs.length ≤ sizeMax → K (acc ++ xs.filterMap f) n → compL step xs acc n K
  | [], acc, _, _, hk => by
    show K acc n
    simpa using hk
  | x :: xs, acc, h, hl, hk => by
    refine h x List.mem_cons_self _ ?_
    rw [List.length_cons] at hl
    cases e : f x with
    | none =>
      refine compL_fm (fun y hy => h y (List.mem_cons_of_mem _ hy)) (by omega) ?_
      rw [List.filterMap_cons, e] at hk
      exact hk
    | some y =>
      refine ⟨by omega, compL_fm (fun y hy => h y (List.mem_cons_of_mem _ hy)) (by simp; omega) ?_⟩
      rw [List.filterMap_cons, e] at hk
      rw [List.append_assoc]
      exact hk
theorem compL_map {step : D → Nat → (Option D → Nat → Prop) → Prop} {f : D → D} {n : Nat} {K : List D → Nat → Prop} {xs : List D} (h : ∀ x ∈ xs, ∀ k : Option D → Nat → Prop, k (some (f x)) n → step x n k) (hl : xs.length ≤ sizeMax) (hk : K (xs.map f) n) : compL step xs [] n K :=
  compL_fm (f := fun x => some (f x)) h (by simpa using hl) (by simpa using hk)
/-- each turn gives one, asks the stream c times at most -/
theorem compL_any {step : D → Nat → (Option D → Nat → Prop) → Prop} {P : D → D → Prop} {c B : Nat} {K : List D → Nat → Prop} : ∀ {xs acc : List D} {n : Nat}, (∀ x ∈ xs, ∀ (n : Nat) (k : Option D → Nat → Prop), n + c ≤ B → (∀ y n', n ≤ n' → n' ≤ n + c → P x y → k (some y) n') → step x n k) → acc.length + xs.length ≤ sizeMax → n + c * xs.length ≤ B →
    (∀ (ys : List D) (n' : Nat), n ≤ n' → n' ≤ n + c * xs.length → ys.length = xs.length → (∀ (i : Nat) (x y : D), xs[i]? = some x → ys[i]? = some y → P x y) → K (acc ++ ys) n') → compL step xs acc n K
  | [], acc, n, _, _, _, hk => by
    have := hk [] n (Nat.le_refl _) (by simp) rfl (fun i x y e => by simp at e)
    show K acc n
    simpa using this
  | x :: xs, acc, n, h, hl, hb, hk => by
    rw [List.length_cons] at hl hb
    rw [Nat.mul_add, Nat.mul_one] at hb
    refine h x List.mem_cons_self n _ (by omega) fun y n1 h1 h2 hp => ⟨by omega, ?_⟩
    refine compL_any (P := P) (c := c) (B := B) (fun y hy => h y (List.mem_cons_of_mem _ hy)) (by simp; omega) (by omega) fun ys n2 h3 h4 he hq => ?_
    have := hk (y :: ys) n2 (by omega) (by rw [List.length_cons, Nat.mul_add, Nat.mul_one]; omega) (by simp [he]) (fun i a b e1 e2 => by
      cases i with
      | zero =>
        simp at e1 e2
        subst e1 e2
        exact hp
      | succ i => exact hq i a b (by simpa using e1) (by simpa using e2))
    rw [List.append_assoc]
    exact this
/-- a for: what is so ahead of each turn -/
theorem forL_ind {step : D → Env → (Env → Prop) → Prop} {K : Env → Prop} (I : List D → Env → Prop) (hs : ∀ x xs ρ (k : Env → Prop), I (x :: xs) ρ → (∀ ρ', I xs ρ' → k ρ') → step x ρ k) (hk : ∀ ρ, I [] ρ → K ρ) : ∀ {xs : List D} {ρ : Env}, I xs ρ → forL step xs ρ K
  | [], ρ, h => hk ρ h
  | x :: xs, ρ, h => hs x xs ρ _ h fun ρ' h' => forL_ind I hs hk h'
end Q
/-! loops that end by a count, dicts over data. -/
namespace Q
open PySem PySem.Spec L2
/-- a while: m turns at most are left -/
theorem whlL_ind {test : Env → (Bool → Env → Prop) → Prop} {body : Env → (Env → Prop) → Prop} {K : Env → Prop} (I : Nat → Env → Prop) (hz : ∀ ρ, ¬ I 0 ρ)
    (hs : ∀ m ρ (k : Env → Prop), I (m + 1) ρ → (∀ ρ', I m ρ' → k ρ') → test ρ fun b ρ => if b = true then body ρ k else K ρ) : ∀ {m : Nat} {ρ : Env}, I m ρ → whlL test body m ρ K
  | 0, ρ, h => (hz ρ h).elim
  | m + 1, ρ, h => hs m ρ _ h fun ρ' h' => whlL_ind I hz hs h'
section
variable {kap : Type} [DecidableEq kap]
theorem getK_map {α : Type} {k : α → kap} {v : α → D} {x : α} : ∀ {xs : List α}, (xs.map k).Nodup → x ∈ xs → getK (xs.map fun y => (k y, v y)) (k x) = some (v x)
  | y :: xs, hn, hx => by
    rw [List.map_cons, List.nodup_cons] at hn
    unfold getK
    rw [List.map_cons, List.find?_cons]
    by_cases e : k y = k x
    · rw [decide_eq_true e]
      rcases List.mem_cons.mp hx with rfl | hx
      · rfl
      · exact absurd (List.mem_map.mpr ⟨x, hx, e.symm⟩) hn.1
    · rw [decide_eq_false e]
      rcases List.mem_cons.mp hx with rfl | hx
      · exact absurd rfl e
      · exact getK_map hn.2 hx
theorem getK_none {kvs : List (kap × D)} {k : kap} (h : k ∉ kvs.map Prod.fst) : getK kvs k = none := by
  unfold getK
  rw [Option.map_eq_none_iff, List.find?_eq_none]
  intro q hq
  have : q.1 ≠ k := fun e => h (List.mem_map.mpr ⟨q, hq, e⟩)
  simp [this]
theorem getK_some {kvs : List (kap × D)} {k : kap} {d : D} (h : getK kvs k = some d) : (k, d) ∈ kvs := by
  unfold getK at h
  rw [Option.map_eq_some_iff] at h
  obtain ⟨q, hq, rfl⟩ := h
  have := List.find?_some hq
  have e : q.1 = k := by simpa using this
  rw [← e]
  exact List.mem_of_find?_eq_some hq
theorem getK_isSome {kvs : List (kap × D)} {k : kap} : (getK kvs k).isSome = decide (k ∈ kvs.map Prod.fst) := by
  by_cases h : k ∈ kvs.map Prod.fst
  · rw [decide_eq_true h]
    cases e : getK kvs k with
    | some d => rfl
    | none =>
      unfold getK at e
      rw [Option.map_eq_none_iff, List.find?_eq_none] at e
      obtain ⟨q, hq, e2⟩ := List.mem_map.mp h
      exact absurd (by simpa using e2) (e q hq)
  · rw [decide_eq_false h, getK_none h]
    rfl
theorem setK_new {kvs : List (kap × D)} {k : kap} {d : D} (h : k ∉ kvs.map Prod.fst) : setK kvs k d = kvs ++ [(k, d)] := by
  unfold setK
  rw [if_neg]
  intro z
  obtain ⟨q, hq, e⟩ := List.any_eq_true.mp z
  exact h (List.mem_map.mpr ⟨q, hq, by simpa using e⟩)
theorem setK_old {kvs : List (kap × D)} {k : kap} {d : D} (h : k ∈ kvs.map Prod.fst) : setK kvs k d = kvs.map fun q => if q.1 = k then (q.1, d) else q := by
  unfold setK
  rw [if_pos]
  obtain ⟨q, hq, e⟩ := List.mem_map.mp h
  exact List.any_eq_true.mpr ⟨q, hq, by simpa using e⟩
theorem setK_len {kvs : List (kap × D)} {k : kap} {d : D} : (setK kvs k d).length ≤ kvs.length + 1 := by
  by_cases h : k ∈ kvs.map Prod.fst
  · rw [setK_old h, List.length_map]; omega
  · rw [setK_new h, List.length_append]; exact Nat.le_refl _
end
/-- a dict comprehension: each turn gives one, with a key of its own, and asks nothing of the stream -/
theorem dcompL_map {step : D → Nat → (Option (L2.Key × D) → Nat → Prop) → Prop} {kf : D → L2.Key} {vf : D → D} {n : Nat} {K : List (L2.Key × D) → Nat → Prop} : ∀ {xs : List D} {acc : List (L2.Key × D)}, (∀ x ∈ xs, ∀ k : Option (L2.Key × D) → Nat → Prop, k (some (kf x, vf x)) n → step x n k) →
    (acc.map Prod.fst ++ xs.map kf).Nodup → acc.length + xs.length ≤ sizeMax → K (acc ++ xs.map fun x => (kf x, vf x)) n → dcompL step xs acc n K
  | [], acc, _, _, _, hk => by
    show K acc n
    simpa using hk
  | x :: xs, acc, h, hn, hl, hk => by
    rw [List.length_cons] at hl
    have nk : kf x ∉ acc.map Prod.fst := fun z => by
      have := (List.nodup_append.mp hn).2.2 _ z (kf x) (by simp)
      exact this rfl
    refine h x List.mem_cons_self _ ⟨by omega, ?_⟩
    show dcompL step xs (setK acc (kf x) (vf x)) n K
    rw [setK_new nk]
    refine dcompL_map (fun y hy => h y (List.mem_cons_of_mem _ hy)) ?_ (by simp; omega) ?_
    · simpa [List.append_assoc] using hn
    · simpa [List.append_assoc] using hk
end Q
/-! k02_whole_comers: the defs in the small language, checked against the program's own. Printed by gl.py. -/
namespace LW
open PySem PySem.Spec L2 Q
def top (i : Nat) : Stmt := PySem.Challenge.pw_quickbythen_k02_whole_comers.main.body.getD i (.Pass ⟨0, 0, 0, 0⟩)
def clsBody : Stmt → List Stmt
  | .ClassDef _ _ _ b _ _ _ _ _ _ _ => b
  | _ => []
def meth (i j : Nat) : Stmt := (clsBody (top i)).getD j (.Pass ⟨0, 0, 0, 0⟩)
abbrev P : Nat := 46
abbrev f_is_list : Nat := 0
abbrev f_is_whole : Nat := 1
abbrev f_is_positive : Nat := 2
abbrev f_lowest : Nat := 3
abbrev f_is_fraction : Nat := 4
abbrev f_is_heap : Nat := 5
abbrev f_told : Nat := 6
abbrev f_checked_moment : Nat := 7
abbrev f_plus : Nat := 8
abbrev f_less : Nat := 9
abbrev f_times : Nat := 10
abbrev f_is_below : Nat := 11
abbrev f_is_comer : Nat := 12
abbrev f_bad_comers : Nat := 13
abbrev f_checked_comers : Nat := 14
abbrev f_rate_from : Nat := 15
abbrev f_heap_by : Nat := 16
abbrev f_rate_at : Nat := 17
abbrev f_come_by : Nat := 18
abbrev f_law_draw : Nat := 19
abbrev f_law_pick : Nat := 20
abbrev f_law_same0 : Nat := 21
abbrev f_law_same1 : Nat := 22
abbrev f_law_same2 : Nat := 23
abbrev f_law_same3 : Nat := 24
abbrev f_law_same4 : Nat := 25
abbrev f_law_loose0 : Nat := 26
abbrev f_law_loose1 : Nat := 27
abbrev f_law_loose2 : Nat := 28
abbrev f_law_loose3 : Nat := 29
abbrev f_law_common : Nat := 30
abbrev f_law_low : Nat := 31
abbrev f_law_plus : Nat := 32
abbrev f_law_less : Nat := 33
abbrev f_law_times : Nat := 34
abbrev f_law_is_below : Nat := 35
abbrev f_law_least : Nat := 36
abbrev f_law_total : Nat := 37
abbrev f_law_raw : Nat := 38
abbrev f_law_raw_comers : Nat := 39
abbrev f_law_comers : Nat := 40
abbrev f_law_rate_at : Nat := 41
abbrev f_law_tried : Nat := 42
abbrev f_law_come : Nat := 43
abbrev f_law_split : Nat := 44
abbrev f_law_odds : Nat := 45
def fns0 : List Str := ["is_list", "is_whole", "is_positive", "lowest", "is_fraction", "is_heap", "told", "checked_moment", "plus", "less", "times", "is_below", "is_comer", "bad_comers", "checked_comers", "rate_from", "heap_by", "rate_at", "come_by", "_law_draw", "_law_pick", "_law_same", "_law_same", "_law_same", "_law_same", "_law_same", "_law_loose", "_law_loose", "_law_loose", "_law_loose"]
def fns1 : List Str := ["_law_common", "_law_low", "_law_plus", "_law_less", "_law_times", "_law_is_below", "_law_least", "_law_total", "_law_raw", "_law_raw_comers", "_law_comers", "_law_rate_at", "_law_tried", "_law_come", "_law_split", "_law_odds"]
def fns : List Str := fns0 ++ fns1
def nm : Nat → List Str
  | 0 => []
  | 1 => ["thing"]
  | 2 => ["index"]
  | _ => []
def cn : Nat → Str
  | 0 => ""
  | 1 => "BadMoment"
  | 2 => "BadComers"
  | _ => ""
def bs : List Str := ["isinstance", "int", "bool", "str", "list", "tuple", "dict", "len", "all", "any", "sum", "range", "zip", "enumerate", "abs", "sorted", "set", "repr", "min", "max"]
def mx : List (Str × String) := [(Str.ofString "gcd", "math.gcd")]
def rcSortset : Scope → Expr → Option (List Expr) := fun sc e => match e with
  | .Call (.Name s _) [.Call (.Name r _) [e] [] _] [] _ => if (isGl sc s "sorted" && isGl sc r "set") = true then some [e] else none
  | _ => none
def kwNames : List Keyword → Option (List Str)
  | [] => some []
  | ⟨some a, _, _⟩ :: r => (kwNames r).map (a :: ·)
  | _ => none
def kwVals : List Keyword → List Expr
  | [] => []
  | ⟨_, x, _⟩ :: r => x :: kwVals r
def rcKw (t : String) (ks : List Str) : Scope → Expr → Option (List Expr) := fun sc e => match e with
  | .Call (.Name s _) [] kws _ => if (isGl sc s t && decide (kwNames kws = some ks)) = true then some (kwVals kws) else none
  | _ => none
def prK (gd : Bool) (p : Nat) (sc : Scope) (e : Expr) : Option (List Expr) := if p < P then none else match p - P with
  | 0 => pItems.rc sc e
  | 1 => pLrg.rc sc e
  | 2 => pSorted.rc sc e
  | 3 => rcSortset sc e
  | 4 => pRev.rc sc e
  | 5 => pDict1.rc sc e
  | 6 => pDict0.rc sc e
  | 7 => pStr.rc sc e
  | 8 => pBool.rc sc e
  | 9 => if gd = true then pRepr.rc sc e else none
  | 10 => pGcd.rc sc e
  | 11 => pSortG.rc sc e
  | 12 => pSortD.rc sc e
  | 13 => pDictC.rc sc e
  | 14 => pMinl.rc sc e
  | 15 => if gd = true then rcKw "rate_at" ["moment", "comers"] sc e else none
  | 16 => if gd = true then rcKw "come_by" ["moment", "comers"] sc e else none
  | _ => none
def prfK (p : Nat) : Bool := match p - P with
  | 5 => true
  | 11 => true
  | 12 => true
  | 13 => true
  | _ => false
def cf (i j x : Nat) (cal lm gd fr : Bool) : Cf := { bs := bs, fns := fns.take i, cl := [], nm := nm, cn := cn, cal := cal, lm := lm, gd := gd, x := x, hf := fun g => g == f_law_tried, pr := prK gd, init := fun c => none, meth := fun _ _ => none, np := j, xc := [1, 2], fr := fr, prf := prfK }
def N_is_list : List Str := ["thing"]
def s_is_list : S := (.sq (.ret (.ist (.var 0) [.list, .tuple] false)) .nl)
theorem ck_is_list : ckSs (cf 0 0 0 false false false false) N_is_list s_is_list (defScope (top 6)) (defBody (top 6)) = true := by decide +kernel
def N_is_whole : List Str := ["thing"]
def s_is_whole : S := (.sq (.ret (.boo true (.cons (.ist (.var 0) [.int] true) (.cons (.not_ (.ist (.var 0) [.bool] true)) .nil)))) .nl)
theorem ck_is_whole : ckSs (cf 1 1 0 false false false false) N_is_whole s_is_whole (defScope (top 7)) (defBody (top 7)) = true := by decide +kernel
def N_is_positive : List Str := ["thing"]
def s_is_positive : S := (.sq (.ret (.boo true (.cons (.call f_is_whole (.cons (.var 0) .nil)) (.cons (.cmp .ge (.var 0) (.int 1)) .nil)))) .nl)
theorem ck_is_positive : ckSs (cf 2 2 0 false false false false) N_is_positive s_is_positive (defScope (top 8)) (defBody (top 8)) = true := by decide +kernel
def N_lowest : List Str := ["top", "bottom", "common"]
def s_lowest : S := (.sq (.asg 2 (.pri (P + 10) (.cons (.var 0) (.cons (.var 1) .nil)))) (.sq (.ret (.tup (.cons (.bin .fdiv (.var 0) (.var 2)) (.cons (.bin .fdiv (.var 1) (.var 2)) .nil)))) .nl))
theorem ck_lowest : ckSs (cf 3 3 0 false false false false) N_lowest s_lowest (defScope (top 9)) (defBody (top 9)) = true := by decide +kernel
def N_is_fraction : List Str := ["thing"]
def s_is_fraction : S := (.sq (.ret (.boo true (.cons (.call f_is_list (.cons (.var 0) .nil)) (.cons (.cmp .eq (.bi .len (.cons (.var 0) .nil)) (.int 2)) (.cons (.call f_is_whole (.cons (.idx (.var 0) (.int 0)) .nil)) (.cons (.call f_is_positive (.cons (.idx (.var 0) (.int 1)) .nil)) .nil)))))) .nl)
theorem ck_is_fraction : ckSs (cf 4 4 0 false false false false) N_is_fraction s_is_fraction (defScope (top 10)) (defBody (top 10)) = true := by decide +kernel
def N_is_heap : List Str := ["thing"]
def s_is_heap : S := (.sq (.ret (.boo true (.cons (.call f_is_fraction (.cons (.var 0) .nil)) (.cons (.cmp .ge (.idx (.var 0) (.int 0)) (.int 0)) .nil)))) .nl)
theorem ck_is_heap : ckSs (cf 5 5 0 false false false false) N_is_heap s_is_heap (defScope (top 11)) (defBody (top 11)) = true := by decide +kernel
def N_told : List Str := ["thing"]
def s_told : S := (.sq (.ret (.call f_lowest (.cons (.idx (.var 0) (.int 0)) (.cons (.idx (.var 0) (.int 1)) .nil)))) .nl)
theorem ck_told : ckSs (cf 6 6 0 false false false false) N_told s_told (defScope (top 12)) (defBody (top 12)) = true := by decide +kernel
def N_checked_moment : List Str := ["thing"]
def s_checked_moment : S := (.sq (.iff (.not_ (.call f_is_heap (.cons (.var 0) .nil))) (.sq (.rai 1 (.cons (.var 0) .nil)) .nl) .nl) (.sq (.ret (.call f_told (.cons (.var 0) .nil))) .nl))
theorem ck_checked_moment : ckSs (cf 7 7 0 false false false false) N_checked_moment s_checked_moment (defScope (top 13)) (defBody (top 13)) = true := by decide +kernel
def N_plus : List Str := ["one", "other"]
def s_plus : S := (.sq (.ret (.call f_lowest (.cons (.bin .add (.bin .mul (.idx (.var 0) (.int 0)) (.idx (.var 1) (.int 1))) (.bin .mul (.idx (.var 1) (.int 0)) (.idx (.var 0) (.int 1)))) (.cons (.bin .mul (.idx (.var 0) (.int 1)) (.idx (.var 1) (.int 1))) .nil)))) .nl)
theorem ck_plus : ckSs (cf 8 8 0 false false false false) N_plus s_plus (defScope (top 14)) (defBody (top 14)) = true := by decide +kernel
def N_less : List Str := ["one", "other"]
def s_less : S := (.sq (.ret (.call f_lowest (.cons (.bin .sub (.bin .mul (.idx (.var 0) (.int 0)) (.idx (.var 1) (.int 1))) (.bin .mul (.idx (.var 1) (.int 0)) (.idx (.var 0) (.int 1)))) (.cons (.bin .mul (.idx (.var 0) (.int 1)) (.idx (.var 1) (.int 1))) .nil)))) .nl)
theorem ck_less : ckSs (cf 9 9 0 false false false false) N_less s_less (defScope (top 15)) (defBody (top 15)) = true := by decide +kernel
def N_times : List Str := ["one", "other"]
def s_times : S := (.sq (.ret (.call f_lowest (.cons (.bin .mul (.idx (.var 0) (.int 0)) (.idx (.var 1) (.int 0))) (.cons (.bin .mul (.idx (.var 0) (.int 1)) (.idx (.var 1) (.int 1))) .nil)))) .nl)
theorem ck_times : ckSs (cf 10 10 0 false false false false) N_times s_times (defScope (top 16)) (defBody (top 16)) = true := by decide +kernel
def N_is_below : List Str := ["one", "other"]
def s_is_below : S := (.sq (.ret (.cmp .lt (.bin .mul (.idx (.var 0) (.int 0)) (.idx (.var 1) (.int 1))) (.bin .mul (.idx (.var 1) (.int 0)) (.idx (.var 0) (.int 1))))) .nl)
theorem ck_is_below : ckSs (cf 11 11 0 false false false false) N_is_below s_is_below (defScope (top 17)) (defBody (top 17)) = true := by decide +kernel
def N_is_comer : List Str := ["thing"]
def s_is_comer : S := (.sq (.ret (.boo true (.cons (.call f_is_list (.cons (.var 0) .nil)) (.cons (.cmp .eq (.bi .len (.cons (.var 0) .nil)) (.int 2)) (.cons (.call f_is_heap (.cons (.idx (.var 0) (.int 0)) .nil)) (.cons (.call f_is_heap (.cons (.idx (.var 0) (.int 1)) .nil)) .nil)))))) .nl)
theorem ck_is_comer : ckSs (cf 12 12 0 false false false false) N_is_comer s_is_comer (defScope (top 19)) (defBody (top 19)) = true := by decide +kernel
def N_bad_comers : List Str := ["comers", "ahead", "index", "thing"]
def s_bad_comers : S := (.sq (.iff (.boo false (.cons (.not_ (.call f_is_list (.cons (.var 0) .nil))) (.cons (.cmp .eq (.bi .len (.cons (.var 0) .nil)) (.int 0)) .nil))) (.sq (.ret (.int 0)) .nl) .nl) (.sq (.asg 1 .non) (.sq (.for_ (.tp (.cons (.nm 2) (.cons (.nm 3) .nil))) (.ite_ (.var 0)) (.sq (.iff (.boo false (.cons (.not_ (.call f_is_comer (.cons (.var 3) .nil))) (.cons (.boo true (.cons (.cmp .is_ (.var 1) .non) (.cons (.cmp .ne (.idx (.idx (.var 3) (.int 0)) (.int 0)) (.int 0)) .nil))) .nil))) (.sq (.ret (.var 2)) .nl) .nl) (.sq (.iff (.boo true (.cons (.cmp .isnot (.var 1) .non) (.cons (.not_ (.call f_is_below (.cons (.var 1) (.cons (.idx (.var 3) (.int 0)) .nil)))) .nil))) (.sq (.ret (.var 2)) .nl) .nl) (.sq (.asg 1 (.idx (.var 3) (.int 0))) .nl)))) (.sq (.ret .non) .nl))))
theorem ck_bad_comers : ckSs (cf 13 13 0 false false false false) N_bad_comers s_bad_comers (defScope (top 20)) (defBody (top 20)) = true := by decide +kernel
def N_checked_comers : List Str := ["comers", "wrong", "found", "moment", "rate"]
def s_checked_comers : S := (.sq (.asg 1 (.call f_bad_comers (.cons (.var 0) .nil))) (.sq (.iff (.cmp .isnot (.var 1) .non) (.sq (.rai 2 (.cons (.var 1) .nil)) .nl) .nl) (.sq (.asgO 2 (.lst .nil)) (.sq (.for_ (.tp (.cons (.nm 3) (.cons (.nm 4) .nil))) (.itl (.var 0)) (.sq (.iff (.boo false (.cons (.not_ (.bor 2)) (.cons (.cmp .ne (.idx (.idx (.bor 2) (.neg (.int 1))) (.int 1)) (.call f_told (.cons (.var 4) .nil))) .nil))) (.sq (.app 2 (.tup (.cons (.call f_told (.cons (.var 3) .nil)) (.cons (.call f_told (.cons (.var 4) .nil)) .nil)))) .nl) .nl) .nl)) (.sq (.frz 2) (.sq (.ret (.var 2)) .nl))))))
theorem ck_checked_comers : ckSs (cf 14 14 0 false false false false) N_checked_comers s_checked_comers (defScope (top 21)) (defBody (top 21)) = true := by decide +kernel
def N_rate_from : List Str := ["comers", "moment", "begin", "rate"]
def s_rate_from : S := (.sq (.ret (.idx (.comp (.tp (.cons (.nm 2) (.cons (.nm 3) .nil))) (.itl (.var 0)) (.not_ (.call f_is_below (.cons (.var 1) (.cons (.var 2) .nil)))) (.var 3)) (.neg (.int 1)))) .nl)
theorem ck_rate_from : ckSs (cf 15 15 0 false false false false) N_rate_from s_rate_from (defScope (top 22)) (defBody (top 22)) = true := by decide +kernel
def N_heap_by : List Str := ["comers", "moment", "found", "at", "begin", "rate", "until"]
def s_heap_by : S := (.sq (.asg 2 (.tup (.cons (.int 0) (.cons (.int 1) .nil)))) (.sq (.for_ (.tp (.cons (.nm 3) (.cons (.tp (.cons (.nm 4) (.cons (.nm 5) .nil))) .nil))) (.ite_ (.var 0)) (.sq (.iff (.call f_is_below (.cons (.var 4) (.cons (.var 1) .nil))) (.sq (.asg 6 (.ite (.cmp .lt (.bin .add (.var 3) (.int 1)) (.bi .len (.cons (.var 0) .nil))) (.idx (.idx (.var 0) (.bin .add (.var 3) (.int 1))) (.int 0)) (.var 1))) (.sq (.asg 6 (.ite (.call f_is_below (.cons (.var 1) (.cons (.var 6) .nil))) (.var 1) (.var 6))) (.sq (.asg 2 (.call f_plus (.cons (.var 2) (.cons (.call f_times (.cons (.var 5) (.cons (.call f_less (.cons (.var 6) (.cons (.var 4) .nil))) .nil))) .nil)))) .nl))) .nl) .nl)) (.sq (.ret (.var 2)) .nl)))
theorem ck_heap_by : ckSs (cf 16 16 0 false false false false) N_heap_by s_heap_by (defScope (top 23)) (defBody (top 23)) = true := by decide +kernel
def N_rate_at : List Str := ["comers", "moment", "known"]
def s_rate_at : S := (.sq (.asg 2 (.call f_checked_comers (.cons (.var 0) .nil))) (.sq (.ret (.call f_rate_from (.cons (.var 2) (.cons (.call f_checked_moment (.cons (.var 1) .nil)) .nil)))) .nl))
theorem ck_rate_at : ckSs (cf 17 17 0 false false false false) N_rate_at s_rate_at (defScope (top 24)) (defBody (top 24)) = true := by decide +kernel
def N_come_by : List Str := ["comers", "moment", "known"]
def s_come_by : S := (.sq (.asg 2 (.call f_checked_comers (.cons (.var 0) .nil))) (.sq (.ret (.call f_heap_by (.cons (.var 2) (.cons (.call f_checked_moment (.cons (.var 1) .nil)) .nil)))) .nl))
theorem ck_come_by : ckSs (cf 18 18 0 false false false false) N_come_by s_come_by (defScope (top 25)) (defBody (top 25)) = true := by decide +kernel
def N_law_pick : List Str := ["_law_stream_here", "_law_things"]
def s_law_pick : S := (.sq (.ret (.idx (.var 1) (.call f_law_draw (.cons (.var 0) (.cons (.bi .len (.cons (.var 1) .nil)) .nil))))) .nl)
theorem ck_law_pick : ckSs (cf 20 20 0 false false false false) N_law_pick s_law_pick (defScope (top 29)) (defBody (top 29)) = true := by decide +kernel
def N_law_same0 : List Str := ["_law_found", "_law_due", "_law_mine", "_law_theirs"]
def s_law_same0 : S := (.sq (.iff (.ist (.var 1) [.list, .tuple] false) (.sq (.iff (.boo false (.cons (.cmp .ne (.ist (.var 0) [.list] true) (.ist (.var 1) [.list] true)) (.cons (.cmp .ne (.ist (.var 0) [.tuple] true) (.ist (.var 1) [.tuple] true)) .nil))) (.sq (.ret (.bl false)) .nl) .nl) (.sq (.ret (.boo true (.cons (.cmp .eq (.bi .len (.cons (.var 0) .nil)) (.bi .len (.cons (.var 1) .nil))) (.cons (.bi .all (.cons (.comp (.tp (.cons (.nm 2) (.cons (.nm 3) .nil))) (.itz (.var 0) (.var 1)) (.bl true) .nev) .nil)) .nil)))) .nl)) .nl) (.sq (.iff (.ist (.var 1) [.dict] true) (.sq (.ret (.boo true (.cons (.ist (.var 0) [.dict] true) (.cons .nev .nil)))) .nl) .nl) (.sq (.iff (.boo false (.cons (.ist (.var 1) [.bool] true) (.cons (.ist (.var 0) [.bool] true) .nil))) (.sq (.ret (.boo true (.cons (.ist (.var 1) [.bool] true) (.cons (.ist (.var 0) [.bool] true) (.cons (.cmp .eq (.var 0) (.var 1)) .nil))))) .nl) .nl) (.sq (.ret (.boo true (.cons (.not_ (.ist (.var 0) [.list, .tuple, .dict] false)) (.cons (.cmp .eq (.var 0) (.var 1)) .nil)))) .nl))))
theorem ck_law_same0 : ckSs (cf 21 21 0 false false false false) N_law_same0 s_law_same0 (defScope (top 30)) (defBody (top 30)) = true := by decide +kernel
def N_law_same1 : List Str := ["_law_found", "_law_due", "_law_mine", "_law_theirs"]
def s_law_same1 : S := (.sq (.iff (.ist (.var 1) [.list, .tuple] false) (.sq (.iff (.boo false (.cons (.cmp .ne (.ist (.var 0) [.list] true) (.ist (.var 1) [.list] true)) (.cons (.cmp .ne (.ist (.var 0) [.tuple] true) (.ist (.var 1) [.tuple] true)) .nil))) (.sq (.ret (.bl false)) .nl) .nl) (.sq (.ret (.boo true (.cons (.cmp .eq (.bi .len (.cons (.var 0) .nil)) (.bi .len (.cons (.var 1) .nil))) (.cons (.bi .all (.cons (.comp (.tp (.cons (.nm 2) (.cons (.nm 3) .nil))) (.itz (.var 0) (.var 1)) (.bl true) (.call f_law_same0 (.cons (.var 2) (.cons (.var 3) .nil)))) .nil)) .nil)))) .nl)) .nl) (.sq (.iff (.ist (.var 1) [.dict] true) (.sq (.ret (.boo true (.cons (.ist (.var 0) [.dict] true) (.cons (.call f_law_same0 (.cons (.pri (P + 0) (.cons (.var 0) .nil)) (.cons (.pri (P + 0) (.cons (.var 1) .nil)) .nil))) .nil)))) .nl) .nl) (.sq (.iff (.boo false (.cons (.ist (.var 1) [.bool] true) (.cons (.ist (.var 0) [.bool] true) .nil))) (.sq (.ret (.boo true (.cons (.ist (.var 1) [.bool] true) (.cons (.ist (.var 0) [.bool] true) (.cons (.cmp .eq (.var 0) (.var 1)) .nil))))) .nl) .nl) (.sq (.ret (.boo true (.cons (.not_ (.ist (.var 0) [.list, .tuple, .dict] false)) (.cons (.cmp .eq (.var 0) (.var 1)) .nil)))) .nl))))
theorem ck_law_same1 : ckSs (cf 22 22 0 false false false false) N_law_same1 s_law_same1 (defScope (top 30)) (defBody (top 30)) = true := by decide +kernel
def N_law_same2 : List Str := ["_law_found", "_law_due", "_law_mine", "_law_theirs"]
def s_law_same2 : S := (.sq (.iff (.ist (.var 1) [.list, .tuple] false) (.sq (.iff (.boo false (.cons (.cmp .ne (.ist (.var 0) [.list] true) (.ist (.var 1) [.list] true)) (.cons (.cmp .ne (.ist (.var 0) [.tuple] true) (.ist (.var 1) [.tuple] true)) .nil))) (.sq (.ret (.bl false)) .nl) .nl) (.sq (.ret (.boo true (.cons (.cmp .eq (.bi .len (.cons (.var 0) .nil)) (.bi .len (.cons (.var 1) .nil))) (.cons (.bi .all (.cons (.comp (.tp (.cons (.nm 2) (.cons (.nm 3) .nil))) (.itz (.var 0) (.var 1)) (.bl true) (.call f_law_same1 (.cons (.var 2) (.cons (.var 3) .nil)))) .nil)) .nil)))) .nl)) .nl) (.sq (.iff (.ist (.var 1) [.dict] true) (.sq (.ret (.boo true (.cons (.ist (.var 0) [.dict] true) (.cons (.call f_law_same1 (.cons (.pri (P + 0) (.cons (.var 0) .nil)) (.cons (.pri (P + 0) (.cons (.var 1) .nil)) .nil))) .nil)))) .nl) .nl) (.sq (.iff (.boo false (.cons (.ist (.var 1) [.bool] true) (.cons (.ist (.var 0) [.bool] true) .nil))) (.sq (.ret (.boo true (.cons (.ist (.var 1) [.bool] true) (.cons (.ist (.var 0) [.bool] true) (.cons (.cmp .eq (.var 0) (.var 1)) .nil))))) .nl) .nl) (.sq (.ret (.boo true (.cons (.not_ (.ist (.var 0) [.list, .tuple, .dict] false)) (.cons (.cmp .eq (.var 0) (.var 1)) .nil)))) .nl))))
theorem ck_law_same2 : ckSs (cf 23 23 0 false false false false) N_law_same2 s_law_same2 (defScope (top 30)) (defBody (top 30)) = true := by decide +kernel
def N_law_same3 : List Str := ["_law_found", "_law_due", "_law_mine", "_law_theirs"]
def s_law_same3 : S := (.sq (.iff (.ist (.var 1) [.list, .tuple] false) (.sq (.iff (.boo false (.cons (.cmp .ne (.ist (.var 0) [.list] true) (.ist (.var 1) [.list] true)) (.cons (.cmp .ne (.ist (.var 0) [.tuple] true) (.ist (.var 1) [.tuple] true)) .nil))) (.sq (.ret (.bl false)) .nl) .nl) (.sq (.ret (.boo true (.cons (.cmp .eq (.bi .len (.cons (.var 0) .nil)) (.bi .len (.cons (.var 1) .nil))) (.cons (.bi .all (.cons (.comp (.tp (.cons (.nm 2) (.cons (.nm 3) .nil))) (.itz (.var 0) (.var 1)) (.bl true) (.call f_law_same2 (.cons (.var 2) (.cons (.var 3) .nil)))) .nil)) .nil)))) .nl)) .nl) (.sq (.iff (.ist (.var 1) [.dict] true) (.sq (.ret (.boo true (.cons (.ist (.var 0) [.dict] true) (.cons (.call f_law_same2 (.cons (.pri (P + 0) (.cons (.var 0) .nil)) (.cons (.pri (P + 0) (.cons (.var 1) .nil)) .nil))) .nil)))) .nl) .nl) (.sq (.iff (.boo false (.cons (.ist (.var 1) [.bool] true) (.cons (.ist (.var 0) [.bool] true) .nil))) (.sq (.ret (.boo true (.cons (.ist (.var 1) [.bool] true) (.cons (.ist (.var 0) [.bool] true) (.cons (.cmp .eq (.var 0) (.var 1)) .nil))))) .nl) .nl) (.sq (.ret (.boo true (.cons (.not_ (.ist (.var 0) [.list, .tuple, .dict] false)) (.cons (.cmp .eq (.var 0) (.var 1)) .nil)))) .nl))))
theorem ck_law_same3 : ckSs (cf 24 24 0 false false false false) N_law_same3 s_law_same3 (defScope (top 30)) (defBody (top 30)) = true := by decide +kernel
def N_law_same4 : List Str := ["_law_found", "_law_due", "_law_mine", "_law_theirs"]
def s_law_same4 : S := (.sq (.iff (.ist (.var 1) [.list, .tuple] false) (.sq (.iff (.boo false (.cons (.cmp .ne (.ist (.var 0) [.list] true) (.ist (.var 1) [.list] true)) (.cons (.cmp .ne (.ist (.var 0) [.tuple] true) (.ist (.var 1) [.tuple] true)) .nil))) (.sq (.ret (.bl false)) .nl) .nl) (.sq (.ret (.boo true (.cons (.cmp .eq (.bi .len (.cons (.var 0) .nil)) (.bi .len (.cons (.var 1) .nil))) (.cons (.bi .all (.cons (.comp (.tp (.cons (.nm 2) (.cons (.nm 3) .nil))) (.itz (.var 0) (.var 1)) (.bl true) (.call f_law_same3 (.cons (.var 2) (.cons (.var 3) .nil)))) .nil)) .nil)))) .nl)) .nl) (.sq (.iff (.ist (.var 1) [.dict] true) (.sq (.ret (.boo true (.cons (.ist (.var 0) [.dict] true) (.cons (.call f_law_same3 (.cons (.pri (P + 0) (.cons (.var 0) .nil)) (.cons (.pri (P + 0) (.cons (.var 1) .nil)) .nil))) .nil)))) .nl) .nl) (.sq (.iff (.boo false (.cons (.ist (.var 1) [.bool] true) (.cons (.ist (.var 0) [.bool] true) .nil))) (.sq (.ret (.boo true (.cons (.ist (.var 1) [.bool] true) (.cons (.ist (.var 0) [.bool] true) (.cons (.cmp .eq (.var 0) (.var 1)) .nil))))) .nl) .nl) (.sq (.ret (.boo true (.cons (.not_ (.ist (.var 0) [.list, .tuple, .dict] false)) (.cons (.cmp .eq (.var 0) (.var 1)) .nil)))) .nl))))
theorem ck_law_same4 : ckSs (cf 25 25 0 false false false false) N_law_same4 s_law_same4 (defScope (top 30)) (defBody (top 30)) = true := by decide +kernel
def N_law_loose0 : List Str := ["_law_stream_here", "_law_thing", "_law_some", "_law_one"]
def s_law_loose0 : S := (.sq (.iff (.ist (.var 1) [.list, .tuple] false) (.sq (.asg 2 (.comp (.nm 3) (.itl (.var 1)) (.bl true) .nev)) (.sq (.ret (.ite (.cmp .eq (.call f_law_draw (.cons (.var 0) (.cons (.int 2) .nil))) (.int 0)) (.var 2) (.bi .tuple (.cons (.var 2) .nil)))) .nl)) .nl) (.sq (.ret (.var 1)) .nl))
theorem ck_law_loose0 : ckSs (cf 26 26 0 false false false false) N_law_loose0 s_law_loose0 (defScope (top 31)) (defBody (top 31)) = true := by decide +kernel
def N_law_loose1 : List Str := ["_law_stream_here", "_law_thing", "_law_some", "_law_one"]
def s_law_loose1 : S := (.sq (.iff (.ist (.var 1) [.list, .tuple] false) (.sq (.asg 2 (.comp (.nm 3) (.itl (.var 1)) (.bl true) (.call f_law_loose0 (.cons (.var 0) (.cons (.var 3) .nil))))) (.sq (.ret (.ite (.cmp .eq (.call f_law_draw (.cons (.var 0) (.cons (.int 2) .nil))) (.int 0)) (.var 2) (.bi .tuple (.cons (.var 2) .nil)))) .nl)) .nl) (.sq (.ret (.var 1)) .nl))
theorem ck_law_loose1 : ckSs (cf 27 27 0 false false false false) N_law_loose1 s_law_loose1 (defScope (top 31)) (defBody (top 31)) = true := by decide +kernel
def N_law_loose2 : List Str := ["_law_stream_here", "_law_thing", "_law_some", "_law_one"]
def s_law_loose2 : S := (.sq (.iff (.ist (.var 1) [.list, .tuple] false) (.sq (.asg 2 (.comp (.nm 3) (.itl (.var 1)) (.bl true) (.call f_law_loose1 (.cons (.var 0) (.cons (.var 3) .nil))))) (.sq (.ret (.ite (.cmp .eq (.call f_law_draw (.cons (.var 0) (.cons (.int 2) .nil))) (.int 0)) (.var 2) (.bi .tuple (.cons (.var 2) .nil)))) .nl)) .nl) (.sq (.ret (.var 1)) .nl))
theorem ck_law_loose2 : ckSs (cf 28 28 0 false false false false) N_law_loose2 s_law_loose2 (defScope (top 31)) (defBody (top 31)) = true := by decide +kernel
def N_law_loose3 : List Str := ["_law_stream_here", "_law_thing", "_law_some", "_law_one"]
def s_law_loose3 : S := (.sq (.iff (.ist (.var 1) [.list, .tuple] false) (.sq (.asg 2 (.comp (.nm 3) (.itl (.var 1)) (.bl true) (.call f_law_loose2 (.cons (.var 0) (.cons (.var 3) .nil))))) (.sq (.ret (.ite (.cmp .eq (.call f_law_draw (.cons (.var 0) (.cons (.int 2) .nil))) (.int 0)) (.var 2) (.bi .tuple (.cons (.var 2) .nil)))) .nl)) .nl) (.sq (.ret (.var 1)) .nl))
theorem ck_law_loose3 : ckSs (cf 29 29 0 false false false false) N_law_loose3 s_law_loose3 (defScope (top 31)) (defBody (top 31)) = true := by decide +kernel
def N_law_common : List Str := ["_law_one", "_law_other"]
def s_law_common : S := (.sq (.par [(0, false), (1, false)] (.cons (.bi .abs (.cons (.var 0) .nil)) (.cons (.bi .abs (.cons (.var 1) .nil)) .nil))) (.sq (.whl (.cmp .gt (.var 1) (.int 0)) (.sq (.par [(0, false), (1, false)] (.cons (.var 1) (.cons (.bin .mod (.var 0) (.var 1)) .nil))) .nl)) (.sq (.ret (.var 0)) .nl)))
theorem ck_law_common : ckSs (cf 30 30 0 false false false false) N_law_common s_law_common (defScope (top 32)) (defBody (top 32)) = true := by decide +kernel
def N_law_low : List Str := ["_law_top", "_law_bottom", "_law_common_here"]
def s_law_low : S := (.sq (.asg 2 (.ite (.cmp .gt (.var 1) (.int 0)) (.call f_law_common (.cons (.var 0) (.cons (.var 1) .nil))) (.bin .sub (.int 0) (.call f_law_common (.cons (.var 0) (.cons (.var 1) .nil)))))) (.sq (.ret (.tup (.cons (.bin .fdiv (.var 0) (.var 2)) (.cons (.bin .fdiv (.var 1) (.var 2)) .nil)))) .nl))
theorem ck_law_low : ckSs (cf 31 31 0 false false false false) N_law_low s_law_low (defScope (top 33)) (defBody (top 33)) = true := by decide +kernel
def N_law_plus : List Str := ["_law_one", "_law_other"]
def s_law_plus : S := (.sq (.ret (.call f_law_low (.cons (.bin .add (.bin .mul (.idx (.var 0) (.int 0)) (.idx (.var 1) (.int 1))) (.bin .mul (.idx (.var 1) (.int 0)) (.idx (.var 0) (.int 1)))) (.cons (.bin .mul (.idx (.var 0) (.int 1)) (.idx (.var 1) (.int 1))) .nil)))) .nl)
theorem ck_law_plus : ckSs (cf 32 32 0 false false false false) N_law_plus s_law_plus (defScope (top 34)) (defBody (top 34)) = true := by decide +kernel
def N_law_less : List Str := ["_law_one", "_law_other"]
def s_law_less : S := (.sq (.ret (.call f_law_low (.cons (.bin .sub (.bin .mul (.idx (.var 0) (.int 0)) (.idx (.var 1) (.int 1))) (.bin .mul (.idx (.var 1) (.int 0)) (.idx (.var 0) (.int 1)))) (.cons (.bin .mul (.idx (.var 0) (.int 1)) (.idx (.var 1) (.int 1))) .nil)))) .nl)
theorem ck_law_less : ckSs (cf 33 33 0 false false false false) N_law_less s_law_less (defScope (top 35)) (defBody (top 35)) = true := by decide +kernel
def N_law_times : List Str := ["_law_one", "_law_other"]
def s_law_times : S := (.sq (.ret (.call f_law_low (.cons (.bin .mul (.idx (.var 0) (.int 0)) (.idx (.var 1) (.int 0))) (.cons (.bin .mul (.idx (.var 0) (.int 1)) (.idx (.var 1) (.int 1))) .nil)))) .nl)
theorem ck_law_times : ckSs (cf 34 34 0 false false false false) N_law_times s_law_times (defScope (top 36)) (defBody (top 36)) = true := by decide +kernel
def N_law_is_below : List Str := ["_law_one", "_law_other"]
def s_law_is_below : S := (.sq (.ret (.cmp .lt (.bin .mul (.idx (.var 0) (.int 0)) (.idx (.var 1) (.int 1))) (.bin .mul (.idx (.var 1) (.int 0)) (.idx (.var 0) (.int 1))))) .nl)
theorem ck_law_is_below : ckSs (cf 35 35 0 false false false false) N_law_is_below s_law_is_below (defScope (top 37)) (defBody (top 37)) = true := by decide +kernel
def N_law_least : List Str := ["_law_things", "_law_found", "_law_thing"]
def s_law_least : S := (.sq (.asg 1 (.idx (.var 0) (.int 0))) (.sq (.for_ (.nm 2) (.itl (.var 0)) (.sq (.asg 1 (.ite (.call f_law_is_below (.cons (.var 2) (.cons (.var 1) .nil))) (.var 2) (.var 1))) .nl)) (.sq (.ret (.var 1)) .nl)))
theorem ck_law_least : ckSs (cf 36 36 0 false false false false) N_law_least s_law_least (defScope (top 38)) (defBody (top 38)) = true := by decide +kernel
def N_law_total : List Str := ["_law_things", "_law_found", "_law_thing"]
def s_law_total : S := (.sq (.asg 1 (.tup (.cons (.int 0) (.cons (.int 1) .nil)))) (.sq (.for_ (.nm 2) (.itl (.var 0)) (.sq (.asg 1 (.call f_law_plus (.cons (.var 1) (.cons (.var 2) .nil)))) .nl)) (.sq (.ret (.var 1)) .nl)))
theorem ck_law_total : ckSs (cf 37 37 0 false false false false) N_law_total s_law_total (defScope (top 39)) (defBody (top 39)) = true := by decide +kernel
def N_law_raw : List Str := ["_law_stream_here", "_law_thing", "_law_many"]
def s_law_raw : S := (.sq (.asg 2 (.call f_law_pick (.cons (.var 0) (.cons (.lst (.cons (.int 1) (.cons (.int 1) (.cons (.int 1) (.cons (.int 2) (.cons (.int 3) .nil)))))) .nil)))) (.sq (.ret (.call f_law_loose3 (.cons (.var 0) (.cons (.tup (.cons (.bin .mul (.idx (.var 1) (.int 0)) (.var 2)) (.cons (.bin .mul (.idx (.var 1) (.int 1)) (.var 2)) .nil))) .nil)))) .nl))
theorem ck_law_raw : ckSs (cf 38 38 0 false false false false) N_law_raw s_law_raw (defScope (top 40)) (defBody (top 40)) = true := by decide +kernel
def N_law_raw_comers : List Str := ["_law_stream_here", "_law_comers_here", "_law_pair", "_law_one"]
def s_law_raw_comers : S := (.sq (.ret (.call f_law_loose3 (.cons (.var 0) (.cons (.comp (.nm 2) (.itl (.var 1)) (.bl true) (.comp (.nm 3) (.itl (.var 2)) (.bl true) (.call f_law_raw (.cons (.var 0) (.cons (.var 3) .nil))))) .nil)))) .nl)
theorem ck_law_raw_comers : ckSs (cf 39 39 0 false false false false) N_law_raw_comers s_law_raw_comers (defScope (top 41)) (defBody (top 41)) = true := by decide +kernel
def N_law_comers : List Str := ["_law_stream_here", "_law_most", "_law_found", "_law_moment", "_law_bottom", "_law_k", "_law_rate"]
def s_law_comers : S := (.sq (.par [(2, true), (3, false), (4, false)] (.cons (.lst .nil) (.cons (.tup (.cons (.int 0) (.cons (.int 1) .nil))) (.cons (.call f_law_pick (.cons (.var 0) (.cons (.lst (.cons (.int 1) (.cons (.int 1) (.cons (.int 2) (.cons (.int 3) .nil))))) .nil))) .nil)))) (.sq (.for_ (.nm 5) (.itr (.bin .add (.int 1) (.call f_law_draw (.cons (.var 0) (.cons (.var 1) .nil))))) (.sq (.asg 6 (.call f_law_low (.cons (.call f_law_draw (.cons (.var 0) (.cons (.call f_law_pick (.cons (.var 0) (.cons (.lst (.cons (.int 1) (.cons (.int 5) (.cons (.int 9) (.cons (.int 25) .nil))))) .nil))) .nil))) (.cons (.call f_law_pick (.cons (.var 0) (.cons (.lst (.cons (.int 1) (.cons (.int 1) (.cons (.var 4) .nil)))) .nil))) .nil)))) (.sq (.iff (.boo false (.cons (.cmp .eq (.bor 2) (.lst .nil)) (.cons (.cmp .ne (.idx (.idx (.bor 2) (.neg (.int 1))) (.int 1)) (.var 6)) .nil))) (.sq (.app 2 (.tup (.cons (.var 3) (.cons (.var 6) .nil)))) .nl) .nl) (.sq (.asg 3 (.call f_law_plus (.cons (.var 3) (.cons (.call f_law_low (.cons (.bin .add (.int 1) (.call f_law_draw (.cons (.var 0) (.cons (.int 12) .nil)))) (.cons (.var 4) .nil))) .nil)))) .nl)))) (.sq (.frz 2) (.sq (.ret (.var 2)) .nl))))
theorem ck_law_comers : ckSs (cf 40 40 0 false false false false) N_law_comers s_law_comers (defScope (top 42)) (defBody (top 42)) = true := by decide +kernel
def N_law_rate_at : List Str := ["_law_comers_here", "_law_moment", "_law_begin", "_law_rate"]
def s_law_rate_at : S := (.sq (.ret (.idx (.comp (.tp (.cons (.nm 2) (.cons (.nm 3) .nil))) (.itl (.var 0)) (.not_ (.call f_law_is_below (.cons (.var 1) (.cons (.var 2) .nil)))) (.var 3)) (.neg (.int 1)))) .nl)
theorem ck_law_rate_at : ckSs (cf 41 41 0 false false false false) N_law_rate_at s_law_rate_at (defScope (top 43)) (defBody (top 43)) = true := by decide +kernel
def N_law_tried : List Str := ["_law_ask", "e"]
def s_law_tried : S := (.sq (.tri (.sq (.ret (.tup (.cons (.str "told") (.cons (.cal 0 .nil) .nil)))) .nl) [⟨2, (some 1), true, (some "comers"), (some 0)⟩, ⟨1, (some 1), true, (some "moment"), (some 0)⟩]) .nl)
theorem ck_law_tried : ckSs (cf 42 42 0 true false false false) N_law_tried s_law_tried (defScope (top 44)) (defBody (top 44)) = true := by decide +kernel
def N_law_come : List Str := ["_law_comers_here", "_law_moment", "_law_found", "_law_at", "_law_begin", "_law_rate", "_law_last", "_law_pair"]
def s_law_come : S := (.sq (.asgO 2 (.lst .nil)) (.sq (.for_ (.tp (.cons (.nm 3) (.cons (.tp (.cons (.nm 4) (.cons (.nm 5) .nil))) .nil))) (.ite_ (.var 0)) (.sq (.asg 6 (.call f_law_least (.cons (.bin .add (.lst (.cons (.var 1) .nil)) (.comp (.nm 7) (.itl (.slc (.var 0) (.bin .add (.var 3) (.int 1)) (.bin .add (.var 3) (.int 2)))) (.bl true) (.idx (.var 7) (.int 0)))) .nil))) (.sq (.iff (.call f_law_is_below (.cons (.var 4) (.cons (.var 6) .nil))) (.sq (.app 2 (.call f_law_times (.cons (.var 5) (.cons (.call f_law_less (.cons (.var 6) (.cons (.var 4) .nil))) .nil)))) .nl) .nl) .nl))) (.sq (.frz 2) (.sq (.ret (.call f_law_total (.cons (.var 2) .nil))) .nl))))
theorem ck_law_come : ckSs (cf 43 43 0 false false false false) N_law_come s_law_come (defScope (top 45)) (defBody (top 45)) = true := by decide +kernel
def N_law_split : List Str := ["_law_stream_here", "_law_comers_here", "_law_found", "_law_at", "_law_begin", "_law_rate", "_law_middle"]
def s_law_split : S := (.sq (.asgO 2 (.lst .nil)) (.sq (.for_ (.tp (.cons (.nm 3) (.cons (.tp (.cons (.nm 4) (.cons (.nm 5) .nil))) .nil))) (.ite_ (.var 1)) (.sq (.app 2 (.tup (.cons (.var 4) (.cons (.var 5) .nil)))) (.sq (.iff (.boo true (.cons (.cmp .lt (.bin .add (.var 3) (.int 1)) (.bi .len (.cons (.var 1) .nil))) (.cons (.cmp .eq (.call f_law_draw (.cons (.var 0) (.cons (.int 2) .nil))) (.int 0)) .nil))) (.sq (.asg 6 (.call f_law_times (.cons (.call f_law_plus (.cons (.var 4) (.cons (.idx (.idx (.var 1) (.bin .add (.var 3) (.int 1))) (.int 0)) .nil))) (.cons (.tup (.cons (.int 1) (.cons (.int 2) .nil))) .nil)))) (.sq (.app 2 (.tup (.cons (.var 6) (.cons (.var 5) .nil)))) .nl)) .nl) .nl))) (.sq (.frz 2) (.sq (.ret (.bin .add (.var 2) (.lst (.cons (.tup (.cons (.call f_law_plus (.cons (.idx (.idx (.var 2) (.neg (.int 1))) (.int 0)) (.cons (.tup (.cons (.bin .add (.int 1) (.call f_law_draw (.cons (.var 0) (.cons (.int 4) .nil)))) (.cons (.int 1) .nil))) .nil))) (.cons (.idx (.idx (.var 2) (.neg (.int 1))) (.int 1)) .nil))) .nil)))) .nl))))
theorem ck_law_split : ckSs (cf 44 44 0 false false false false) N_law_split s_law_split (defScope (top 46)) (defBody (top 46)) = true := by decide +kernel
def N_law_odds : List Str := ["_law_comers_here", "_law_at", "_law_found"]
def s_law_odds : S := (.sq (.asgO 2 (.lst (.cons .non (.cons (.int 5) (.cons (.str "ab") (.cons (.tup .nil) (.cons (.tup (.cons (.tup (.cons (.int 0) (.cons (.int 1) .nil))) .nil)) (.cons (.tup (.cons (.tup (.cons (.int 0) (.cons (.int 1) .nil))) (.cons (.tup (.cons (.int 1) (.cons (.int 1) .nil))) (.cons (.tup (.cons (.int 1) (.cons (.int 1) .nil))) .nil)))) (.cons (.pri (P + 6) .nil) (.cons (.bl true) (.cons (.tup (.cons (.int 0) (.cons (.int 1) .nil))) (.cons (.tup (.cons (.tup (.cons (.int 0) (.cons (.int 1) .nil))) (.cons (.int 1) .nil))) (.cons (.tup (.cons (.tup (.cons (.int 0) (.cons (.int 1) .nil))) (.cons (.tup (.cons (.neg (.int 1)) (.cons (.int 2) .nil))) .nil))) .nil))))))))))))) (.sq (.ext 2 (.lst (.cons (.tup (.cons (.tup (.cons (.int 0) (.cons (.int 1) .nil))) (.cons (.tup (.cons (.int 1) (.cons (.int 0) .nil))) .nil))) (.cons (.tup (.cons (.tup (.cons (.int 0) (.cons (.int 1) .nil))) (.cons (.tup (.cons (.bl true) (.cons (.int 1) .nil))) .nil))) (.cons (.tup (.cons (.tup (.cons (.int 0) (.cons (.int 1) .nil))) (.cons (.tup (.cons (.str "1") (.cons (.int 1) .nil))) .nil))) (.cons (.tup (.cons (.tup (.cons (.int 0) (.cons (.int 1) .nil))) (.cons (.tup (.cons (.int 1) (.cons (.int 1) (.cons (.int 1) .nil)))) .nil))) (.cons (.tup (.cons (.tup (.cons (.int 0) (.cons (.int 0) .nil))) (.cons (.tup (.cons (.int 1) (.cons (.int 1) .nil))) .nil))) .nil))))))) (.sq (.ext 2 (.lst (.cons (.tup (.cons (.tup (.cons (.neg (.int 1)) (.cons (.int 1) .nil))) (.cons (.tup (.cons (.int 1) (.cons (.int 1) .nil))) .nil))) (.cons (.tup (.cons (.tup (.cons (.int 0) (.cons (.bl true) .nil))) (.cons (.tup (.cons (.int 1) (.cons (.int 1) .nil))) .nil))) (.cons (.tup (.cons (.lst (.cons (.int 0) (.cons (.int 1) .nil))) (.cons .non .nil))) .nil))))) (.sq (.ext 2 (.ite (.cmp .gt (.var 1) (.int 0)) (.lst (.cons (.tup (.cons (.tup (.cons (.int 0) (.cons (.int 5) .nil))) (.cons (.tup (.cons (.int 1) (.cons (.int 1) .nil))) .nil))) .nil)) (.lst (.cons (.tup (.cons (.tup (.cons (.int 1) (.cons (.int 7) .nil))) (.cons (.tup (.cons (.int 1) (.cons (.int 1) .nil))) .nil))) (.cons (.tup (.cons (.tup (.cons (.int 2) (.cons (.int 1) .nil))) (.cons (.tup (.cons (.int 1) (.cons (.int 1) .nil))) .nil))) .nil))))) (.sq (.frz 2) (.sq (.ret (.ite (.cmp .gt (.var 1) (.int 0)) (.bin .add (.var 2) (.lst (.cons (.tup (.cons (.idx (.idx (.var 0) (.bin .sub (.var 1) (.int 1))) (.int 0)) (.cons (.tup (.cons (.int 77) (.cons (.int 1) .nil))) .nil))) .nil))) (.var 2))) .nl))))))
theorem ck_law_odds : ckSs (cf 45 45 0 false false false false) N_law_odds s_law_odds (defScope (top 47)) (defBody (top 47)) = true := by decide +kernel
end LW
/-! k02_whole_comers: the law in the small language, but for its first statement. Printed by gl.py. -/
namespace LW
open PySem PySem.Spec L2 Q
def N_law : List Str := ["_law_script", "_law_stream_here", "_law_turn", "_law_comers_here", "_law_given", "_law_split_here", "_law_was", "_law_some", "_law_pair", "_law_k", "_law_moment", "_law_due", "_law_raw_here", "_law_found", "_law_other", "_law_odd", "_law_ask", "_law_at", "_law_bad", "_law_rows", "_law_held"]
def s_law : S := (.sq (.for_ (.nm 2) (.itr (.int 6)) (.sq (.asg 3 (.call f_law_comers (.cons (.var 1) (.cons (.int 6) .nil)))) (.sq (.par [(4, false), (5, false)] (.cons (.call f_law_raw_comers (.cons (.var 1) (.cons (.var 3) .nil))) (.cons (.call f_law_split (.cons (.var 1) (.cons (.var 3) .nil))) .nil))) (.sq (.asg 6 (.pri (P + 9) (.cons (.var 4) .nil))) (.sq (.asgO 7 (.comp (.nm 8) (.itl (.var 3)) (.bl true) (.idx (.var 8) (.int 0)))) (.sq (.ext 7 (.comp (.nm 9) (.itr (.int 4)) (.bl true) (.call f_law_low (.cons (.call f_law_draw (.cons (.var 1) (.cons (.int 200) .nil))) (.cons (.bin .add (.int 1) (.call f_law_draw (.cons (.var 1) (.cons (.int 4) .nil)))) .nil))))) (.sq (.frz 7) (.sq (.for_ (.nm 10) (.itl (.var 7)) (.sq (.asg 11 (.lst (.cons (.call f_law_rate_at (.cons (.var 3) (.cons (.var 10) .nil))) (.cons (.call f_law_come (.cons (.var 3) (.cons (.var 10) .nil))) .nil)))) (.sq (.asg 12 (.call f_law_raw (.cons (.var 1) (.cons (.var 10) .nil)))) (.sq (.asgO 13 (.lst (.cons (.call f_rate_at (.cons (.var 4) (.cons (.var 12) .nil))) (.cons (.call f_come_by (.cons (.var 4) (.cons (.var 12) .nil))) .nil)))) (.sq (.frz 13) (.sq (.asg 14 (.lst (.cons (.pri (P + 15) (.cons (.var 10) (.cons (.var 5) .nil))) (.cons (.pri (P + 16) (.cons (.var 10) (.cons (.var 5) .nil))) .nil)))) (.sq (.iff (.boo false (.cons (.not_ (.call f_law_same4 (.cons (.var 13) (.cons (.var 11) .nil)))) (.cons (.not_ (.call f_law_same4 (.cons (.var 14) (.cons (.var 11) .nil)))) (.cons (.cmp .ne (.pri (P + 9) (.cons (.var 4) .nil)) (.var 6)) .nil)))) (.sq (.ret (.bl false)) .nl) .nl) .nl))))))) (.sq (.for_ (.nm 15) (.itl (.lst (.cons .non (.cons (.int 5) (.cons (.tup (.cons (.int 1) .nil)) (.cons (.tup (.cons (.int 1) (.cons (.int 0) .nil))) (.cons (.tup (.cons (.neg (.int 1)) (.cons (.int 1) .nil))) (.cons (.tup (.cons (.int 1) (.cons (.int 1) (.cons (.int 1) .nil)))) (.cons (.bl true) (.cons (.str "1") (.cons (.tup (.cons (.bl true) (.cons (.int 1) .nil))) (.cons (.tup (.cons (.int 1) (.cons (.bl true) .nil))) (.cons (.pri (P + 6) .nil) (.cons (.lst .nil) (.cons (.tup (.cons (.tup (.cons (.int 0) (.cons (.int 1) .nil))) (.cons (.int 1) .nil))) .nil))))))))))))))) (.sq (.for_ (.nm 16) (.itl (.tup (.cons (.glo f_rate_at) (.cons (.glo f_come_by) .nil)))) (.sq (.iff (.not_ (.call f_law_same4 (.cons (.callL f_law_tried 0 (.calV [f_rate_at, f_come_by] 16 (.cons (.var 4) (.cons (.var 15) .nil)))) (.cons (.tup (.cons (.str "moment") (.cons (.var 15) .nil))) .nil)))) (.sq (.ret (.bl false)) .nl) .nl) .nl)) .nl)) (.sq (.asg 17 (.call f_law_draw (.cons (.var 1) (.cons (.bin .add (.bi .len (.cons (.var 3) .nil)) (.int 1)) .nil)))) (.sq (.for_ (.nm 15) (.itl (.call f_law_odds (.cons (.var 3) (.cons (.var 17) .nil)))) (.sq (.asg 18 (.bin .add (.bin .add (.slc (.var 3) .nil (.var 17)) (.lst (.cons (.var 15) (.cons .non .nil)))) (.slc (.var 3) (.var 17) .nil))) (.sq (.asg 18 (.ite (.cmp .eq (.call f_law_draw (.cons (.var 1) (.cons (.int 2) .nil))) (.int 0)) (.var 18) (.bi .tuple (.cons (.var 18) .nil)))) (.sq (.for_ (.nm 16) (.itl (.tup (.cons (.glo f_rate_at) (.cons (.glo f_come_by) .nil)))) (.sq (.iff (.not_ (.call f_law_same4 (.cons (.callL f_law_tried 0 (.calV [f_rate_at, f_come_by] 16 (.cons (.var 18) (.cons .non .nil)))) (.cons (.tup (.cons (.str "comers") (.cons (.var 17) .nil))) .nil)))) (.sq (.ret (.bl false)) .nl) .nl) .nl)) .nl)))) (.sq (.asg 19 (.call f_law_split (.cons (.var 1) (.cons (.var 3) .nil)))) (.sq (.asg 17 (.bin .add (.int 1) (.call f_law_draw (.cons (.var 1) (.cons (.bi .len (.cons (.var 19) .nil)) .nil))))) (.sq (.for_ (.nm 15) (.itl (.tup (.cons .non (.cons (.tup (.cons (.idx (.idx (.var 19) (.bin .sub (.var 17) (.int 1))) (.int 0)) (.cons (.tup (.cons (.int 77) (.cons (.int 1) .nil))) .nil))) .nil)))) (.sq (.asg 18 (.bin .add (.bin .add (.slc (.var 19) .nil (.var 17)) (.lst (.cons (.var 15) .nil))) (.slc (.var 19) (.var 17) .nil))) (.sq (.for_ (.nm 16) (.itl (.tup (.cons (.glo f_rate_at) (.cons (.glo f_come_by) .nil)))) (.sq (.iff (.not_ (.call f_law_same4 (.cons (.callL f_law_tried 0 (.calV [f_rate_at, f_come_by] 16 (.cons (.var 18) (.cons .non .nil)))) (.cons (.tup (.cons (.str "comers") (.cons (.var 17) .nil))) .nil)))) (.sq (.ret (.bl false)) .nl) .nl) .nl)) .nl))) (.sq (.for_ (.nm 15) (.itl (.lst (.cons .non (.cons (.int 5) (.cons (.str "ab") (.cons (.pri (P + 6) .nil) (.cons (.bl true) (.cons (.lst .nil) (.cons (.tup .nil) (.cons (.glo f_law_draw) .nil)))))))))) (.sq (.asgO 13 (.lst (.cons (.callL f_law_tried 0 (.call f_rate_at (.cons (.var 15) (.cons .non .nil)))) .nil))) (.sq (.app 13 (.callL f_law_tried 0 (.call f_come_by (.cons (.var 15) (.cons .non .nil))))) (.sq (.frz 13) (.sq (.iff (.cmp .ne (.var 13) (.bin .mul (.lst (.cons (.tup (.cons (.str "comers") (.cons (.int 0) .nil))) .nil)) (.int 2))) (.sq (.ret (.bl false)) .nl) .nl) .nl))))) (.sq (.asgO 20 (.lst (.cons (.int 1) (.cons (.neg (.int 1)) .nil)))) (.sq (.hld 20 1 (.sq (.asg 13 (.callL f_law_tried 0 (.call f_rate_at (.cons (.var 3) (.cons (.var 20) .nil))))) .nl) (.str "late")) (.sq (.iff (.not_ (.call f_law_same4 (.cons (.var 13) (.cons (.tup (.cons (.str "moment") (.cons (.lst (.cons (.int 1) (.cons (.neg (.int 1)) (.cons (.str "late") .nil)))) .nil))) .nil)))) (.sq (.ret (.bl false)) .nl) .nl) .nl)))))))))))))))))) (.sq (.ret (.bl true)) .nl))
theorem ck_law : ckSs (cf 46 46 2 false true true false) N_law s_law (defScope (top 48)) ((defBody (top 48)).drop 1) = true := by decide +kernel
end LW
/-! the bodies of loops. Printed by bodies.py. -/
namespace LW
open PySem PySem.Spec L2 Q
def s_bad_comers_1 : S := (.sq (.iff (.boo false (.cons (.not_ (.call f_is_comer (.cons (.var 3) .nil))) (.cons (.boo true (.cons (.cmp .is_ (.var 1) .non) (.cons (.cmp .ne (.idx (.idx (.var 3) (.int 0)) (.int 0)) (.int 0)) .nil))) .nil))) (.sq (.ret (.var 2)) .nl) .nl) (.sq (.iff (.boo true (.cons (.cmp .isnot (.var 1) .non) (.cons (.not_ (.call f_is_below (.cons (.var 1) (.cons (.idx (.var 3) (.int 0)) .nil)))) .nil))) (.sq (.ret (.var 2)) .nl) .nl) (.sq (.asg 1 (.idx (.var 3) (.int 0))) .nl)))
def s_bad_comers_r1 : S := (.sq (.ret .non) .nl)
theorem s_bad_comers_eq : s_bad_comers = (.sq (.iff (.boo false (.cons (.not_ (.call f_is_list (.cons (.var 0) .nil))) (.cons (.cmp .eq (.bi .len (.cons (.var 0) .nil)) (.int 0)) .nil))) (.sq (.ret (.int 0)) .nl) .nl) (.sq (.asg 1 .non) (.sq (.for_ (.tp (.cons (.nm 2) (.cons (.nm 3) .nil))) (.ite_ (.var 0)) s_bad_comers_1) s_bad_comers_r1))) := rfl
def s_checked_comers_1 : S := (.sq (.iff (.boo false (.cons (.not_ (.bor 2)) (.cons (.cmp .ne (.idx (.idx (.bor 2) (.neg (.int 1))) (.int 1)) (.call f_told (.cons (.var 4) .nil))) .nil))) (.sq (.app 2 (.tup (.cons (.call f_told (.cons (.var 3) .nil)) (.cons (.call f_told (.cons (.var 4) .nil)) .nil)))) .nl) .nl) .nl)
def s_checked_comers_r1 : S := (.sq (.frz 2) (.sq (.ret (.var 2)) .nl))
theorem s_checked_comers_eq : s_checked_comers = (.sq (.asg 1 (.call f_bad_comers (.cons (.var 0) .nil))) (.sq (.iff (.cmp .isnot (.var 1) .non) (.sq (.rai 2 (.cons (.var 1) .nil)) .nl) .nl) (.sq (.asgO 2 (.lst .nil)) (.sq (.for_ (.tp (.cons (.nm 3) (.cons (.nm 4) .nil))) (.itl (.var 0)) s_checked_comers_1) s_checked_comers_r1)))) := rfl
def s_heap_by_1 : S := (.sq (.iff (.call f_is_below (.cons (.var 4) (.cons (.var 1) .nil))) (.sq (.asg 6 (.ite (.cmp .lt (.bin .add (.var 3) (.int 1)) (.bi .len (.cons (.var 0) .nil))) (.idx (.idx (.var 0) (.bin .add (.var 3) (.int 1))) (.int 0)) (.var 1))) (.sq (.asg 6 (.ite (.call f_is_below (.cons (.var 1) (.cons (.var 6) .nil))) (.var 1) (.var 6))) (.sq (.asg 2 (.call f_plus (.cons (.var 2) (.cons (.call f_times (.cons (.var 5) (.cons (.call f_less (.cons (.var 6) (.cons (.var 4) .nil))) .nil))) .nil)))) .nl))) .nl) .nl)
def s_heap_by_r1 : S := (.sq (.ret (.var 2)) .nl)
theorem s_heap_by_eq : s_heap_by = (.sq (.asg 2 (.tup (.cons (.int 0) (.cons (.int 1) .nil)))) (.sq (.for_ (.tp (.cons (.nm 3) (.cons (.tp (.cons (.nm 4) (.cons (.nm 5) .nil))) .nil))) (.ite_ (.var 0)) s_heap_by_1) s_heap_by_r1)) := rfl
def s_law_common_1 : S := (.sq (.par [(0 , false), (1 , false)] (.cons (.var 1) (.cons (.bin .mod (.var 0) (.var 1)) .nil))) .nl)
def s_law_common_r1 : S := (.sq (.ret (.var 0)) .nl)
theorem s_law_common_eq : s_law_common = (.sq (.par [(0 , false), (1 , false)] (.cons (.bi .abs (.cons (.var 0) .nil)) (.cons (.bi .abs (.cons (.var 1) .nil)) .nil))) (.sq (.whl (.cmp .gt (.var 1) (.int 0)) s_law_common_1) s_law_common_r1)) := rfl
def s_law_least_1 : S := (.sq (.asg 1 (.ite (.call f_law_is_below (.cons (.var 2) (.cons (.var 1) .nil))) (.var 2) (.var 1))) .nl)
def s_law_least_r1 : S := (.sq (.ret (.var 1)) .nl)
theorem s_law_least_eq : s_law_least = (.sq (.asg 1 (.idx (.var 0) (.int 0))) (.sq (.for_ (.nm 2) (.itl (.var 0)) s_law_least_1) s_law_least_r1)) := rfl
def s_law_total_1 : S := (.sq (.asg 1 (.call f_law_plus (.cons (.var 1) (.cons (.var 2) .nil)))) .nl)
def s_law_total_r1 : S := (.sq (.ret (.var 1)) .nl)
theorem s_law_total_eq : s_law_total = (.sq (.asg 1 (.tup (.cons (.int 0) (.cons (.int 1) .nil)))) (.sq (.for_ (.nm 2) (.itl (.var 0)) s_law_total_1) s_law_total_r1)) := rfl
def s_law_comers_1 : S := (.sq (.asg 6 (.call f_law_low (.cons (.call f_law_draw (.cons (.var 0) (.cons (.call f_law_pick (.cons (.var 0) (.cons (.lst (.cons (.int 1) (.cons (.int 5) (.cons (.int 9) (.cons (.int 25) .nil))))) .nil))) .nil))) (.cons (.call f_law_pick (.cons (.var 0) (.cons (.lst (.cons (.int 1) (.cons (.int 1) (.cons (.var 4) .nil)))) .nil))) .nil)))) (.sq (.iff (.boo false (.cons (.cmp .eq (.bor 2) (.lst .nil)) (.cons (.cmp .ne (.idx (.idx (.bor 2) (.neg (.int 1))) (.int 1)) (.var 6)) .nil))) (.sq (.app 2 (.tup (.cons (.var 3) (.cons (.var 6) .nil)))) .nl) .nl) (.sq (.asg 3 (.call f_law_plus (.cons (.var 3) (.cons (.call f_law_low (.cons (.bin .add (.int 1) (.call f_law_draw (.cons (.var 0) (.cons (.int 12) .nil)))) (.cons (.var 4) .nil))) .nil)))) .nl)))
def s_law_comers_r1 : S := (.sq (.frz 2) (.sq (.ret (.var 2)) .nl))
theorem s_law_comers_eq : s_law_comers = (.sq (.par [(2 , true), (3 , false), (4 , false)] (.cons (.lst .nil) (.cons (.tup (.cons (.int 0) (.cons (.int 1) .nil))) (.cons (.call f_law_pick (.cons (.var 0) (.cons (.lst (.cons (.int 1) (.cons (.int 1) (.cons (.int 2) (.cons (.int 3) .nil))))) .nil))) .nil)))) (.sq (.for_ (.nm 5) (.itr (.bin .add (.int 1) (.call f_law_draw (.cons (.var 0) (.cons (.var 1) .nil))))) s_law_comers_1) s_law_comers_r1)) := rfl
def s_law_tried_1 : S := (.sq (.ret (.tup (.cons (.str "told") (.cons (.cal 0 .nil) .nil)))) .nl)
theorem s_law_tried_eq : s_law_tried = (.sq (.tri s_law_tried_1 [⟨2, (some 1), true, (some "comers"), (some 0) ⟩, ⟨1, (some 1), true, (some "moment"), (some 0) ⟩]) .nl) := rfl
def s_law_come_1 : S := (.sq (.asg 6 (.call f_law_least (.cons (.bin .add (.lst (.cons (.var 1) .nil)) (.comp (.nm 7) (.itl (.slc (.var 0) (.bin .add (.var 3) (.int 1)) (.bin .add (.var 3) (.int 2)))) (.bl true) (.idx (.var 7) (.int 0)))) .nil))) (.sq (.iff (.call f_law_is_below (.cons (.var 4) (.cons (.var 6) .nil))) (.sq (.app 2 (.call f_law_times (.cons (.var 5) (.cons (.call f_law_less (.cons (.var 6) (.cons (.var 4) .nil))) .nil)))) .nl) .nl) .nl))
def s_law_come_r1 : S := (.sq (.frz 2) (.sq (.ret (.call f_law_total (.cons (.var 2) .nil))) .nl))
theorem s_law_come_eq : s_law_come = (.sq (.asgO 2 (.lst .nil)) (.sq (.for_ (.tp (.cons (.nm 3) (.cons (.tp (.cons (.nm 4) (.cons (.nm 5) .nil))) .nil))) (.ite_ (.var 0)) s_law_come_1) s_law_come_r1)) := rfl
def s_law_split_1 : S := (.sq (.app 2 (.tup (.cons (.var 4) (.cons (.var 5) .nil)))) (.sq (.iff (.boo true (.cons (.cmp .lt (.bin .add (.var 3) (.int 1)) (.bi .len (.cons (.var 1) .nil))) (.cons (.cmp .eq (.call f_law_draw (.cons (.var 0) (.cons (.int 2) .nil))) (.int 0)) .nil))) (.sq (.asg 6 (.call f_law_times (.cons (.call f_law_plus (.cons (.var 4) (.cons (.idx (.idx (.var 1) (.bin .add (.var 3) (.int 1))) (.int 0)) .nil))) (.cons (.tup (.cons (.int 1) (.cons (.int 2) .nil))) .nil)))) (.sq (.app 2 (.tup (.cons (.var 6) (.cons (.var 5) .nil)))) .nl)) .nl) .nl))
def s_law_split_r1 : S := (.sq (.frz 2) (.sq (.ret (.bin .add (.var 2) (.lst (.cons (.tup (.cons (.call f_law_plus (.cons (.idx (.idx (.var 2) (.neg (.int 1))) (.int 0)) (.cons (.tup (.cons (.bin .add (.int 1) (.call f_law_draw (.cons (.var 0) (.cons (.int 4) .nil)))) (.cons (.int 1) .nil))) .nil))) (.cons (.idx (.idx (.var 2) (.neg (.int 1))) (.int 1)) .nil))) .nil)))) .nl))
theorem s_law_split_eq : s_law_split = (.sq (.asgO 2 (.lst .nil)) (.sq (.for_ (.tp (.cons (.nm 3) (.cons (.tp (.cons (.nm 4) (.cons (.nm 5) .nil))) .nil))) (.ite_ (.var 1)) s_law_split_1) s_law_split_r1)) := rfl
def s_law_1_1 : S := (.sq (.asg 11 (.lst (.cons (.call f_law_rate_at (.cons (.var 3) (.cons (.var 10) .nil))) (.cons (.call f_law_come (.cons (.var 3) (.cons (.var 10) .nil))) .nil)))) (.sq (.asg 12 (.call f_law_raw (.cons (.var 1) (.cons (.var 10) .nil)))) (.sq (.asgO 13 (.lst (.cons (.call f_rate_at (.cons (.var 4) (.cons (.var 12) .nil))) (.cons (.call f_come_by (.cons (.var 4) (.cons (.var 12) .nil))) .nil)))) (.sq (.frz 13) (.sq (.asg 14 (.lst (.cons (.pri (P + 15) (.cons (.var 10) (.cons (.var 5) .nil))) (.cons (.pri (P + 16) (.cons (.var 10) (.cons (.var 5) .nil))) .nil)))) (.sq (.iff (.boo false (.cons (.not_ (.call f_law_same4 (.cons (.var 13) (.cons (.var 11) .nil)))) (.cons (.not_ (.call f_law_same4 (.cons (.var 14) (.cons (.var 11) .nil)))) (.cons (.cmp .ne (.pri (P + 9) (.cons (.var 4) .nil)) (.var 6)) .nil)))) (.sq (.ret (.bl false)) .nl) .nl) .nl))))))
def s_law_1_2_1 : S := (.sq (.iff (.not_ (.call f_law_same4 (.cons (.callL f_law_tried 0 (.calV [f_rate_at, f_come_by] 16 (.cons (.var 4) (.cons (.var 15) .nil)))) (.cons (.tup (.cons (.str "moment") (.cons (.var 15) .nil))) .nil)))) (.sq (.ret (.bl false)) .nl) .nl) .nl)
def s_law_1_2 : S := (.sq (.for_ (.nm 16) (.itl (.tup (.cons (.glo f_rate_at) (.cons (.glo f_come_by) .nil)))) s_law_1_2_1) .nl)
def s_law_1_3_1 : S := (.sq (.iff (.not_ (.call f_law_same4 (.cons (.callL f_law_tried 0 (.calV [f_rate_at, f_come_by] 16 (.cons (.var 18) (.cons .non .nil)))) (.cons (.tup (.cons (.str "comers") (.cons (.var 17) .nil))) .nil)))) (.sq (.ret (.bl false)) .nl) .nl) .nl)
def s_law_1_3 : S := (.sq (.asg 18 (.bin .add (.bin .add (.slc (.var 3) .nil (.var 17)) (.lst (.cons (.var 15) (.cons .non .nil)))) (.slc (.var 3) (.var 17) .nil))) (.sq (.asg 18 (.ite (.cmp .eq (.call f_law_draw (.cons (.var 1) (.cons (.int 2) .nil))) (.int 0)) (.var 18) (.bi .tuple (.cons (.var 18) .nil)))) (.sq (.for_ (.nm 16) (.itl (.tup (.cons (.glo f_rate_at) (.cons (.glo f_come_by) .nil)))) s_law_1_3_1) .nl)))
def s_law_1_4_1 : S := (.sq (.iff (.not_ (.call f_law_same4 (.cons (.callL f_law_tried 0 (.calV [f_rate_at, f_come_by] 16 (.cons (.var 18) (.cons .non .nil)))) (.cons (.tup (.cons (.str "comers") (.cons (.var 17) .nil))) .nil)))) (.sq (.ret (.bl false)) .nl) .nl) .nl)
def s_law_1_4 : S := (.sq (.asg 18 (.bin .add (.bin .add (.slc (.var 19) .nil (.var 17)) (.lst (.cons (.var 15) .nil))) (.slc (.var 19) (.var 17) .nil))) (.sq (.for_ (.nm 16) (.itl (.tup (.cons (.glo f_rate_at) (.cons (.glo f_come_by) .nil)))) s_law_1_4_1) .nl))
def s_law_1_5 : S := (.sq (.asgO 13 (.lst (.cons (.callL f_law_tried 0 (.call f_rate_at (.cons (.var 15) (.cons .non .nil)))) .nil))) (.sq (.app 13 (.callL f_law_tried 0 (.call f_come_by (.cons (.var 15) (.cons .non .nil))))) (.sq (.frz 13) (.sq (.iff (.cmp .ne (.var 13) (.bin .mul (.lst (.cons (.tup (.cons (.str "comers") (.cons (.int 0) .nil))) .nil)) (.int 2))) (.sq (.ret (.bl false)) .nl) .nl) .nl))))
def s_law_1_6 : S := (.sq (.asg 13 (.callL f_law_tried 0 (.call f_rate_at (.cons (.var 3) (.cons (.var 20) .nil))))) .nl)
def s_law_1_r6 : S := (.sq (.iff (.not_ (.call f_law_same4 (.cons (.var 13) (.cons (.tup (.cons (.str "moment") (.cons (.lst (.cons (.int 1) (.cons (.neg (.int 1)) (.cons (.str "late") .nil)))) .nil))) .nil)))) (.sq (.ret (.bl false)) .nl) .nl) .nl)
def s_law_1_r5 : S := (.sq (.asgO 20 (.lst (.cons (.int 1) (.cons (.neg (.int 1)) .nil)))) (.sq (.hld 20 1 s_law_1_6 (.str "late")) s_law_1_r6))
def s_law_1_r4 : S := (.sq (.for_ (.nm 15) (.itl (.lst (.cons .non (.cons (.int 5) (.cons (.str "ab") (.cons (.pri (P + 6) .nil) (.cons (.bl true) (.cons (.lst .nil) (.cons (.tup .nil) (.cons (.glo f_law_draw) .nil)))))))))) s_law_1_5) s_law_1_r5)
def s_law_1_r3 : S := (.sq (.asg 19 (.call f_law_split (.cons (.var 1) (.cons (.var 3) .nil)))) (.sq (.asg 17 (.bin .add (.int 1) (.call f_law_draw (.cons (.var 1) (.cons (.bi .len (.cons (.var 19) .nil)) .nil))))) (.sq (.for_ (.nm 15) (.itl (.tup (.cons .non (.cons (.tup (.cons (.idx (.idx (.var 19) (.bin .sub (.var 17) (.int 1))) (.int 0)) (.cons (.tup (.cons (.int 77) (.cons (.int 1) .nil))) .nil))) .nil)))) s_law_1_4) s_law_1_r4)))
def s_law_1_r2 : S := (.sq (.asg 17 (.call f_law_draw (.cons (.var 1) (.cons (.bin .add (.bi .len (.cons (.var 3) .nil)) (.int 1)) .nil)))) (.sq (.for_ (.nm 15) (.itl (.call f_law_odds (.cons (.var 3) (.cons (.var 17) .nil)))) s_law_1_3) s_law_1_r3))
def s_law_1_r1 : S := (.sq (.for_ (.nm 15) (.itl (.lst (.cons .non (.cons (.int 5) (.cons (.tup (.cons (.int 1) .nil)) (.cons (.tup (.cons (.int 1) (.cons (.int 0) .nil))) (.cons (.tup (.cons (.neg (.int 1)) (.cons (.int 1) .nil))) (.cons (.tup (.cons (.int 1) (.cons (.int 1) (.cons (.int 1) .nil)))) (.cons (.bl true) (.cons (.str "1") (.cons (.tup (.cons (.bl true) (.cons (.int 1) .nil))) (.cons (.tup (.cons (.int 1) (.cons (.bl true) .nil))) (.cons (.pri (P + 6) .nil) (.cons (.lst .nil) (.cons (.tup (.cons (.tup (.cons (.int 0) (.cons (.int 1) .nil))) (.cons (.int 1) .nil))) .nil))))))))))))))) s_law_1_2) s_law_1_r2)
def s_law_1 : S := (.sq (.asg 3 (.call f_law_comers (.cons (.var 1) (.cons (.int 6) .nil)))) (.sq (.par [(4 , false), (5 , false)] (.cons (.call f_law_raw_comers (.cons (.var 1) (.cons (.var 3) .nil))) (.cons (.call f_law_split (.cons (.var 1) (.cons (.var 3) .nil))) .nil))) (.sq (.asg 6 (.pri (P + 9) (.cons (.var 4) .nil))) (.sq (.asgO 7 (.comp (.nm 8) (.itl (.var 3)) (.bl true) (.idx (.var 8) (.int 0)))) (.sq (.ext 7 (.comp (.nm 9) (.itr (.int 4)) (.bl true) (.call f_law_low (.cons (.call f_law_draw (.cons (.var 1) (.cons (.int 200) .nil))) (.cons (.bin .add (.int 1) (.call f_law_draw (.cons (.var 1) (.cons (.int 4) .nil)))) .nil))))) (.sq (.frz 7) (.sq (.for_ (.nm 10) (.itl (.var 7)) s_law_1_1) s_law_1_r1)))))))
def s_law_r1 : S := (.sq (.ret (.bl true)) .nl)
theorem s_law_eq : s_law = (.sq (.for_ (.nm 2) (.itr (.int 6)) s_law_1) s_law_r1) := rfl
end LW
/-! small facts over data. -/
namespace LW
open PySem PySem.Spec L2 Q
theorem deq_int {a b : Int} : deq (.int a) (.int b) = decide (a = b) := by
  unfold deq
  simp [D.py, PyData.eqv]
  rfl
theorem blsOf_map {α : Type} {f : α → Bool} : ∀ {xs : List α}, blsOf (xs.map fun x => D.bl (f x)) = some (xs.map f)
  | [] => rfl
  | x :: xs => by
    show (blsOf (xs.map fun x => D.bl (f x))).map (f x :: ·) = _
    rw [blsOf_map]
    rfl
theorem all_id {α : Type} {f : α → Bool} {xs : List α} : (xs.map f).all id = xs.all f := by
  rw [List.all_map]
  rfl
def pSortset : Prm := ⟨rcSortset, 1, fun ds n Q _ => match ds with
  | [d] => ∃ (xs : List D) (ns : List Int), d.seq = some xs ∧ intsOf xs = some ns ∧ ns.length < 63 ∧ ∀ out : List Int, out.Pairwise (· < ·) → (∀ k, k ∈ out ↔ k ∈ ns) → Q (.lst 0 (out.map D.int)) n
  | _ => False⟩
end LW
/-! what each def does, over data. -/
namespace LW
open PySem PySem.Spec L2 Q
def D.gen : D → Bool
  | .fn _ => false
  | .stm => false
  | .dT _ => false
  | _ => true
def isL (d : D) : Bool := d.isT .list || d.isT .tuple
def isW : D → Bool
  | .int _ => true
  | _ => false
def intD : D → Int
  | .int i => i
  | _ => 0
def D.isFn : D → Bool
  | .fn _ => true
  | _ => false
def F_is_list : Fn := { name := "is_list", ps := ["thing"], sp := fun ds n Q _ => ∃ d, ds = [d] ∧ (D.gen d || D.isFn d) = true ∧ Q (.bl (isL d)) n }
def F_is_whole : Fn := { name := "is_whole", ps := ["thing"], sp := fun ds n Q _ => ∃ d, ds = [d] ∧ D.gen d = true ∧ Q (.bl (isW d)) n }
def isPos (d : D) : Bool := isW d && decide (1 ≤ intD d)
def F_is_positive : Fn := { name := "is_positive", ps := ["thing"], sp := fun ds n Q _ => ∃ d, ds = [d] ∧ D.gen d = true ∧ Q (.bl (isPos d)) n }
theorem ist_gen {d : D} {ts : List Ty} {Q : Bool → Prop} (g : D.gen d = true) : istW d ts Q ↔ Q (ts.any fun t => d.isT t) := by
  cases d <;> first | exact Iff.rfl | cases g
variable {Phy : List Fn}
theorem does_is_list : Does Phy N_is_list F_is_list s_is_list := by
  rintro ds n Qd Ed hl ⟨d, rfl, g, h⟩
  by_cases g' : D.gen d = true
  · simp [s_is_list, N_is_list, wS, wX, wT, wA, wO, wI, sem, ofV, ofI, lookV, lookB, lookO, sl0, blW, intW, lstW, truW, objW, X.isNil, List.getElem?_cons_zero, List.getElem?_cons_succ, ist_gen g']
    simpa [isL] using h
  · cases d with
    | fn k =>
      simp [s_is_list, N_is_list, wS, wX, wT, wA, wO, wI, sem, ofV, ofI, lookV, lookB, lookO, sl0, blW, intW, lstW, truW, objW, X.isNil, List.getElem?_cons_zero, List.getElem?_cons_succ]
      exact ⟨rfl, h⟩
    | _ => first | exact absurd rfl g' | cases g
theorem does_is_whole : Does Phy N_is_whole F_is_whole s_is_whole := by
  rintro ds n Qd Ed hl ⟨d, rfl, g, h⟩
  simp [s_is_whole, N_is_whole, wS, wX, wT, wA, wO, wI, sem, ofV, ofI, lookV, lookB, lookO, sl0, blW, intW, lstW, truW, objW, X.isNil, List.getElem?_cons_zero, List.getElem?_cons_succ, ist_gen g]
  cases d <;> simp_all [isW, D.isT]
theorem does_is_positive (h1 : Phy[f_is_whole]? = some F_is_whole) : Does Phy N_is_positive F_is_positive s_is_positive := by
  rintro ds n Qd Ed hl ⟨d, rfl, g, h⟩
  clear hl
  simp [s_is_positive, N_is_positive, wS, wX, wT, wA, wO, wI, sem, ofV, ofI, lookV, lookB, lookO, sl0, blW, intW, lstW, truW, objW, X.isNil, List.getElem?_cons_zero, List.getElem?_cons_succ, ist_gen g, call_is h1, F_is_whole]
  cases d <;> simp [isW, D.isT, D.gen, cmpW, isPos, intD] at g h ⊢ <;> exact h
/-! ### as_tuples -/
def asT : Nat → D → D
  | 0, d => d
  | k + 1, .lst _ xs => .tup (xs.map (asT k))
  | k + 1, .tup xs => .tup (xs.map (asT k))
  | _ + 1, d => d
/-- nested k deep at most -/
def dpt : Nat → D → Bool
  | 0, d => D.gen d && !isL d
  | k + 1, .lst _ xs => decide (xs.length ≤ sizeMax) && xs.all (dpt k)
  | k + 1, .tup xs => decide (xs.length ≤ sizeMax) && xs.all (dpt k)
  | _ + 1, d => D.gen d
def F_as_tuples (k : Nat) : Fn := { name := "as_tuples", ps := ["thing"], sp := fun ds n Q _ => ∃ d, ds = [d] ∧ dpt k d = true ∧ Q (asT k d) n }
theorem isL_seq {d : D} (h : isL d = true) : ∃ xs, d.seq = some xs := by
  cases d <;> first | exact ⟨_, rfl⟩ | (simp [isL, D.isT] at h; done)
theorem seq_isL {d : D} {xs : List D} (h : d.seq = some xs) : isL d = true := by
  cases d <;> first | rfl | cases h
theorem seq_gen {d : D} {xs : List D} (h : d.seq = some xs) : D.gen d = true := by
  cases d <;> first | rfl | cases h
theorem seqW_of {d : D} {xs : List D} {Q : List D → Prop} (h : d.seq = some xs) : seqW d Q ↔ Q xs := by
  cases d <;> first | cases h; exact Iff.rfl | cases h
theorem asT_L {d : D} {xs : List D} {k : Nat} (h : d.seq = some xs) : asT (k + 1) d = .tup (xs.map (asT k)) := by
  cases d <;> first | cases h; rfl | cases h
theorem dpt_L {d : D} {xs : List D} {k : Nat} (h : d.seq = some xs) : dpt (k + 1) d = (decide (xs.length ≤ sizeMax) && xs.all (dpt k)) := by
  cases d <;> first | cases h; rfl | cases h
theorem asT_n {d : D} {k : Nat} (h : isL d = false) : asT k d = d := by
  cases k with
  | zero => rfl
  | succ k => cases d <;> first | rfl | cases h
theorem dpt_n {d : D} {k : Nat} (h : isL d = false) : dpt k d = D.gen d := by
  cases k with
  | zero => simp [dpt, h]
  | succ k => cases d <;> first | rfl | cases h
end LW
/-! the law's own helpers, over data. -/
namespace LW
open PySem PySem.Spec L2 Q
variable {Phy : List Fn}
/-- how often the stream may be asked -/
def NB : Nat := 1000000
def sp_draw : DSp := fun ds n Q _ => ∃ m : Int, ds = [.stm, .int m] ∧ 0 < m ∧ m < 1073741824 ∧ n < NB ∧ ∀ r : Int, 0 ≤ r → r < m → Q (.int r) (n + 1)
def F_draw : Fn := { name := "_law_draw", ps := ["_law_stream_here", "_law_many"], sp := sp_draw }
theorem c_draw {m : Int} {n : Nat} {Q : D → Nat → Prop} {E : Exc → Nat → Prop} (h : Phy[f_law_draw]? = some F_draw) : callW Phy f_law_draw [.stm, .int m] n Q E ↔ (0 < m ∧ m < 1073741824 ∧ n < NB ∧ ∀ r : Int, 0 ≤ r → r < m → Q (.int r) (n + 1)) := by
  rw [call_is h]
  exact ⟨fun ⟨_, _, e, q⟩ => by cases e; exact q, fun q => ⟨rfl, _, rfl, q⟩⟩
theorem len_seq {t : D} {xs : List D} {Q : D → Prop} (h : t.seq = some xs) : biW .len [t] Q ↔ Q (.int xs.length) := by
  cases t <;> first | (cases h; exact Iff.rfl) | cases h
theorem len_lst {k : Nat} {xs : List D} {Q : D → Prop} : biW .len [.lst k xs] Q ↔ Q (.int xs.length) := Iff.rfl
theorem idx_seq {t : D} {xs : List D} {i : Int} {Q : D → Prop} (h : t.seq = some xs) : idxW t (.int i) Q ↔ ∃ d, atI xs i = some d ∧ Q d := by
  cases t <;> first | (cases h; exact Iff.rfl) | cases h
theorem at_nat {xs : List D} {i : Int} (h0 : 0 ≤ i) (h1 : i < xs.length) : ∃ d, atI xs i = some d ∧ d ∈ xs := by
  obtain ⟨k, rfl⟩ := Int.eq_ofNat_of_zero_le h0
  have hk : k < xs.length := by omega
  refine ⟨xs[k], ?_, List.getElem_mem hk⟩
  show ((if 0 ≤ (k : Int) then if (k : Int) < xs.length then some (k : Int).toNat else none else _).bind fun j => xs[j]?) = _
  rw [if_pos (by omega), if_pos (by omega)]
  show xs[k]? = _
  exact List.getElem?_eq_getElem hk
def F_pick : Fn := { name := "_law_pick", ps := ["_law_stream_here", "_law_things"], sp := fun ds n Q _ => ∃ (t : D) (xs : List D), ds = [.stm, t] ∧ t.seq = some xs ∧ 0 < xs.length ∧ xs.length < 1000000 ∧ n < NB ∧ ∀ x ∈ xs, Q x (n + 1) }
theorem does_pick (h1 : Phy[f_law_draw]? = some F_draw) : Does Phy N_law_pick F_pick s_law_pick := by
  rintro ds n Qd Ed hl ⟨t, xs, rfl, hs, h0, hz, hn, h⟩
  clear hl
  simp [s_law_pick, N_law_pick, wS, wX, wT, wA, wO, wI, sem, ofV, ofI, lookV, lookB, lookO, sl0, blW, intW, lstW, truW, objW, X.isNil, List.getElem?_cons_zero, List.getElem?_cons_succ, c_draw h1, len_seq hs, idx_seq hs]
  refine ⟨by omega, by omega, hn, fun r r0 r1 => ?_⟩
  obtain ⟨d, e, hm⟩ := at_nat (xs := xs) r0 r1
  exact ⟨d, e, h d hm⟩
def F_mixed : Fn := { name := "_law_mixed", ps := ["_law_stream_here", "_law_things"], sp := fun ds n Q _ => ∃ (t : D) (xs : List D), ds = [.stm, t] ∧ t.seq = some xs ∧ xs.length < 1000 ∧ n + xs.length ≤ NB ∧ ∀ (ys : List D) (n' : Nat), ys.Perm xs → n ≤ n' → n' ≤ n + xs.length → Q (.lst 0 ys) n' }
theorem list_seq {t : D} {xs : List D} {Q : D → Prop} (h : t.seq = some xs) : biW .list [t] Q ↔ Q (.lst 0 xs) := by
  cases t <;> first | (cases h; exact Iff.rfl) | cases h
theorem erase_perm : ∀ (l : List D) (m : Nat) (h : m < l.length), ([l[m]] ++ l.eraseIdx m).Perm l
  | x :: l, 0, _ => .refl _
  | x :: l, m + 1, h => by
    have ih := erase_perm l m (by simpa using h)
    exact (List.Perm.swap x _ _).trans (ih.cons x)
/-! ### _law_loose -/
def looseR : Nat → D → D → Prop
  | 0, d, d' => d' = d
  | k + 1, d, d' => match d.seq with
    | some xs => ∃ ys : List D, d'.seq = some ys ∧ ys.length = xs.length ∧ ∀ (i : Nat) (x y : D), xs[i]? = some x → ys[i]? = some y → looseR k x y
    | none => d' = d
def cst : Nat → Nat
  | 0 => 0
  | k + 1 => 1 + 64 * cst k
/-- nested k deep at most, none longer than 64 -/
def lok : Nat → D → Bool
  | 0, d => D.gen d && !isL d
  | k + 1, d => match d.seq with
    | some xs => decide (xs.length ≤ 64) && xs.all (lok k)
    | none => D.gen d
def F_loose (k : Nat) : Fn := { name := "_law_loose", ps := ["_law_stream_here", "_law_thing"], sp := fun ds n Q _ => ∃ d : D, ds = [.stm, d] ∧ lok k d = true ∧ n + cst k ≤ NB ∧ ∀ (d' : D) (n' : Nat), n ≤ n' → n' ≤ n + cst k → looseR k d d' → Q d' n' }
theorem nL_seq {d : D} (h : isL d = false) : d.seq = none := by
  cases d <;> first | rfl | cases h
theorem isL_no {d : D} (h : isL d = false) : d.isT .list = false ∧ d.isT .tuple = false := by
  unfold isL at h
  exact Bool.or_eq_false_iff.mp h
theorem does_loose0 : Does Phy N_law_loose0 (F_loose 0) s_law_loose0 := by
  rintro ds n Qd Ed hl ⟨d, rfl, g, hn, h⟩
  clear hl
  simp only [lok, Bool.and_eq_true, Bool.not_eq_true'] at g
  obtain ⟨e1, e2⟩ := isL_no g.2
  simp [s_law_loose0, N_law_loose0, wS, wX, wT, wA, wO, wI, sem, ofV, ofI, lookV, lookB, lookO, sl0, blW, intW, lstW, truW, objW, X.isNil, List.getElem?_cons_zero, List.getElem?_cons_succ, ist_gen g.1, e1, e2]
  exact h d n (Nat.le_refl _) (Nat.le_add_right _ _) rfl
theorem tup_seq {t : D} {xs : List D} {Q : D → Prop} (h : t.seq = some xs) : biW .tuple [t] Q ↔ Q (.tup xs) := by
  cases t <;> first | (cases h; exact Iff.rfl) | cases h
theorem loose_main (k : Nat) {Phy : List Fn} {d : D} {xs : List D} {n : Nat} {Qd : D → Nat → Prop} {g : Nat} (h1 : Phy[f_law_draw]? = some F_draw) (h2 : Phy[g]? = some (F_loose k)) (hs : d.seq = some xs) (hz : xs.length ≤ 64) (ho : ∀ x ∈ xs, lok k x = true) (hn : n + (1 + 64 * cst k) ≤ NB)
    (h : ∀ (d' : D) (n' : Nat), n ≤ n' → n' ≤ n + (1 + 64 * cst k) → looseR (k + 1) d d' → Qd d' n') {E E2 : Exc → Nat → Prop} : compL (fun x n k => callW Phy g [.stm, x] n (fun d n => k (some d) n) E2) xs [] n fun ds n =>
      callW Phy f_law_draw [.stm, .int 2] n (fun x n => cmpW .eq x (.int 0) fun b => if b = true then Qd (.lst 0 ds) n else biW .tuple [.lst 0 ds] fun d => Qd d n) E := by
  have hc : 64 * cst k = cst k * 64 := Nat.mul_comm _ _
  have hm : cst k * xs.length ≤ cst k * 64 := Nat.mul_le_mul_left _ hz
  refine compL_any (P := looseR k) (c := cst k) (B := NB) (fun x hx n k' hb hk => ?_) (by simp [sizeMax]; omega) (by omega) fun ys n' h3 h4 he hq => ?_
  · rw [call_is h2]
    exact ⟨rfl, x, rfl, ho x hx, hb, hk⟩
  · rw [c_draw h1]
    refine ⟨by omega, by omega, by omega, fun r r0 r1 => ⟨rfl, rfl, ?_⟩⟩
    have key : ∀ d', d'.seq = some ys → Qd d' (n' + 1) := fun d' hd => h d' (n' + 1) (by omega) (by omega) (by
      unfold looseR
      rw [hs]
      exact ⟨ys, hd, he, hq⟩)
    show if deq (.int r) (.int 0) = true then _ else _
    by_cases hb : deq (.int r) (.int 0) = true
    · rw [if_pos hb]
      exact key _ rfl
    · rw [if_neg hb]
      exact key (.tup ys) rfl
theorem does_loose1 (h1 : Phy[f_law_draw]? = some F_draw) (h2 : Phy[f_law_loose0]? = some (F_loose 0)) : Does Phy N_law_loose1 (F_loose 1) s_law_loose1 := by
  rintro ds n Qd Ed hl ⟨d, rfl, g, hn, h⟩
  clear hl
  unfold lok at g
  by_cases hL : isL d = true
  · obtain ⟨xs, hs⟩ := isL_seq hL
    rw [hs] at g
    simp only [Bool.and_eq_true, decide_eq_true_eq, List.all_eq_true] at g
    have e := ist_gen (d := d) (ts := [Ty.list, Ty.tuple]) (Q := fun b => b = true) (seq_gen hs)
    have hL' : (d.isT .list || d.isT .tuple) = true := hL
    simp [s_law_loose1, N_law_loose1, wS, wX, wT, wA, wO, wI, sem, ofV, ofI, lookV, lookB, lookO, sl0, blW, intW, lstW, truW, objW, X.isNil, List.getElem?_cons_zero, List.getElem?_cons_succ, ist_gen (seq_gen hs), hL', seqW_of hs, wTg, wipeS, Tg.slots]
    exact loose_main 0 h1 h2 hs g.1 g.2 hn h
  · rw [Bool.not_eq_true] at hL
    rw [nL_seq hL] at g
    obtain ⟨e1, e2⟩ := isL_no hL
    simp [s_law_loose1, N_law_loose1, wS, wX, wT, wA, wO, wI, sem, ofV, ofI, lookV, lookB, lookO, sl0, blW, intW, lstW, truW, objW, X.isNil, List.getElem?_cons_zero, List.getElem?_cons_succ, ist_gen g, e1, e2]
    exact h d n (Nat.le_refl _) (Nat.le_add_right _ _) (by unfold looseR; rw [nL_seq hL])
theorem does_loose2 (h1 : Phy[f_law_draw]? = some F_draw) (h2 : Phy[f_law_loose1]? = some (F_loose 1)) : Does Phy N_law_loose2 (F_loose 2) s_law_loose2 := by
  rintro ds n Qd Ed hl ⟨d, rfl, g, hn, h⟩
  clear hl
  unfold lok at g
  by_cases hL : isL d = true
  · obtain ⟨xs, hs⟩ := isL_seq hL
    rw [hs] at g
    simp only [Bool.and_eq_true, decide_eq_true_eq, List.all_eq_true] at g
    have hL' : (d.isT .list || d.isT .tuple) = true := hL
    simp [s_law_loose2, N_law_loose2, wS, wX, wT, wA, wO, wI, sem, ofV, ofI, lookV, lookB, lookO, sl0, blW, intW, lstW, truW, objW, X.isNil, List.getElem?_cons_zero, List.getElem?_cons_succ, ist_gen (seq_gen hs), hL', seqW_of hs, wTg, wipeS, Tg.slots]
    exact loose_main 1 h1 h2 hs g.1 g.2 hn h
  · rw [Bool.not_eq_true] at hL
    rw [nL_seq hL] at g
    obtain ⟨e1, e2⟩ := isL_no hL
    simp [s_law_loose2, N_law_loose2, wS, wX, wT, wA, wO, wI, sem, ofV, ofI, lookV, lookB, lookO, sl0, blW, intW, lstW, truW, objW, X.isNil, List.getElem?_cons_zero, List.getElem?_cons_succ, ist_gen g, e1, e2]
    exact h d n (Nat.le_refl _) (Nat.le_add_right _ _) (by unfold looseR; rw [nL_seq hL])
end LW
/-! _law_same, over data. -/
namespace LW
open PySem PySem.Spec L2 Q
variable {Phy : List Fn}
def itemsD (kvs : List (L2.Key × D)) : List D := kvs.map fun q => .tup [(match q.1 with | .inl i => .int i | .inr s => .str s), q.2]
def eqA : D → D → Bool
  | .non, .non => true
  | .bl x, .bl y => x == y
  | .int x, .int y => decide (x = y)
  | .str x, .str y => decide (x = y)
  | _, _ => false
def eqD : Nat → D → D → Bool
  | 0, a, b => eqA a b
  | k + 1, .lst _ xs, .lst _ ys => decide (xs.length = ys.length) && (decide (xs.length ≤ sizeMax) && (xs.zip ys).all fun q => eqD k q.1 q.2)
  | k + 1, .tup xs, .tup ys => decide (xs.length = ys.length) && (decide (xs.length ≤ sizeMax) && (xs.zip ys).all fun q => eqD k q.1 q.2)
  | k + 1, .dK xs, .dK ys => eqD k (.lst 0 (itemsD xs)) (.lst 0 (itemsD ys))
  | _ + 1, a, b => eqA a b
def F_same (k : Nat) : Fn := { name := "_law_same", ps := ["_law_found", "_law_due"], sp := fun ds n Q _ => ∃ a b : D, ds = [a, b] ∧ eqD k a b = true ∧ Q (.bl true) n }
theorem len_tup {xs : List D} {Q : D → Prop} : biW .len [.tup xs] Q ↔ Q (.int xs.length) := Iff.rfl
theorem eq_int {a b : Int} {Q : Bool → Prop} : cmpW .eq (.int a) (.int b) Q ↔ Q (decide (a = b)) := by
  show (_ ∧ _ ∧ Q (deq (.int a) (.int b))) ↔ _
  rw [deq_int]
  exact ⟨fun h => h.2.2, fun h => ⟨rfl, rfl, h⟩⟩
theorem deq_bl {a b : Bool} : deq (.bl a) (.bl b) = (a == b) := by
  cases a <;> cases b <;> rfl
theorem ne_bl {a b : Bool} {Q : Bool → Prop} : cmpW .ne (.bl a) (.bl b) Q ↔ Q (!(a == b)) := by
  show (_ ∧ _ ∧ Q (!deq (.bl a) (.bl b))) ↔ _
  rw [deq_bl]
  exact ⟨fun h => h.2.2, fun h => ⟨rfl, rfl, h⟩⟩
theorem eq_bl {a b : Bool} {Q : Bool → Prop} : cmpW .eq (.bl a) (.bl b) Q ↔ Q (a == b) := by
  show (_ ∧ _ ∧ Q (deq (.bl a) (.bl b))) ↔ _
  rw [deq_bl]
  exact ⟨fun h => h.2.2, fun h => ⟨rfl, rfl, h⟩⟩
theorem eq_non {Q : Bool → Prop} : cmpW .eq .non .non Q ↔ Q true := by
  show (_ ∧ _ ∧ Q (deq .non .non)) ↔ _
  exact ⟨fun h => h.2.2, fun h => ⟨rfl, rfl, h⟩⟩
theorem eq_str {a b : Str} {Q : Bool → Prop} : cmpW .eq (.str a) (.str b) Q ↔ Q (decide (a = b)) := Iff.rfl
theorem zip_ll {k j : Nat} {xs ys : List D} {Q : List D → Prop} : zipW (.lst k xs) (.lst j ys) Q ↔ Q (zipD xs ys) := Iff.rfl
theorem zip_tt {xs ys : List D} {Q : List D → Prop} : zipW (.tup xs) (.tup ys) Q ↔ Q (zipD xs ys) := Iff.rfl
theorem all_l {k : Nat} {ys : List D} {bs : List Bool} {Q : D → Prop} (h : blsOf ys = some bs) : biW .all [.lst k ys] Q ↔ Q (.bl (bs.all id)) := by
  show (∃ bs, _ ∧ _) ↔ _
  exact ⟨fun ⟨bs', e, q⟩ => by rw [h] at e; cases e; exact q, fun q => ⟨bs, h, q⟩⟩
theorem comp_same {k g : Nat} {A0 A1 : D} {n : Nat} {xs ys : List D} {Q : D → Nat → Prop} {E : Exc → Nat → Prop} (h : Phy[g]? = some (F_same k)) (hl : xs.length = ys.length) (hz : xs.length ≤ sizeMax) (ha : ∀ q ∈ xs.zip ys, eqD k q.1 q.2 = true) (q : Q (.bl true) n) :
    compL (fun x n k => wTg (.tp (.cons (.nm 2) (.cons (.nm 3) .nil))) x ([.val A0, .val A1, .un, .un] : Sl) fun ρ => lookV ρ 2 fun a => lookV ρ 3 fun b => callW Phy g [a, b] n (fun d n => k (some d) n) E) (zipD xs ys) [] n fun ds n => biW .all [.lst 0 ds] fun d => Q d n := by
  refine compL_map (f := fun _ => .bl true) (fun x hx k' hk => ?_) (by rw [zipD_len]; omega) ?_
  · obtain ⟨p, hp, rfl⟩ := List.mem_map.mp hx
    show callW Phy g [p.1, p.2] n _ _
    rw [call_is h]
    exact ⟨rfl, _, _, rfl, ha p hp, hk⟩
  · rw [all_l (bs := (zipD xs ys).map fun _ => true) (blsOf_map (f := fun _ => true))]
    have : ((zipD xs ys).map fun _ => true).all id = true := by
      rw [List.all_map]
      exact List.all_eq_true.mpr fun _ _ => rfl
    rw [this]
    exact q
/-- equal atoms, or alike -/
inductive Alike (k : Nat) : D → D → Prop
  | non : Alike k .non .non
  | bl (b : Bool) : Alike k (.bl b) (.bl b)
  | int (i : Int) : Alike k (.int i) (.int i)
  | str (s : Str) : Alike k (.str s) (.str s)
  | lst {i j : Nat} {xs ys : List D} : 0 < k → xs.length = ys.length → xs.length ≤ sizeMax → (∀ q ∈ xs.zip ys, eqD (k - 1) q.1 q.2 = true) → Alike k (.lst i xs) (.lst j ys)
  | tup {xs ys : List D} : 0 < k → xs.length = ys.length → xs.length ≤ sizeMax → (∀ q ∈ xs.zip ys, eqD (k - 1) q.1 q.2 = true) → Alike k (.tup xs) (.tup ys)
  | dK {xs ys : List (L2.Key × D)} : 0 < k → eqD (k - 1) (.lst 0 (itemsD xs)) (.lst 0 (itemsD ys)) = true → Alike k (.dK xs) (.dK ys)
theorem eqA_alike {k : Nat} {a b : D} (h : eqA a b = true) : Alike k a b := by
  unfold eqA at h
  split at h
  · exact .non
  · rw [beq_iff_eq] at h; subst h; exact .bl _
  · rw [decide_eq_true_eq] at h; subst h; exact .int _
  · rw [decide_eq_true_eq] at h; subst h; exact .str _
  · cases h
theorem eqD_alike {k : Nat} {a b : D} (h : eqD k a b = true) : Alike k a b := by
  unfold eqD at h
  split at h
  · exact eqA_alike h
  · simp only [Bool.and_eq_true, decide_eq_true_eq, List.all_eq_true] at h
    exact .lst (by omega) h.1 h.2.1 h.2.2
  · simp only [Bool.and_eq_true, decide_eq_true_eq, List.all_eq_true] at h
    exact .tup (by omega) h.1 h.2.1 h.2.2
  · exact .dK (by omega) h
  · exact eqA_alike h
theorem does_same0 : Does Phy N_law_same0 (F_same 0) s_law_same0 := by
  rintro ds n Qd Ed hl ⟨a, b, rfl, g, h⟩
  clear hl
  cases eqD_alike g with
  | non => exact ⟨rfl, rfl, h⟩
  | bl b =>
    refine ⟨rfl, rfl, ?_⟩
    rw [deq_bl, beq_self_eq_true]
    exact h
  | int i =>
    refine ⟨rfl, rfl, ?_⟩
    rw [deq_int, decide_eq_true rfl]
    exact h
  | str s =>
    show Qd (.bl (decide (s = s))) n
    rw [decide_eq_true rfl]
    exact h
  | lst z => cases z
  | tup z => cases z
  | dK z => cases z
theorem does_same1 (h1 : Phy[f_law_same0]? = some (F_same 0)) (h2 : Phy[P + 0]? = some pItems.fn) : Does Phy N_law_same1 (F_same 1) s_law_same1 := by
  rintro ds n Qd Ed hl ⟨a, b, rfl, g, h⟩
  clear hl
  cases eqD_alike g with
  | non => exact ⟨rfl, rfl, h⟩
  | bl b =>
    refine ⟨rfl, rfl, ?_⟩
    rw [deq_bl, beq_self_eq_true]
    exact h
  | int i =>
    refine ⟨rfl, rfl, ?_⟩
    rw [deq_int, decide_eq_true rfl]
    exact h
  | str s =>
    show Qd (.bl (decide (s = s))) n
    rw [decide_eq_true rfl]
    exact h
  | lst z e1 e2 e3 =>
    refine ⟨rfl, rfl, rfl, rfl, rfl, rfl, ?_⟩
    rw [deq_int, decide_eq_true (by rw [e1])]
    exact comp_same h1 e1 e2 e3 h
  | tup z e1 e2 e3 =>
    refine ⟨rfl, rfl, rfl, rfl, rfl, rfl, ?_⟩
    rw [deq_int, decide_eq_true (by rw [e1])]
    exact comp_same h1 e1 e2 e3 h
  | dK z e1 => exact (call_is (g := P + 0) h2).mpr ⟨rfl, (call_is (g := P + 0) h2).mpr ⟨rfl, (call_is h1).mpr ⟨rfl, _, _, rfl, e1, h⟩⟩⟩
theorem does_same2 (h1 : Phy[f_law_same1]? = some (F_same 1)) (h2 : Phy[P + 0]? = some pItems.fn) : Does Phy N_law_same2 (F_same 2) s_law_same2 := by
  rintro ds n Qd Ed hl ⟨a, b, rfl, g, h⟩
  clear hl
  cases eqD_alike g with
  | non => exact ⟨rfl, rfl, h⟩
  | bl b =>
    refine ⟨rfl, rfl, ?_⟩
    rw [deq_bl, beq_self_eq_true]
    exact h
  | int i =>
    refine ⟨rfl, rfl, ?_⟩
    rw [deq_int, decide_eq_true rfl]
    exact h
  | str s =>
    show Qd (.bl (decide (s = s))) n
    rw [decide_eq_true rfl]
    exact h
  | lst z e1 e2 e3 =>
    refine ⟨rfl, rfl, rfl, rfl, rfl, rfl, ?_⟩
    rw [deq_int, decide_eq_true (by rw [e1])]
    exact comp_same h1 e1 e2 e3 h
  | tup z e1 e2 e3 =>
    refine ⟨rfl, rfl, rfl, rfl, rfl, rfl, ?_⟩
    rw [deq_int, decide_eq_true (by rw [e1])]
    exact comp_same h1 e1 e2 e3 h
  | dK z e1 => exact (call_is (g := P + 0) h2).mpr ⟨rfl, (call_is (g := P + 0) h2).mpr ⟨rfl, (call_is h1).mpr ⟨rfl, _, _, rfl, e1, h⟩⟩⟩
theorem does_same3 (h1 : Phy[f_law_same2]? = some (F_same 2)) (h2 : Phy[P + 0]? = some pItems.fn) : Does Phy N_law_same3 (F_same 3) s_law_same3 := by
  rintro ds n Qd Ed hl ⟨a, b, rfl, g, h⟩
  clear hl
  cases eqD_alike g with
  | non => exact ⟨rfl, rfl, h⟩
  | bl b =>
    refine ⟨rfl, rfl, ?_⟩
    rw [deq_bl, beq_self_eq_true]
    exact h
  | int i =>
    refine ⟨rfl, rfl, ?_⟩
    rw [deq_int, decide_eq_true rfl]
    exact h
  | str s =>
    show Qd (.bl (decide (s = s))) n
    rw [decide_eq_true rfl]
    exact h
  | lst z e1 e2 e3 =>
    refine ⟨rfl, rfl, rfl, rfl, rfl, rfl, ?_⟩
    rw [deq_int, decide_eq_true (by rw [e1])]
    exact comp_same h1 e1 e2 e3 h
  | tup z e1 e2 e3 =>
    refine ⟨rfl, rfl, rfl, rfl, rfl, rfl, ?_⟩
    rw [deq_int, decide_eq_true (by rw [e1])]
    exact comp_same h1 e1 e2 e3 h
  | dK z e1 => exact (call_is (g := P + 0) h2).mpr ⟨rfl, (call_is (g := P + 0) h2).mpr ⟨rfl, (call_is h1).mpr ⟨rfl, _, _, rfl, e1, h⟩⟩⟩
theorem does_same4 (h1 : Phy[f_law_same3]? = some (F_same 3)) (h2 : Phy[P + 0]? = some pItems.fn) : Does Phy N_law_same4 (F_same 4) s_law_same4 := by
  rintro ds n Qd Ed hl ⟨a, b, rfl, g, h⟩
  clear hl
  cases eqD_alike g with
  | non => exact ⟨rfl, rfl, h⟩
  | bl b =>
    refine ⟨rfl, rfl, ?_⟩
    rw [deq_bl, beq_self_eq_true]
    exact h
  | int i =>
    refine ⟨rfl, rfl, ?_⟩
    rw [deq_int, decide_eq_true rfl]
    exact h
  | str s =>
    show Qd (.bl (decide (s = s))) n
    rw [decide_eq_true rfl]
    exact h
  | lst z e1 e2 e3 =>
    refine ⟨rfl, rfl, rfl, rfl, rfl, rfl, ?_⟩
    rw [deq_int, decide_eq_true (by rw [e1])]
    exact comp_same h1 e1 e2 e3 h
  | tup z e1 e2 e3 =>
    refine ⟨rfl, rfl, rfl, rfl, rfl, rfl, ?_⟩
    rw [deq_int, decide_eq_true (by rw [e1])]
    exact comp_same h1 e1 e2 e3 h
  | dK z e1 => exact (call_is (g := P + 0) h2).mpr ⟨rfl, (call_is (g := P + 0) h2).mpr ⟨rfl, (call_is h1).mpr ⟨rfl, _, _, rfl, e1, h⟩⟩⟩
end LW
/-! _law_draw, by hand. -/
namespace LW
open PySem PySem.Spec L2 Q
def N_draw : List Str := ["_law_stream_here", "_law_many", "_law_cell", "_law_digit", "_law_mixed"]
abbrev sc_draw : Scope := defScope (top 28)
section
variable {c : Cx} {M : Pm} {Wx : WX}
/-- stm[j] -/
def tS (K : PySem.W.Frag) (j : Int) : TE := tOp (rIxL K) (tVar 0) (tC (.int j))
def tSet (j : Int) (te : TE) : TS := tAsg te (gSub (tVar 0) (tC (.int j)) rSetL)
def t_turn (K : PySem.W.Frag) : TS :=
  (tSeq (tAsg (tCB (fun xs H Q => ∃ i, xs = [.int i] ∧ Q (.int (if i < 0 then -i else i)) H) (tCons (tBM K "list" rPopAt (tS K 0) (tCons (tC (.int 0)) tNil)) tNil)) (gName 2))
    (tSeq (tSet 3 (tOp (rI (fun _ j => 0 < j) fun i j => .int (i % j)) (tCB (fun xs H Q => (∃ i, xs = [.int i] ∧ Q (.int i) H) ∨ ∃ k, xs = [.bl k] ∧ Q (.int (if k then 1 else 0)) H) (tCons (tOp (rI0 fun i j => .int (i + j)) (tOp (rI0 fun i j => .int (i + j)) (tOp (rI mulOk fun i j => .int (i * j)) (tS K 3) (tC (.int 8191))) (tVar 2)) (tC (.int 3))) tNil)) (tC (.int 2147483647))))
      (tSet 1 (tIf (tTest (tOp (rI0 fun i j => .bl (decide (j ≤ i))) (tVar 2) (tOp (rI CPow fun i j => .int (i ^ j.toNat)) (tC (.int 10)) (tC (.int 18))))) (tVar 2) (tC (.int 0))))))
def t_end (K : PySem.W.Frag) : TS :=
  (tSeq (tIfS (tTest (tOp (rI0 fun i j => .bl (decide (j < i))) (tS K 1) (tC (.int 0))))
      (tSeq (tAsg (tOp (rI (fun _ j => 0 < j) fun i j => .int (i % j)) (tCB (fun xs H Q => (∃ i, xs = [.int i] ∧ Q (.int i) H) ∨ ∃ k, xs = [.bl k] ∧ Q (.int (if k then 1 else 0)) H) (tCons (tS K 1) tNil)) (tVar 1)) (gName 3))
      (tSeq (tSet 1 (tOp (rI (fun _ j => fdivOk j) fun i j => .int (i / j)) (tS K 1) (tVar 1))) (tRet (tVar 3)))) tNext)
  (tSeq (tAsg (tOp (rI (fun _ j => 0 < j) fun i j => .int (i % j)) (tCB (fun xs H Q => (∃ i, xs = [.int i] ∧ Q (.int i) H) ∨ ∃ k, xs = [.bl k] ∧ Q (.int (if k then 1 else 0)) H) (tCons (tOp (rI CPow fun i j => .int (i ^ j.toNat)) (tOp (rI0 fun i j => .int (i + j)) (tOp (rI0 fun i j => .int (i + j)) (tS K 3) (tOp (rI mulOk fun i j => .int (i * j)) (tC (.int 7919)) (tS K 2))) (tC (.int 104729))) (tC (.int 5))) tNil)) (tC (.int 2147483629))) (gName 4))
    (tRet (tOp (rI (fun _ j => 0 < j) fun i j => .int (i % j)) (tOp (rI (fun _ j => 0 < j) fun i j => .int (i % j)) (tCB (fun xs H Q => (∃ i, xs = [.int i] ∧ Q (.int i) H) ∨ ∃ k, xs = [.bl k] ∧ Q (.int (if k then 1 else 0)) H) (tCons (tOp (rI CPow fun i j => .int (i ^ j.toNat)) (tOp (rI0 fun i j => .int (i + j)) (tOp (rI0 fun i j => .int (i + j)) (tOp (rI mulOk fun i j => .int (i * j)) (tVar 4) (tC (.int 48271))) (tOp (rI mulOk fun i j => .int (i * j)) (tC (.int 30011)) (tS K 2))) (tC (.int 29))) (tC (.int 3))) tNil)) (tC (.int 1000000007))) (tVar 1)))))
def t_draw (K : PySem.W.Frag) : TS :=
  tSeq (tSet 2 (tOp (rI0 fun i j => .int (i + j)) (tS K 2) (tC (.int 1))))
  (tSeq (tWhile (tAnd (tTest (tOp rEq (tS K 1) (tC (.int 0)))) (tTest (tOp (rNeD K) (tS K 0) (tLst tNil)))) (t_turn K)) (t_end K))
theorem draw_ps (g : GoodS c M Wx) (n : c.N = N_draw) (hs : c.env.scope = sc_draw) (ha : c.mg "abs" = none) (hi : c.mg "int" = none) : PSs c (defBody (top 28)) (t_draw c.K) := by
  have u : c.A.units + 65 < cLine := g.toGood.u65
  have sto : StoB c sc_draw := by rw [← hs]; exact g.sto
  have v0 : ∀ {p : Pos}, PE c (.Name "_law_stream_here" p) (tVar 0) := fun {p} => nm_pe n (by rw [hs]; decide +kernel)
  have v1 : ∀ {p : Pos}, PE c (.Name "_law_many" p) (tVar 1) := fun {p} => nm_pe n (by rw [hs]; decide +kernel)
  have v2 : ∀ {p : Pos}, PE c (.Name "_law_cell" p) (tVar 2) := fun {p} => nm_pe n (by rw [hs]; decide +kernel)
  have v3 : ∀ {p : Pos}, PE c (.Name "_law_digit" p) (tVar 3) := fun {p} => nm_pe n (by rw [hs]; decide +kernel)
  have v4 : ∀ {p : Pos}, PE c (.Name "_law_mixed" p) (tVar 4) := fun {p} => nm_pe n (by rw [hs]; decide +kernel)
  have g2 : ∀ {p : Pos}, PG c (.Name "_law_cell" p) (gName 2) := fun {p} => pg_name g.nd (by rw [n]; rfl) (sto "_law_cell" (.inl (by decide +kernel))).1 (sto "_law_cell" (.inl (by decide +kernel))).2
  have g3 : ∀ {p : Pos}, PG c (.Name "_law_digit" p) (gName 3) := fun {p} => pg_name g.nd (by rw [n]; rfl) (sto "_law_digit" (.inl (by decide +kernel))).1 (sto "_law_digit" (.inl (by decide +kernel))).2
  have g4 : ∀ {p : Pos}, PG c (.Name "_law_mixed" p) (gName 4) := fun {p} => pg_name g.nd (by rw [n]; rfl) (sto "_law_mixed" (.inl (by decide +kernel))).1 (sto "_law_mixed" (.inl (by decide +kernel))).2
  have la : Gl c "abs" := (gl_ok (by rw [hs]; decide +kernel)).1
  have li : Gl c "int" := (gl_ok (by rw [hs]; decide +kernel)).1
  have ix : ∀ {p p' q : Pos} {j : Int} {kk : Nat}, PE c (.Subscript (.Name "_law_stream_here" p) (.Constant (.int j) kk p') q) (tS c.K j) := fun {p p' q j kk} => pe_ix ix_list v0 pe_int (fun _ _ => rfl)
  have st : ∀ {p p' q : Pos} {j : Int} {kk : Nat} {e : Expr} {te : TE} {ps : Pos}, PE c e te → noComp e = true → isTup e = false → PS c (.Assign [.Subscript (.Name "_law_stream_here" p) (.Constant (.int j) kk p') q] e ps) (tSet j te) := fun {p p' q j kk e te ps} he h1 h2 =>
    ps_asg he (pg_sub v0 pe_int set_list (sub_ok rfl _)) (noComp_sole h1 _ _) (not_tup h2 _ _)
  have int1 : ∀ {e : Expr} {te : TE} {p q : Pos}, PE c e te → nst e = true → PE c (.Call (.Name "int" p) [e] [] q) (tCB (fun xs H Q => (∃ i, xs = [.int i] ∧ Q (.int i) H) ∨ ∃ k, xs = [.bl k] ∧ Q (.int (if k then 1 else 0)) H) (tCons te tNil)) := fun {e te p q} he h =>
    pe_callTy call_int1 li hi (by decide +kernel) (pa_cons he pa_nil (star_ok h _ _)) (by decide) (by decide) (star_ok h _ _) (by rfl)
  refine pss_cons (st (pe_op op_add ix pe_int) rfl rfl) (pss_cons (ps_while g.pw (pw_and (pt_cmpR op_eq ix pe_int rfl) (pw_and1 (pt_cmpR (op_neD (by omega)) ix (pe_lst pa_nil) rfl))).pt ?_) (pss_cons (ps_if (pt_cmpR op_gt ix pe_int rfl) ?_ pss_nil) (pss_cons ?_ (pss_one ?_))))
  · refine pss_cons (ps_asg (pe_callB call_abs la ha (by decide +kernel) (pa_cons (pe_bm PySem.F.plainAttrs_list PySem.F.slot_list_pop PySem.F.type_list_pop mt_popAt ix (pa_cons pe_int pa_nil)) pa_nil)) g2) ?_
    refine pss_cons (st (pe_op op_mod (int1 (pe_op op_add (pe_op op_add (pe_op op_mulB ix pe_int) v2) pe_int) rfl) pe_int) rfl rfl) (pss_one ?_)
    exact st (pe_ifExp (pt_cmpR op_ge v2 (pe_op op_pow pe_int pe_int) rfl) v2 pe_int) rfl rfl
  · refine pss_cons (ps_asg (pe_op op_mod (int1 ix rfl) v1) g3) (pss_cons (st (pe_op op_fdivB ix v1) rfl rfl) (pss_one (ps_ret v3)))
  · exact ps_asg (pe_op op_mod (int1 (pe_op op_pow (pe_op op_add (pe_op op_add ix (pe_op op_mulB pe_int ix)) pe_int) pe_int) rfl) pe_int) g4
  · exact ps_ret (pe_op op_mod (pe_op op_mod (int1 (pe_op op_pow (pe_op op_add (pe_op op_add (pe_op op_mulB v4 pe_int) (pe_op op_mulB pe_int ix)) pe_int) pe_int) rfl) pe_int) v1)
end
end LW
/-! _law_draw keeps its promise over data. -/
namespace LW
open PySem PySem.Spec L2 Q
/-- the stream within a draw: what it holds, all else as it was -/
structure SI (G : Gb) (W : Hp) (xs : List Int) (c h : Int) (m : Nat) (H : Hp) : Prop where
  ne : G.st ≠ G.inn
  st : H G.st = some (.lst [.ref G.inn, .int c, .int m, .int h])
  inn : H G.inn = some (.lst (xs.map V.int))
  old : ∃ vs ws, W G.st = some (.lst vs) ∧ W G.inn = some (.lst ws)
  oth : ∀ a o, W a = some o → a ≠ G.st → a ≠ G.inn → H a = some o
variable {G : Gb} {W H : Hp} {xs : List Int} {c h : Int} {m : Nat} {K : PySem.W.Frag}
theorem SI.lay {p : Addr} {o : HO} (i : SI G W xs c h m H) (e : H p = none) : SI G W xs c h m (upd H p o) :=
  ⟨i.ne, by rw [upd_ne (ne_of_none i.st e)]; exact i.st, by rw [upd_ne (ne_of_none i.inn e)]; exact i.inn, i.old, fun a u e1 n1 n2 => by
    have z := i.oth a u e1 n1 n2
    rw [upd_ne (ne_of_none z e)]; exact z⟩
theorem SI.set {c' h' : Int} {m' : Nat} (i : SI G W xs c h m H) : SI G W xs c' h' m' (upd H G.st (.lst [.ref G.inn, .int c', .int m', .int h'])) :=
  ⟨i.ne, upd_same, by rw [upd_ne i.ne.symm]; exact i.inn, i.old, fun a u e1 n1 n2 => by rw [upd_ne n1]; exact i.oth a u e1 n1 n2⟩
theorem SI.pop {ys : List Int} (i : SI G W xs c h m H) : SI G W ys c h m (upd H G.inn (.lst (ys.map V.int))) :=
  ⟨i.ne, by rw [upd_ne i.ne]; exact i.st, upd_same, i.old, fun a u e1 n1 n2 => by rw [upd_ne n2]; exact i.oth a u e1 n1 n2⟩
theorem SI.ste {A : Addr → Prop} {W : Wd} {n' : Nat} (i : SI G W.H xs c h m H) (t : LamX.Tabs G.T W.H) (hm : m ≤ n') (h0 : 0 ≤ c) (h1 : 0 ≤ h) (h2 : h < 2147483647) (hx : xs.length ≤ sizeMax) : Ste G A W ⟨W.iot, H⟩ n' := by
  obtain ⟨vs, ws, o1, o2⟩ := i.old
  refine ⟨rfl, ⟨fun a o e nt => ?_, fun a o e n1 n2 nt => ?_⟩, ⟨xs, c, h, m, hm, h0, h1, h2, hx, i.st, i.inn, i.ne⟩, fun p hp => ?_⟩
  · by_cases z1 : a = G.st
    · subst z1; exact ⟨_, i.st, fun _ z => nomatch z⟩
    by_cases z2 : a = G.inn
    · subst z2; exact ⟨_, i.inn, fun _ z => nomatch z⟩
    exact ⟨o, i.oth a o e z1 z2, nt⟩
  · have z := i.oth a o e n1 n2
    exact ⟨fun _ => z, by show Kp o (H a); rw [z]; exact Kp.refl o⟩
  · obtain ⟨ps, h1, h2, h3⟩ := t p hp
    refine ⟨ps, i.oth _ _ h1 (ne_of h1 o1 (fun z => nomatch z)) (ne_of h1 o2 (fun z => nomatch z)), h2, fun pos cv hc => ?_⟩
    obtain ⟨c, e1, e2⟩ := h3 pos cv hc
    exact ⟨c, e1, i.oth _ _ e2 (ne_of e2 o1 (fun z => by unfold LamX.CodeO at z; cases z)) (ne_of e2 o2 (fun z => by unfold LamX.CodeO at z; cases z))⟩
section
variable {σ : L2.St} {Q : VK}
/-- te is v, and nothing changes -/
def Ev (te : TE) (σ : L2.St) (H : Hp) (v : V) : Prop := ∀ Q : VK, Q v H → te σ H Q
theorem ev_S {j : Int} {v : V} (i : SI G W xs c h m H) (e0 : σ[0]? = some (some (.ref G.st))) (hj : atI [V.ref G.inn, .int c, .int m, .int h] j = some v) : Ev (tS K j) σ H v :=
  fun Q q => ⟨_, e0, _, _, _, _, rfl, rfl, SqL.of i.st, hj, q⟩
theorem ev_V {j : Nat} {v : V} (e : σ[j]? = some (some v)) : Ev (tVar j) σ H v := fun Q q => ⟨_, e, q⟩
theorem ev_C {v : V} : Ev (tC v) σ H v := fun Q q => q
theorem ev_0 {g : Int → Int → V} {ta tb : TE} {a b : Int} (ha : Ev ta σ H (.int a)) (hb : Ev tb σ H (.int b)) : Ev (tOp (rI0 g) ta tb) σ H (g a b) :=
  fun Q q => ha _ (hb _ ⟨a, b, rfl, rfl, q⟩)
theorem ev_I {C : Int → Int → Prop} {g : Int → Int → V} {ta tb : TE} {a b : Int} (ha : Ev ta σ H (.int a)) (hb : Ev tb σ H (.int b)) (hc : C a b) : Ev (tOp (rI C g) ta tb) σ H (g a b) :=
  fun Q q => ha _ (hb _ ⟨a, b, rfl, rfl, hc, q⟩)
theorem ev_int {te : TE} {a : Int} (ha : Ev te σ H (.int a)) : Ev (tCB (fun xs H Q => (∃ i, xs = [.int i] ∧ Q (.int i) H) ∨ ∃ k, xs = [.bl k] ∧ Q (.int (if k then 1 else 0)) H) (tCons te tNil)) σ H (.int a) :=
  fun Q q => ha _ (.inl ⟨a, rfl, q⟩)
theorem ev_eq {ta tb : TE} {a b : Int} (ha : Ev ta σ H (.int a)) (hb : Ev tb σ H (.int b)) : Ev (tOp rEq ta tb) σ H (.bl (decide (a = b))) :=
  fun Q q => ha _ (hb _ ⟨rfl, by
    have : decide (V.int a = V.int b) = decide (a = b) := by
      by_cases z : a = b
      · rw [z]; simp
      · rw [decide_eq_false z, decide_eq_false (fun y => z (V.int.inj y))]
    rw [this]; exact q⟩)
theorem ev_if {t : TE} {ta tb : TE} {k : Bool} {v : V} (ht : Ev t σ H (.bl k)) (ha : k = true → Ev ta σ H v) (hb : k = false → Ev tb σ H v) : Ev (tIf (tTest t) ta tb) σ H v :=
  fun Q q => ht _ ⟨k, rfl, by
    cases k with
    | true => exact ha rfl _ q
    | false => exact hb rfl _ q⟩
theorem set_ok {j : Int} {k : Nat} {te : TE} {v : V} {D : Ends} (i : SI G W xs c h m H) (e0 : σ[0]? = some (some (.ref G.st))) (ht : Ev te σ H v) (hj : ixN 4 j = some k) (q : D.nx σ (upd H G.st (.lst ([V.ref G.inn, .int c, .int m, .int h].set k v)))) : tSet j te D σ H :=
  ht _ ⟨_, e0, _, _, _, _, rfl, rfl, i.st, hj, q⟩
theorem asg_ok {j : Nat} {te : TE} {v : V} {D : Ends} (ht : Ev te σ H v) (q : D.nx (σ.set j (some v)) H) : tAsg te (gName j) D σ H := ht _ q
theorem set_seq {j : Int} {k : Nat} {te : TE} {v : V} {D : Ends} {u : TS} (i : SI G W xs c h m H) (e0 : σ[0]? = some (some (.ref G.st))) (ht : Ev te σ H v) (hj : ixN 4 j = some k) (q : u D σ (upd H G.st (.lst ([V.ref G.inn, .int c, .int m, .int h].set k v)))) : tSeq (tSet j te) u D σ H :=
  ht _ ⟨_, e0, _, _, _, _, rfl, rfl, i.st, hj, q⟩
theorem asg_seq {j : Nat} {te : TE} {v : V} {D : Ends} {u : TS} (ht : Ev te σ H v) (q : u D (σ.set j (some v)) H) : tSeq (tAsg te (gName j)) u D σ H := ht _ q
theorem ret_ok {te : TE} {v : V} {D : Ends} (ht : Ev te σ H v) (q : D.rt v H) : tRet te D σ H := ht _ q
theorem dp_ints {H : Hp} : ∀ xs : List Int, DpAll K H (xs.map V.int) (xs.map PyData.int)
  | [] => .nil
  | x :: xs => .cons (.int x) (dp_ints xs)
theorem shaped_ints (xs : List Int) : SeqAt.shaped (.list (xs.map PyData.int)) = true := by
  have h1 : PyData.canLayAll0 (xs.map PyData.int) = true := canLayAll0_all fun d hd => by
    obtain ⟨x, _, rfl⟩ := List.mem_map.mp hd
    simp [PyData.canLay0]
  have h2 : PyData.depthAll (xs.map PyData.int) ≤ 1 := depthAll_le fun d hd => by
    obtain ⟨x, _, rfl⟩ := List.mem_map.mp hd
    simp [PyData.depth]
  have h3 : PyData.canLay0 (.list (xs.map PyData.int)) = true := by simp only [PyData.canLay0, h1]
  have h4 : (PyData.list (xs.map PyData.int)).depth ≤ 64 := by
    have : (PyData.list (xs.map PyData.int)).depth ≤ 2 := by simp only [PyData.depth]; omega
    omega
  unfold SeqAt.shaped
  rw [h3, decide_eq_true h4]
  rfl
theorem eqv_ints : ∀ xs : List Int, PyData.eqv (.list (xs.map PyData.int)) (.list []) = decide (xs = [])
  | [] => by simp [PyData.eqv, PyData.eqvAll]
  | x :: xs => by simp [PyData.eqv, PyData.eqvAll]
/-- the slots in a draw -/
def σD (G : Gb) (many : Int) (a b d : Option V) : L2.St := [some (.ref G.st), some (.int many), a, b, d]
/-- the draw's end -/
def DW (G : Gb) (W : Hp) (many : Int) (m : Nat) (μ : Nat) (σ : L2.St) (H : Hp) : Prop := ∃ xs c h a, xs.length = μ ∧ σ = σD G many a none none ∧ SI G W xs c h m H ∧ 0 ≤ c ∧ 0 ≤ h ∧ h < 2147483647 ∧ xs.length ≤ sizeMax
theorem end_run {D : Ends} {many : Int} {a : Option V} (i : SI G W xs c h (m + 1) H) (hm : 0 < many) (hm2 : many < 1073741824) (hn : m < NB) (h0 : 0 ≤ c) (h1 : 0 ≤ h) (h2 : h < 2147483647) (hx : xs.length ≤ sizeMax)
    (k : ∀ r xs' c' h' H', SI G W xs' c' h' (m + 1) H' → 0 ≤ c' → 0 ≤ h' → h' < 2147483647 → xs'.length ≤ sizeMax → 0 ≤ r → r < many → D.rt (.int r) H') : t_end K D (σD G many a none none) H := by
  have hNB : m < 1000000 := hn
  refine ev_0 (ev_S i rfl rfl) ev_C _ ⟨_, rfl, ?_⟩
  dsimp only
  by_cases z : 0 < c
  · rw [if_pos (decide_eq_true z)]
    refine asg_seq (ev_I (ev_int (ev_S i rfl rfl)) (ev_V rfl) hm) ?_
    refine set_seq i rfl (ev_I (ev_S i rfl rfl) (ev_V rfl) ⟨hm, .inl hm2⟩) (k := 1) rfl ?_
    exact ret_ok (ev_V rfl) (k _ _ _ _ _ i.set (Int.ediv_nonneg h0 (by omega)) h1 h2 hx (Int.emod_nonneg _ (by omega)) (Int.emod_lt_of_pos _ hm))
  · rw [if_neg (by rw [decide_eq_false z]; decide)]
    unfold tNext
    dsimp only
    have hp : ∀ x : Int, 0 ≤ x → x < 100000000000000000 → x.natAbs < 2 ^ 64 := fun x e1 e2 => by
      have : (2 : Nat) ^ 64 = 18446744073709551616 := by decide
      omega
    have e1 : 0 ≤ (h + 7919 * ((m + 1 : Nat) : Int) + 104729) ∧ (h + 7919 * ((m + 1 : Nat) : Int) + 104729) < 100000000000000000 := by omega
    refine asg_seq (ev_I (ev_int (ev_I (C := CPow) (ev_0 (ev_0 (ev_S i rfl rfl) (ev_I (C := mulOk) ev_C (ev_S i rfl rfl) (.inl (.inl ⟨by decide, by decide⟩)))) ev_C) ev_C ⟨by decide, by decide, hp _ e1.1 e1.2⟩)) ev_C (by decide)) ?_
    generalize hM : (h + 7919 * ((m + 1 : Nat) : Int) + 104729) ^ (5 : Int).toNat % 2147483629 = M
    have m1 : 0 ≤ M := by rw [← hM]; exact Int.emod_nonneg _ (by decide)
    have m2 : M < 2147483629 := by rw [← hM]; exact Int.emod_lt_of_pos _ (by decide)
    clear hM
    have e2 : 0 ≤ (M * 48271 + 30011 * ((m + 1 : Nat) : Int) + 29) ∧ (M * 48271 + 30011 * ((m + 1 : Nat) : Int) + 29) < 100000000000000000 := by omega
    refine ret_ok (ev_I (ev_I (ev_int (ev_I (C := CPow) (ev_0 (ev_0 (ev_I (C := mulOk) (ev_V rfl) ev_C (.inl (.inr ⟨by decide, by decide⟩))) (ev_I (C := mulOk) ev_C (ev_S i rfl rfl) (.inl (.inl ⟨by decide, by decide⟩)))) ev_C) ev_C ⟨by decide, by decide, hp _ e2.1 e2.2⟩)) ev_C (by decide)) (ev_V rfl) hm) ?_
    exact k _ _ _ _ _ i h0 h1 h2 hx (Int.emod_nonneg _ (by omega)) (Int.emod_lt_of_pos _ hm)
theorem draw_run {D : Ends} {many : Int} (i : SI G W xs c h m H) (hm : 0 < many) (hm2 : many < 1073741824) (hn : m < NB) (h0 : 0 ≤ c) (h1 : 0 ≤ h) (h2 : h < 2147483647) (hx : xs.length ≤ sizeMax)
    (k : ∀ r xs' c' h' H', SI G W xs' c' h' (m + 1) H' → 0 ≤ c' → 0 ≤ h' → h' < 2147483647 → xs'.length ≤ sizeMax → 0 ≤ r → r < many → D.rt (.int r) H') : t_draw K D (σD G many none none none) H := by
  have hNB : NB = 1000000 := rfl
  refine set_seq i rfl (ev_0 (ev_S i rfl rfl) ev_C) (k := 2) rfl ?_
  have i2 : SI G W xs c h (m + 1) (upd H G.st (.lst [.ref G.inn, .int c, .int (m + 1 : Int), .int h])) := i.set
  refine ⟨DW G W many (m + 1), ⟨xs.length, xs, c, h, none, rfl, rfl, i2, h0, h1, h2, hx⟩, ?_⟩
  clear i2 i
  rintro μ σ H ⟨xs, c, h, a, hμ, rfl, i, h0, h1, h2, hx⟩
  refine ev_eq (ev_S i rfl rfl) ev_C _ ⟨_, rfl, ?_⟩
  dsimp only
  by_cases z : c = 0
  · rw [if_pos (decide_eq_true z)]
    refine ev_S i rfl rfl _ ⟨Nat.zero_le _, fun p hp => ⟨_, _, .lst (SqL.of (i.lay hp).inn) (dp_ints xs), .lst (SqL.of upd_same) .nil, shaped_ints xs, shaped_ints [], _, rfl, ?_⟩⟩
    rw [eqv_ints]
    dsimp only
    replace i := i.lay (o := .lst []) hp
    generalize upd H p (.lst []) = H at i ⊢
    cases xs with
    | nil => 
      rw [if_neg (by decide)]
      exact end_run i hm hm2 hn h0 h1 h2 hx k
    | cons x xs =>
      rw [if_pos (by simp)]
      refine ⟨fun σ' H' => DW G W many (m + 1) xs.length σ' H', fun σ' H' hw => ⟨_, by rw [← hμ]; exact Nat.lt_succ_self _, hw⟩, ?_⟩
      have hx' : xs.length ≤ sizeMax := Nat.le_trans (Nat.le_succ _) hx
      refine ev_S (v := .ref G.inn) i rfl rfl _ ⟨by left; exact ⟨rfl, _, SqL.of i.inn⟩, _, _, 0, 0, _, rfl, rfl, i.inn, by decide, by decide, by simp [seqIndex?], rfl, _, rfl, ?_⟩
      dsimp only [gName]
      rw [show (List.map V.int (x :: xs)).eraseIdx 0 = xs.map V.int from rfl]
      replace i := i.pop (ys := xs)
      generalize upd H G.inn (.lst (xs.map V.int)) = H at i ⊢
      have hy : 0 ≤ (if x < 0 then -x else x) := by split <;> omega
      generalize (if x < 0 then -x else x) = y at hy ⊢
      refine set_seq i rfl (ev_I (ev_int (ev_0 (ev_0 (ev_I (C := mulOk) (ev_S i rfl rfl) ev_C (.inl (.inr ⟨by decide, by decide⟩))) (ev_V rfl)) ev_C)) ev_C (by decide)) (k := 3) rfl ?_
      have i3 := i.set (c' := c) (m' := m + 1) (h' := (h * 8191 + y + 3) % 2147483647)
      refine set_ok i3 rfl (v := .int (if (10 : Int) ^ (18 : Int).toNat ≤ y then y else 0)) (ev_if (ev_0 (ev_V rfl) (ev_I (C := CPow) ev_C ev_C ⟨by decide, by decide, by decide⟩)) (fun e => ?_) fun e => ?_) (k := 1) rfl ?_
      · rw [if_pos (of_decide_eq_true e)]; exact ev_V rfl
      · rw [if_neg (of_decide_eq_false e)]; exact ev_C
      · refine ⟨xs, _, _, _, rfl, rfl, i3.set, ?_, Int.emod_nonneg _ (by decide), Int.emod_lt_of_pos _ (by decide), hx'⟩
        split
        · exact hy
        · exact Int.le_refl _
  · rw [if_neg (by rw [decide_eq_false z]; decide)]
    rw [if_neg (by decide)]
    exact end_run i hm hm2 hn h0 h1 h2 hx k
end
end LW
/-! _law_draw keeps its promise. -/
namespace LW
open PySem PySem.Spec L2 Q
section
variable {P : Program} {w : World} {K : PySem.W.Frag} {mg : Str → Option Value} {base : Heap} {M : Pm}
theorem draw_ok {x qual : Str} {ps : Arguments} {dvs : List V} {kws : List (Str × V)} {f : Addr} {fd : FuncData} (Fu : FunD K x qual ps (defBody (top 28)) sc_draw dvs kws f fd) (Sc : FnScope N_draw F_draw.ps sc_draw)
    (fx : Fx P w K mg base M) (nc : M.cal = false) (nl : M.lm = false) (ng : M.gd = false) (b1 : ("abs" : Str) ∈ M.bs) (b2 : ("int" : Str) ∈ M.bs) : FnOk P w K mg base (L2.CX P w) (M.k + M.x + 1) f fd F_draw.ps (spD M F_draw) := by
  refine Fu.ok Sc (fun vs H Q E h => h.1) fun cdv A outer s0 H vs Q E hr h => ?_
  obtain ⟨hl, A', W, ds, n, Qd, Ed, rfl, hb, hst, ht, ha, hsp, hQ, hE⟩ := h
  have hc : GoodS (cxOf (L2.CX P w) P w K mg base N_draw qual sc_draw f cdv A outer s0 W.H E) M (fun cls d _ H => E cls d H) :=
    ⟨⟨fx, rfl, Sc.nd, hr, takes_of rfl rfl rfl rfl, (fun h => by rw [nc] at h; cases h), (fun h => by rw [nl] at h; cases h), (fun h => by rw [ng] at h; cases h)⟩, passes_of rfl, fun s h => ⟨h, .inl rfl⟩, Sc.kind, rfl, rfl⟩
  refine ⟨_, draw_ps hc rfl rfl (fx.bs _ b1) (fx.bs _ b2), ?_⟩
  obtain ⟨many, rfl, m1, m2, m3, q⟩ := hsp
  cases ha with | cons a1 ha =>
  cases ha with | cons a2 ha =>
  cases ha
  cases a1
  cases a2
  obtain ⟨xs, c, h, m, z1, z2, z3, z4, zl, e1, e2, z5⟩ := hst
  refine draw_run (W := W.H) ⟨z5, e1, e2, ⟨_, _, e1, e2⟩, fun a o e _ _ => e⟩ m1 m2 (Nat.lt_of_le_of_lt z1 m3) z2 z3 z4 zl fun r xs' c' h' H' i k0 k1 k2 kx r0 r1 => ?_
  exact hQ (.int r) (.int r) ⟨W.iot, H'⟩ (n + 1) (i.ste ht (Nat.succ_le_succ z1) k0 k1 k2 kx) .int (fun h => by exact absurd (show false = true from h) Bool.false_ne_true) (q r r0 r1)
end
end LW
/-! the claim's own primitives. -/
namespace LW
open PySem PySem.Spec L2 Q
theorem rcSortset_ok {sc : Scope} {e : Expr} {es : List Expr} (h : rcSortset sc e = some es) : ∃ (s r : Str) (p1 p2 p3 p4 : Pos) (x : Expr), e = .Call (.Name s p1) [.Call (.Name r p2) [x] [] p3] [] p4 ∧ es = [x] ∧ isGl sc s "sorted" = true ∧ isGl sc r "set" = true := by
  unfold rcSortset at h
  split at h
  · rename_i s p1 r p2 x p3 p4
    split at h
    · rename_i hc
      rw [Bool.and_eq_true] at hc
      cases h
      exact ⟨s, r, p1, p2, p3, p4, x, rfl, rfl, hc.1, hc.2⟩
    · cases h
  · cases h
theorem pSortset_ok : PrmOk pSortset ["sorted", "set"] := fun {c M Wx p e es xs} g hb hp he ha => by
  obtain ⟨s, r, p1, p2, p3, p4, x, rfl, rfl, h1, h2⟩ := rcSortset_ok he
  obtain ⟨rfl, g1, g2⟩ := isGl_ok g hb (by simp) h1
  obtain ⟨rfl, g3, g4⟩ := isGl_ok g hb (by simp) h2
  cases ha with
  | cons na hs he2 hr =>
    cases hr
    refine PE.imp (pe_callB (cr_sortedSet g.calm) g1 g2 (by decide +kernel) (pa_cons (pe_callTy (cr_setI g.calm) g3 g4 (by decide +kernel) (pa_cons he2 pa_nil (hs _)) (by decide) (by decide) (hs _) (by rfl)) pa_nil) (by decide) (by decide) (by rfl) (by rfl)) fun σ H Q h => ?_
    obtain ⟨A₀, W₀, A, W, sl, n, E, Qd, e, R, Xs, hw, kk⟩ := pri1 na hp h
    refine ⟨A₀, W₀, A, W, sl, n, E, Qd, e, R, Xs, hw, fun v d W1 n1 S1 r1 q1 => ?_⟩
    obtain ⟨A2, W2, d, n2, Qd2, Ed2, e2, P2, a2, ys, ns, hs2, hn, h63, q⟩ := kk v d W1 n1 S1 r1 q1
    rw [← e2]
    have key : ∃ a, v = .ref a ∧ (SqL c.K W2.H a (ns.map V.int) ∨ SqT c.K W2.H a (ns.map V.int)) := by
      cases d with
      | lst j zs =>
        cases hs2
        obtain ⟨a, vs, rfl, f1, f2⟩ := a2.isl
        exact ⟨a, rfl, .inl (SqL.of (by rw [← ints_at f2 hn]; exact f1))⟩
      | tup zs =>
        cases hs2
        obtain ⟨a, vs, rfl, f1, f2⟩ := a2.ist
        exact ⟨a, rfl, .inr (SqT.of (by rw [← ints_at f2 hn]; exact f1))⟩
      | _ => cases hs2
    obtain ⟨a, rfl, hq⟩ := key
    refine ⟨a, ns, rfl, hq, by unfold scanBound; omega, fun p m hp' hm => ?_⟩
    refine ⟨p, _, m, rfl, upd_same, by omega, fun out p' o1 o2 o3 hp2 => ?_⟩
    have S1 : Ste M.G A2 W2 ⟨W2.iot, upd W2.H p (SetO c.w p (fun j => decide (j ∈ ns)) m)⟩ n2 := .lay P2.s P2.t hp'
    have P3 : PEnd M A2 ⟨W2.iot, upd W2.H p (SetO c.w p (fun j => decide (j ∈ ns)) m)⟩ n2 Qd2 Q := ⟨P2.b.ste S1, S1.strm, S1.tabs, fun v d W' n' S a q => P2.k v d W' n' (S1.trans S) a q⟩
    exact P3.lst hp2 (at_ints out) (q out o1 fun k => (o2 k).trans decide_eq_true_iff)
end LW
/-! fractions over data, as rationals. -/
namespace LW
open PySem PySem.Spec L2 Q
open scoped Rat
variable {Phy : List Fn}
def frD (t b : Int) : D := .tup [.int t, .int b]
def gcdI (t b : Int) : Int := ((Nat.gcd t.natAbs b.natAbs : Nat) : Int)
/-- in lowest terms -/
def lowD (t b : Int) : D := frD (t / gcdI t b) (b / gcdI t b)
/-- a rational in lowest terms -/
def rD (q : Rat) : D := frD q.num (q.den : Int)
theorem gcd_pos {t b : Int} (h : 0 < b) : 0 < gcdI t b := by
  unfold gcdI
  have : 0 < Nat.gcd t.natAbs b.natAbs := Nat.gcd_pos_of_pos_right _ (by omega)
  omega
theorem low_rat {t b : Int} (h : 0 < b) : lowD t b = rD (t /. b) := by
  unfold lowD rD
  have hb : b ≠ 0 := by omega
  rw [Rat.num_divInt, Rat.den_divInt, if_neg hb, Int.sign_eq_one_of_pos h, Int.one_mul]
  have e : ((Int.gcd b t : Nat) : Int) = gcdI t b := by
    unfold gcdI Int.gcd
    rw [Nat.gcd_comm]
  have e2 : ((b.natAbs / Int.gcd b t : Nat) : Int) = b / gcdI t b := by
    rw [← e, Int.natCast_ediv, Int.natAbs_of_nonneg (Int.le_of_lt h)]
  rw [e2, e]
theorem rat_pos (q : Rat) : 0 < (q.den : Int) := by
  have := q.den_pos
  omega
theorem rat_self (q : Rat) : q.num /. (q.den : Int) = q := Rat.num_divInt_den q
/-- of no great size -/
structure Sz (k : Nat) (q : Rat) : Prop where
  t : q.num.natAbs < 2 ^ k
  b : q.den < 2 ^ k
theorem Sz.mono {k l : Nat} {q : Rat} (h : Sz k q) (hk : k ≤ l) : Sz l q := ⟨Nat.lt_of_lt_of_le h.t (Nat.pow_le_pow_right (by decide) hk), Nat.lt_of_lt_of_le h.b (Nat.pow_le_pow_right (by decide) hk)⟩
theorem log2_le {n k : Nat} (h : n < 2 ^ k) : n.log2 ≤ k := by
  by_cases z : n = 0
  · subst z; simp
  · exact Nat.le_of_lt ((Nat.log2_lt z).mpr h)
theorem mul_sz {i j : Int} {k l : Nat} (hi : i.natAbs < 2 ^ k) (hj : j.natAbs < 2 ^ l) (h : k + l < 1000000) : mulOk i j := by
  refine .inr ?_
  show i.natAbs.log2 + j.natAbs.log2 < 1000000
  have := log2_le hi
  have := log2_le hj
  omega
theorem gcd_div {t b : Int} (h : 0 < b) (hb : b.natAbs < 2 ^ 8999) : fdivOk (gcdI t b) := by
  refine ⟨gcd_pos h, .inr ?_⟩
  unfold gcdI
  rw [Int.natAbs_natCast]
  have h1 : 0 < Nat.gcd t.natAbs b.natAbs := Nat.gcd_pos_of_pos_right _ (by omega)
  have h2 : Nat.gcd t.natAbs b.natAbs ≤ b.natAbs := Nat.gcd_le_right _ (by omega)
  have := log2_le (Nat.lt_of_le_of_lt h2 hb)
  omega
theorem abs_mul {i j : Int} {k l : Nat} (hi : i.natAbs < 2 ^ k) (hj : j.natAbs < 2 ^ l) : (i * j).natAbs < 2 ^ (k + l) := by
  rw [Int.natAbs_mul, Nat.pow_add]
  by_cases z : j.natAbs = 0
  · rw [z, Nat.mul_zero]
    exact Nat.mul_pos (Nat.two_pow_pos _) (Nat.two_pow_pos _)
  · exact Nat.mul_lt_mul_of_lt_of_le hi (Nat.le_of_lt hj) (Nat.two_pow_pos _)
/-- the size of what is brought to lowest terms -/
theorem sz_low {t b : Int} {k : Nat} (h : 0 < b) (ht : t.natAbs < 2 ^ k) (hb : b.natAbs < 2 ^ k) : Sz k (t /. b) := by
  have hb0 : b ≠ 0 := by omega
  constructor
  · rw [Rat.num_divInt, Int.sign_eq_one_of_pos h, Int.one_mul]
    exact Nat.lt_of_le_of_lt (by rw [Int.natAbs_ediv_of_dvd (Int.gcd_dvd_right ..)]; exact Nat.div_le_self _ _) ht
  · rw [Rat.den_divInt, if_neg hb0]
    exact Nat.lt_of_le_of_lt (Nat.div_le_self _ _) hb
theorem sz_den {k : Nat} {q : Rat} (h : Sz k q) : (q.den : Int).natAbs < 2 ^ k := by
  rw [Int.natAbs_natCast]
  exact h.b
theorem add_lt2 {i j : Int} {k : Nat} (hi : i.natAbs < 2 ^ k) (hj : j.natAbs < 2 ^ k) : (i + j).natAbs < 2 ^ (k + 1) := by
  have := Int.natAbs_add_le i j
  rw [Nat.pow_succ]
  omega
theorem sub_lt2 {i j : Int} {k : Nat} (hi : i.natAbs < 2 ^ k) (hj : j.natAbs < 2 ^ k) : (i - j).natAbs < 2 ^ (k + 1) := by
  have : (i - j).natAbs ≤ i.natAbs + j.natAbs := by omega
  rw [Nat.pow_succ]
  omega
theorem divInt_mk {t : Int} {n : Nat} : t /. (n : Int) = mkRat t n := Rat.divInt_ofNat t n
theorem add_rat (p q : Rat) : (p.num * q.den + q.num * p.den) /. (p.den * q.den) = p + q := by
  rw [Rat.add_def', ← divInt_mk, Int.natCast_mul]
theorem sub_rat (p q : Rat) : (p.num * q.den - q.num * p.den) /. (p.den * q.den) = p - q := by
  rw [Rat.sub_def', ← divInt_mk, Int.natCast_mul]
theorem mul_rat (p q : Rat) : (p.num * q.num) /. (p.den * q.den) = p * q := by
  rw [Rat.mul_def', ← divInt_mk, Int.natCast_mul]
theorem Sz.add {k : Nat} {p q : Rat} (hp : Sz k p) (hq : Sz k q) : Sz (2 * k + 1) (p + q) := by
  rw [← add_rat]
  refine sz_low (Int.mul_pos (rat_pos p) (rat_pos q)) ?_ ?_
  · have h1 := abs_mul hp.t (sz_den hq)
    have h2 := abs_mul hq.t (sz_den hp)
    rw [← Nat.two_mul] at h1 h2
    exact add_lt2 h1 h2
  · have h1 := abs_mul (sz_den hp) (sz_den hq)
    exact Nat.lt_of_lt_of_le h1 (Nat.pow_le_pow_right (by decide) (by omega))
theorem Sz.sub {k : Nat} {p q : Rat} (hp : Sz k p) (hq : Sz k q) : Sz (2 * k + 1) (p - q) := by
  rw [← sub_rat]
  refine sz_low (Int.mul_pos (rat_pos p) (rat_pos q)) ?_ ?_
  · have h1 := abs_mul hp.t (sz_den hq)
    have h2 := abs_mul hq.t (sz_den hp)
    rw [← Nat.two_mul] at h1 h2
    exact sub_lt2 h1 h2
  · have h1 := abs_mul (sz_den hp) (sz_den hq)
    exact Nat.lt_of_lt_of_le h1 (Nat.pow_le_pow_right (by decide) (by omega))
theorem Sz.mul {k : Nat} {p q : Rat} (hp : Sz k p) (hq : Sz k q) : Sz (2 * k) (p * q) := by
  rw [← mul_rat]
  refine sz_low (Int.mul_pos (rat_pos p) (rat_pos q)) ?_ ?_
  · have h1 := abs_mul hp.t hq.t
    rw [← Nat.two_mul] at h1
    exact h1
  · have h1 := abs_mul (sz_den hp) (sz_den hq)
    rw [← Nat.two_mul] at h1
    exact h1
/-! ### the program's -/
theorem at0 {x : D} {xs : List D} : atI (x :: xs) 0 = some x := by
  show ((if 0 ≤ (0 : Int) then if (0 : Int) < ((x :: xs).length : Nat) then some (0 : Int).toNat else none else _).bind fun j => (x :: xs)[j]?) = _
  rw [if_pos (by decide), if_pos (by simp only [List.length_cons]; omega)]
  rfl
theorem at1 {x y : D} {xs : List D} : atI (x :: y :: xs) 1 = some y := by
  show ((if 0 ≤ (1 : Int) then if (1 : Int) < ((x :: y :: xs).length : Nat) then some (1 : Int).toNat else none else _).bind fun j => (x :: y :: xs)[j]?) = _
  rw [if_pos (by decide), if_pos (by simp only [List.length_cons]; omega)]
  rfl
theorem bin_mul {i j : Int} {Q : D → Prop} : binW .mul (.int i) (.int j) Q ↔ (mulOk i j ∧ Q (.int (i * j))) := Iff.rfl
theorem bin_add {i j : Int} {Q : D → Prop} : binW .add (.int i) (.int j) Q ↔ Q (.int (i + j)) := Iff.rfl
theorem bin_sub {i j : Int} {Q : D → Prop} : binW .sub (.int i) (.int j) Q ↔ Q (.int (i - j)) := Iff.rfl
theorem ix0 {t b : Int} {Q : D → Prop} : idxW (frD t b) (.int 0) Q ↔ Q (.int t) := ⟨fun ⟨d, e, q⟩ => by rw [at0] at e; cases e; exact q, fun q => ⟨_, at0, q⟩⟩
theorem ix1 {t b : Int} {Q : D → Prop} : idxW (frD t b) (.int 1) Q ↔ Q (.int b) := ⟨fun ⟨d, e, q⟩ => by rw [at1] at e; cases e; exact q, fun q => ⟨_, at1, q⟩⟩
theorem rx0 {p : Rat} {Q : D → Prop} : idxW (rD p) (.int 0) Q ↔ Q (.int p.num) := ix0
theorem rx1 {p : Rat} {Q : D → Prop} : idxW (rD p) (.int 1) Q ↔ Q (.int (p.den : Int)) := ix1
def F_lowest : Fn := { name := "lowest", ps := ["top", "bottom"], sp := fun ds n Q _ => ∃ t b : Int, ds = [.int t, .int b] ∧ 0 < b ∧ b.natAbs < 2 ^ 8999 ∧ Q (rD (t /. b)) n }
theorem does_lowest (h1 : Phy[P + 10]? = some pGcd.fn) : Does Phy N_lowest F_lowest s_lowest := by
  rintro ds n Qd Ed hl ⟨t, b, rfl, h0, hb, h⟩
  clear hl
  have g := gcd_div (t := t) h0 hb
  rw [← low_rat h0] at h
  simp [s_lowest, N_lowest, wS, wX, wT, wA, wO, wI, sem, ofV, ofI, lookV, lookB, lookO, sl0, blW, intW, lstW, truW, objW, X.isNil, List.getElem?_cons_zero, List.getElem?_cons_succ, call_is h1]
  refine ⟨rfl, ?_⟩
  simp [wS, wX, wT, wA, wO, wI, sem, ofV, ofI, lookV, lookB, lookO, sl0, blW, intW, lstW, truW, objW, X.isNil, List.getElem?_cons_zero, List.getElem?_cons_succ, binW]
  exact ⟨g, g, by simp [sizeMax], h⟩
/-- the most that the operations ask -/
abbrev SzM (q : Rat) : Prop := Sz 4000 q
theorem den_sz {p q : Rat} (hp : SzM p) (hq : SzM q) : ((p.den : Int) * (q.den : Int)).natAbs < 2 ^ 8999 := Nat.lt_of_lt_of_le (abs_mul (sz_den hp) (sz_den hq)) (Nat.pow_le_pow_right (by decide) (by decide))
theorem c_lowest {t b : Int} {n : Nat} {Q : D → Nat → Prop} {E : Exc → Nat → Prop} (h : Phy[f_lowest]? = some F_lowest) (h0 : 0 < b) (hb : b.natAbs < 2 ^ 8999) (q : Q (rD (t /. b)) n) : callW Phy f_lowest [.int t, .int b] n Q E := (call_is h).mpr ⟨rfl, t, b, rfl, h0, hb, q⟩
def spOp (op : Rat → Rat → Rat) : DSp := fun ds n Q _ => ∃ p q : Rat, ds = [rD p, rD q] ∧ SzM p ∧ SzM q ∧ Q (rD (op p q)) n
def F_plus : Fn := { name := "plus", ps := ["one", "other"], sp := spOp (· + ·) }
def F_less : Fn := { name := "less", ps := ["one", "other"], sp := spOp (· - ·) }
def F_times : Fn := { name := "times", ps := ["one", "other"], sp := spOp (· * ·) }
theorem does_plus (h1 : Phy[f_lowest]? = some F_lowest) : Does Phy N_plus F_plus s_plus := by
  rintro ds n Qd Ed hl ⟨p, q, rfl, f1, f2, h⟩
  clear hl
  simp [s_plus, N_plus, wS, wX, wT, wA, wO, wI, sem, ofV, ofI, lookV, lookB, lookO, sl0, blW, intW, lstW, truW, objW, X.isNil, List.getElem?_cons_zero, List.getElem?_cons_succ, rx0, rx1, bin_mul, bin_add, bin_sub]
  refine ⟨mul_sz f1.t (sz_den f2) (by decide), mul_sz f2.t (sz_den f1) (by decide), mul_sz (sz_den f1) (sz_den f2) (by decide), c_lowest h1 (Int.mul_pos (rat_pos p) (rat_pos q)) (den_sz f1 f2) ?_⟩
  rw [add_rat]
  exact h
theorem does_less (h1 : Phy[f_lowest]? = some F_lowest) : Does Phy N_less F_less s_less := by
  rintro ds n Qd Ed hl ⟨p, q, rfl, f1, f2, h⟩
  clear hl
  simp [s_less, N_less, wS, wX, wT, wA, wO, wI, sem, ofV, ofI, lookV, lookB, lookO, sl0, blW, intW, lstW, truW, objW, X.isNil, List.getElem?_cons_zero, List.getElem?_cons_succ, rx0, rx1, bin_mul, bin_add, bin_sub]
  refine ⟨mul_sz f1.t (sz_den f2) (by decide), mul_sz f2.t (sz_den f1) (by decide), mul_sz (sz_den f1) (sz_den f2) (by decide), c_lowest h1 (Int.mul_pos (rat_pos p) (rat_pos q)) (den_sz f1 f2) ?_⟩
  rw [sub_rat]
  exact h
theorem does_times (h1 : Phy[f_lowest]? = some F_lowest) : Does Phy N_times F_times s_times := by
  rintro ds n Qd Ed hl ⟨p, q, rfl, f1, f2, h⟩
  clear hl
  simp [s_times, N_times, wS, wX, wT, wA, wO, wI, sem, ofV, ofI, lookV, lookB, lookO, sl0, blW, intW, lstW, truW, objW, X.isNil, List.getElem?_cons_zero, List.getElem?_cons_succ, rx0, rx1, bin_mul, bin_add, bin_sub]
  refine ⟨mul_sz f1.t f2.t (by decide), mul_sz (sz_den f1) (sz_den f2) (by decide), c_lowest h1 (Int.mul_pos (rat_pos p) (rat_pos q)) (den_sz f1 f2) ?_⟩
  rw [mul_rat]
  exact h
/-- a fraction as it is handed in: a list or a tuple, in any terms -/
structure Raw (d : D) (q : Rat) : Prop where
  ex : ∃ t b : Int, d.seq = some [.int t, .int b] ∧ 0 < b ∧ t /. b = q ∧ t.natAbs < 2 ^ 4000 ∧ b.natAbs < 2 ^ 4000
theorem Raw.rD {q : Rat} (h : SzM q) : Raw (rD q) q := ⟨q.num, q.den, rfl, rat_pos q, rat_self q, h.t, sz_den h⟩
theorem raw_lt {t b s c : Int} (hb : 0 < b) (hc : 0 < c) : decide (t * c < s * b) = decide (t /. b < s /. c) := by
  refine decide_eq_decide.mpr ?_
  have hb' : (0 : Rat) < (b : Rat) := Rat.intCast_pos.mpr hb
  have hc' : (0 : Rat) < (c : Rat) := Rat.intCast_pos.mpr hc
  rw [Rat.divInt_eq_div, Rat.divInt_eq_div, Rat.div_lt_iff hb']
  have e : (s : Rat) / c * b = (s * b : Rat) / c := by
    rw [Rat.div_def, Rat.div_def, Rat.mul_assoc, Rat.mul_comm _ (b : Rat), ← Rat.mul_assoc]
  rw [e, Rat.lt_div_iff hc', ← Rat.intCast_mul, ← Rat.intCast_mul, Rat.intCast_lt_intCast]
def F_is_below : Fn := { name := "is_below", ps := ["one", "other"], sp := fun ds n Q _ => ∃ (x y : D) (p q : Rat), ds = [x, y] ∧ Raw x p ∧ Raw y q ∧ Q (.bl (decide (p < q))) n }
theorem does_is_below : Does Phy N_is_below F_is_below s_is_below := by
  rintro ds n Qd Ed hl ⟨x, y, p, q, rfl, ⟨t, b, e1, b1, rfl, s1, s2⟩, ⟨s, c, e2, c1, rfl, s3, s4⟩, h⟩
  clear hl
  have i0 : ∀ {Q : D → Prop}, idxW x (.int 0) Q ↔ Q (.int t) := fun {Q} => (idx_seq e1).trans ⟨fun ⟨d, e, q⟩ => by rw [at0] at e; cases e; exact q, fun q => ⟨_, at0, q⟩⟩
  have i1 : ∀ {Q : D → Prop}, idxW x (.int 1) Q ↔ Q (.int b) := fun {Q} => (idx_seq e1).trans ⟨fun ⟨d, e, q⟩ => by rw [at1] at e; cases e; exact q, fun q => ⟨_, at1, q⟩⟩
  have j0 : ∀ {Q : D → Prop}, idxW y (.int 0) Q ↔ Q (.int s) := fun {Q} => (idx_seq e2).trans ⟨fun ⟨d, e, q⟩ => by rw [at0] at e; cases e; exact q, fun q => ⟨_, at0, q⟩⟩
  have j1 : ∀ {Q : D → Prop}, idxW y (.int 1) Q ↔ Q (.int c) := fun {Q} => (idx_seq e2).trans ⟨fun ⟨d, e, q⟩ => by rw [at1] at e; cases e; exact q, fun q => ⟨_, at1, q⟩⟩
  have lt : ∀ {a b : Int} {Q : Bool → Prop}, cmpW .lt (.int a) (.int b) Q ↔ Q (decide (a < b)) := Iff.rfl
  simp [s_is_below, N_is_below, wS, wX, wT, wA, wO, wI, sem, ofV, ofI, lookV, lookB, lookO, sl0, blW, intW, lstW, truW, objW, X.isNil, List.getElem?_cons_zero, List.getElem?_cons_succ, i0, i1, j0, j1, bin_mul, lt]
  rw [raw_lt b1 c1]
  exact ⟨mul_sz s1 s4 (by decide), mul_sz s3 s2 (by decide), h⟩
end LW
/-! the law's own fractions, over data. -/
namespace LW
open PySem PySem.Spec L2 Q
open scoped Rat
variable {Phy : List Fn}
theorem abs_int {i : Int} {Q : D → Prop} : biW .abs [.int i] Q ↔ Q (.int (i.natAbs : Int)) := by
  have e : (if i < 0 then -i else i) = (i.natAbs : Int) := by
    split <;> omega
  show Q (.int (if i < 0 then -i else i)) ↔ _
  rw [e]
def F_common : Fn := { name := "_law_common", ps := ["_law_one", "_law_other"], sp := fun ds n Q _ => ∃ a b : Int, ds = [.int a, .int b] ∧ Q (.int (gcdI a b)) n }
theorem does_common : Does Phy N_law_common F_common s_law_common := by
  rintro ds n Qd Ed hl ⟨a, b, rfl, h⟩
  clear hl
  simp [s_law_common, N_law_common, wS, wX, wT, wA, wO, wI, sem, ofV, ofI, lookV, lookB, lookO, sl0, blW, intW, lstW, truW, objW, X.isNil, List.getElem?_cons_zero, List.getElem?_cons_succ, abs_int, wPar]
  refine ⟨b.natAbs + 2, whlL_ind (fun k ρ => ∃ x y : Nat, Nat.gcd x y = Nat.gcd a.natAbs b.natAbs ∧ y + 2 ≤ k ∧ ρ = ⟨[.val (.int x), .val (.int y)], n⟩) ?_ ?_ ⟨a.natAbs, b.natAbs, rfl, Nat.le_refl _, rfl⟩⟩
  · rintro ρ ⟨x, y, _, hy, _⟩
    omega
  · rintro m ρ k ⟨x, y, e, hy, rfl⟩ hk
    have gt : ∀ {a b : Int} {Q : Bool → Prop}, cmpW .gt (.int a) (.int b) Q ↔ Q (decide (b < a)) := Iff.rfl
    simp [wS, wX, wT, wA, wO, wI, sem, ofV, ofI, lookV, lookB, lookO, sl0, blW, intW, lstW, truW, objW, X.isNil, List.getElem?_cons_zero, List.getElem?_cons_succ, gt]
    by_cases z : 0 < y
    · simp [z, wS, wX, wT, wA, wO, wI, sem, ofV, ofI, lookV, lookB, lookO, sl0, blW, intW, lstW, truW, objW, X.isNil, List.getElem?_cons_zero, List.getElem?_cons_succ, binW, wPar]
      refine hk _ ⟨y, x % y, ?_, ?_, ?_⟩
      · rw [← e, Nat.gcd_comm y, ← Nat.gcd_rec, Nat.gcd_comm]
      · have := Nat.mod_lt x z
        omega
      · simp
    · have z0 : y = 0 := by omega
      subst z0
      simp [wS, wX, wT, wA, wO, wI, sem, ofV, ofI, lookV, lookB, lookO, sl0, blW, intW, lstW, truW, objW, X.isNil, List.getElem?_cons_zero, List.getElem?_cons_succ]
      rw [Nat.gcd_zero_right] at e
      rw [e]
      exact h
def F_low : Fn := { name := "_law_low", ps := ["_law_top", "_law_bottom"], sp := fun ds n Q _ => ∃ t b : Int, ds = [.int t, .int b] ∧ 0 < b ∧ b.natAbs < 2 ^ 8999 ∧ Q (rD (t /. b)) n }
theorem does_low (h1 : Phy[f_law_common]? = some F_common) : Does Phy N_law_low F_low s_law_low := by
  rintro ds n Qd Ed hl ⟨t, b, rfl, h0, hb, h⟩
  clear hl
  have g := gcd_div (t := t) h0 hb
  rw [← low_rat h0] at h
  have gt : ∀ {a b : Int} {Q : Bool → Prop}, cmpW .gt (.int a) (.int b) Q ↔ Q (decide (b < a)) := Iff.rfl
  simp [s_law_low, N_law_low, wS, wX, wT, wA, wO, wI, sem, ofV, ofI, lookV, lookB, lookO, sl0, blW, intW, lstW, truW, objW, X.isNil, List.getElem?_cons_zero, List.getElem?_cons_succ, gt, h0]
  refine (call_is h1).mpr ⟨rfl, _, _, rfl, ?_⟩
  simp [wS, wX, wT, wA, wO, wI, sem, ofV, ofI, lookV, lookB, lookO, sl0, blW, intW, lstW, truW, objW, X.isNil, List.getElem?_cons_zero, List.getElem?_cons_succ, binW, g]
  exact ⟨by simp [sizeMax], h⟩
theorem c_low {t b : Int} {n : Nat} {Q : D → Nat → Prop} {E : Exc → Nat → Prop} (h : Phy[f_law_low]? = some F_low) (h0 : 0 < b) (hb : b.natAbs < 2 ^ 8999) (q : Q (rD (t /. b)) n) : callW Phy f_law_low [.int t, .int b] n Q E := (call_is h).mpr ⟨rfl, t, b, rfl, h0, hb, q⟩
def F_lplus : Fn := { name := "_law_plus", ps := ["_law_one", "_law_other"], sp := spOp (· + ·) }
def F_lless : Fn := { name := "_law_less", ps := ["_law_one", "_law_other"], sp := spOp (· - ·) }
def F_ltimes : Fn := { name := "_law_times", ps := ["_law_one", "_law_other"], sp := spOp (· * ·) }
theorem does_lplus (h1 : Phy[f_law_low]? = some F_low) : Does Phy N_law_plus F_lplus s_law_plus := by
  rintro ds n Qd Ed hl ⟨p, q, rfl, f1, f2, h⟩
  clear hl
  simp [s_law_plus, N_law_plus, wS, wX, wT, wA, wO, wI, sem, ofV, ofI, lookV, lookB, lookO, sl0, blW, intW, lstW, truW, objW, X.isNil, List.getElem?_cons_zero, List.getElem?_cons_succ, rx0, rx1, bin_mul, bin_add, bin_sub]
  refine ⟨mul_sz f1.t (sz_den f2) (by decide), mul_sz f2.t (sz_den f1) (by decide), mul_sz (sz_den f1) (sz_den f2) (by decide), c_low h1 (Int.mul_pos (rat_pos p) (rat_pos q)) (den_sz f1 f2) ?_⟩
  rw [add_rat]
  exact h
theorem does_lless (h1 : Phy[f_law_low]? = some F_low) : Does Phy N_law_less F_lless s_law_less := by
  rintro ds n Qd Ed hl ⟨p, q, rfl, f1, f2, h⟩
  clear hl
  simp [s_law_less, N_law_less, wS, wX, wT, wA, wO, wI, sem, ofV, ofI, lookV, lookB, lookO, sl0, blW, intW, lstW, truW, objW, X.isNil, List.getElem?_cons_zero, List.getElem?_cons_succ, rx0, rx1, bin_mul, bin_add, bin_sub]
  refine ⟨mul_sz f1.t (sz_den f2) (by decide), mul_sz f2.t (sz_den f1) (by decide), mul_sz (sz_den f1) (sz_den f2) (by decide), c_low h1 (Int.mul_pos (rat_pos p) (rat_pos q)) (den_sz f1 f2) ?_⟩
  rw [sub_rat]
  exact h
theorem does_ltimes (h1 : Phy[f_law_low]? = some F_low) : Does Phy N_law_times F_ltimes s_law_times := by
  rintro ds n Qd Ed hl ⟨p, q, rfl, f1, f2, h⟩
  clear hl
  simp [s_law_times, N_law_times, wS, wX, wT, wA, wO, wI, sem, ofV, ofI, lookV, lookB, lookO, sl0, blW, intW, lstW, truW, objW, X.isNil, List.getElem?_cons_zero, List.getElem?_cons_succ, rx0, rx1, bin_mul, bin_add, bin_sub]
  refine ⟨mul_sz f1.t f2.t (by decide), mul_sz (sz_den f1) (sz_den f2) (by decide), c_low h1 (Int.mul_pos (rat_pos p) (rat_pos q)) (den_sz f1 f2) ?_⟩
  rw [mul_rat]
  exact h
def F_lbelow : Fn := { name := "_law_is_below", ps := ["_law_one", "_law_other"], sp := fun ds n Q _ => ∃ p q : Rat, ds = [rD p, rD q] ∧ SzM p ∧ SzM q ∧ Q (.bl (decide (p < q))) n }
theorem does_lbelow : Does Phy N_law_is_below F_lbelow s_law_is_below := by
  rintro ds n Qd Ed hl ⟨p, q, rfl, f1, f2, h⟩
  clear hl
  have lt : ∀ {a b : Int} {Q : Bool → Prop}, cmpW .lt (.int a) (.int b) Q ↔ Q (decide (a < b)) := Iff.rfl
  simp [s_law_is_below, N_law_is_below, wS, wX, wT, wA, wO, wI, sem, ofV, ofI, lookV, lookB, lookO, sl0, blW, intW, lstW, truW, objW, X.isNil, List.getElem?_cons_zero, List.getElem?_cons_succ, rx0, rx1, bin_mul, lt]
  have e : decide (p.num * q.den < q.num * p.den) = decide (p < q) := decide_eq_decide.mpr (Rat.lt_iff p q).symm
  rw [e]
  exact ⟨mul_sz f1.t (sz_den f2) (by decide), mul_sz f2.t (sz_den f1) (by decide), h⟩
/-- the least of a and xs, as the law seeks it -/
def leastR (a : Rat) : List Rat → Rat
  | [] => a
  | x :: xs => leastR (if x < a then x else a) xs
def F_lleastR : Fn := { name := "_law_least", ps := ["_law_things"], sp := fun ds n Q _ => ∃ (k : Nat) (a : Rat) (L : List Rat), ds = [.lst k ((a :: L).map rD)] ∧ (∀ q ∈ a :: L, SzM q) ∧ Q (rD (leastR a L)) n }
theorem leastR_mem {a : Rat} : ∀ {L : List Rat}, leastR a L ∈ a :: L := by
  intro L
  induction L generalizing a with
  | nil => exact List.mem_cons_self
  | cons x xs ih =>
    unfold leastR
    split
    · exact List.mem_cons_of_mem _ ih
    · rcases List.mem_cons.mp (ih (a := a)) with z | z
      · rw [z]; exact List.mem_cons_self
      · exact List.mem_cons_of_mem _ (List.mem_cons_of_mem _ z)
theorem does_lleastR (h1 : Phy[f_law_is_below]? = some F_lbelow) : Does Phy N_law_least F_lleastR s_law_least := by
  rintro ds n Qd Ed hl ⟨k, a, L, rfl, hf, h⟩
  clear hl
  simp [s_law_least, N_law_least, wS, wX, wT, wA, wO, wI, sem, ofV, ofI, lookV, lookB, lookO, sl0, blW, intW, lstW, truW, objW, X.isNil, List.getElem?_cons_zero, List.getElem?_cons_succ, seqW]
  refine ⟨rD a, at0, ?_⟩
  have irr : leastR a (a :: L) = leastR a L := by
    show leastR (if a < a then a else a) L = _
    rw [ite_self]
  refine forL_ind (fun rest ρ => ∃ (left : List Rat) (q : Rat) (z : Slot), rest = left.map rD ∧ SzM q ∧ (∀ r ∈ left, SzM r) ∧ leastR q left = leastR a L ∧ ρ = ⟨[.val (.lst k ((a :: L).map rD)), .val (rD q), z], n⟩) ?_ ?_ ?_
  · rintro x rest ρ kk ⟨left, q, z, er, hq, hle, he, rfl⟩ hk
    cases left with
    | nil => cases er
    | cons r left =>
      cases er
      have hr := hle r List.mem_cons_self
      simp [wTg, wS, wX, wT, wA, wO, wI, sem, ofV, ofI, lookV, lookB, lookO, sl0, blW, intW, lstW, truW, objW, X.isNil, List.getElem?_cons_zero, List.getElem?_cons_succ]
      refine (call_is h1).mpr ⟨rfl, r, q, rfl, hr, hq, ?_⟩
      by_cases c : r < q
      · simp [c]
        refine hk _ ⟨left, r, _, rfl, hr, fun s hs => hle s (List.mem_cons_of_mem _ hs), ?_, rfl⟩
        rw [← he]
        show _ = leastR (if r < q then r else q) left
        rw [if_pos c]
      · simp [c]
        refine hk _ ⟨left, q, _, rfl, hq, fun s hs => hle s (List.mem_cons_of_mem _ hs), ?_, rfl⟩
        rw [← he]
        show _ = leastR (if r < q then r else q) left
        rw [if_neg c]
  · rintro ρ ⟨left, q, z, er, hq, hle, he, rfl⟩
    have : left = [] := by
      cases left with
      | nil => rfl
      | cons _ _ => cases er
    subst this
    simp [wS, wX, wT, wA, wO, wI, sem, ofV, ofI, lookV, lookB, lookO, sl0, blW, intW, lstW, truW, objW, X.isNil, List.getElem?_cons_zero, List.getElem?_cons_succ]
    have e : q = leastR a L := he
    rw [e]
    exact h
  · exact ⟨a :: L, a, .un, by simp, hf a List.mem_cons_self, hf, irr, by simp⟩
/-- a fraction over k, of no great size -/
def Ov (k N : Nat) (q : Rat) : Prop := ∃ a : Int, q = a /. (k : Int) ∧ a.natAbs ≤ N
theorem Ov.sz {k N : Nat} {q : Rat} (h : Ov k N q) (hk : 0 < k) {l : Nat} (h1 : N < 2 ^ l) (h2 : k < 2 ^ l) : Sz l q := by
  obtain ⟨a, rfl, ha⟩ := h
  exact sz_low (by omega) (Nat.lt_of_le_of_lt ha h1) (by rw [Int.natAbs_natCast]; exact h2)
theorem Ov.add {k N N' : Nat} {p q : Rat} (hp : Ov k N p) (hq : Ov k N' q) (hk : 0 < k) : Ov k (N + N') (p + q) := by
  obtain ⟨a, rfl, ha⟩ := hp
  obtain ⟨b, rfl, hb⟩ := hq
  refine ⟨a + b, ?_, by omega⟩
  have hk' : (k : Int) ≠ 0 := by omega
  rw [Rat.divInt_add_divInt _ _ hk' hk', ← Int.add_mul, Rat.divInt_mul_right hk']
theorem Ov.neg {k N : Nat} {q : Rat} (hq : Ov k N q) : Ov k N (-q) := by
  obtain ⟨b, rfl, hb⟩ := hq
  exact ⟨-b, Rat.neg_divInt .., by omega⟩
theorem Ov.sub {k N N' : Nat} {p q : Rat} (hp : Ov k N p) (hq : Ov k N' q) (hk : 0 < k) : Ov k (N + N') (p - q) := by
  rw [Rat.sub_eq_add_neg]
  exact hp.add hq.neg hk
theorem Ov.mul {k l N N' : Nat} {p q : Rat} (hp : Ov k N p) (hq : Ov l N' q) : Ov (k * l) (N * N') (p * q) := by
  obtain ⟨a, rfl, ha⟩ := hp
  obtain ⟨b, rfl, hb⟩ := hq
  refine ⟨a * b, ?_, by rw [Int.natAbs_mul]; exact Nat.mul_le_mul ha hb⟩
  rw [Rat.divInt_mul_divInt, Int.natCast_mul]
theorem Ov.up {k N m : Nat} {q : Rat} (h : Ov k N q) (hm : 0 < m) : Ov (k * m) (N * m) q := by
  obtain ⟨a, rfl, ha⟩ := h
  refine ⟨a * m, ?_, by rw [Int.natAbs_mul, Int.natAbs_natCast]; exact Nat.mul_le_mul_right _ ha⟩
  rw [Int.natCast_mul, Rat.divInt_mul_right (by omega)]
theorem Ov.le {k N N' : Nat} {q : Rat} (h : Ov k N q) (hn : N ≤ N') : Ov k N' q := by
  obtain ⟨a, e, ha⟩ := h
  exact ⟨a, e, by omega⟩
def totR (L : List Rat) : Rat := L.foldl (· + ·) 0
theorem rD_zero : rD 0 = frD 0 1 := rfl
def F_ltotal : Fn := { name := "_law_total", ps := ["_law_things"], sp := fun ds n Q _ => ∃ (j k N : Nat) (L : List Rat), ds = [.lst j (L.map rD)] ∧ 0 < k ∧ k < 2 ^ 2000 ∧ N < 2 ^ 2000 ∧ L.length ≤ 1000 ∧ (∀ q ∈ L, Ov k N q) ∧ Q (rD (totR L)) n }
theorem big_mul {a N : Nat} (h1 : a ≤ 1000) (h2 : N < 2 ^ 2000) : a * N < 2 ^ 4000 := by
  have h3 : a * N ≤ 1000 * 2 ^ 2000 := Nat.mul_le_mul h1 (Nat.le_of_lt h2)
  refine Nat.lt_of_le_of_lt h3 ?_
  have : 1000 * 2 ^ 2000 < 2 ^ 10 * 2 ^ 2000 := Nat.mul_lt_mul_of_pos_right (by decide) (Nat.two_pow_pos _)
  refine Nat.lt_of_lt_of_le this ?_
  rw [← Nat.pow_add]
  exact Nat.pow_le_pow_right (by decide) (by decide)
theorem pow_lt {k : Nat} (h : k < 2 ^ 2000) : k < 2 ^ 4000 := Nat.lt_of_lt_of_le h (Nat.pow_le_pow_right (by decide) (by decide))
theorem does_ltotal (h1 : Phy[f_law_plus]? = some F_lplus) : Does Phy N_law_total F_ltotal s_law_total := by
  rintro ds n Qd Ed hl ⟨j, k, N, L, rfl, hk, hk2, hN, hL, ho, h⟩
  clear hl
  simp [s_law_total, N_law_total, wS, wX, wT, wA, wO, wI, sem, ofV, ofI, lookV, lookB, lookO, sl0, blW, intW, lstW, truW, objW, X.isNil, List.getElem?_cons_zero, List.getElem?_cons_succ, seqW]
  refine ⟨by simp [sizeMax], ?_⟩
  refine forL_ind (fun rest ρ => ∃ (done left : List Rat) (z : Slot), L = done ++ left ∧ rest = left.map rD ∧ Ov k (done.length * N) (totR done) ∧ ρ = ⟨[.val (.lst j (L.map rD)), .val (rD (totR done)), z], n⟩) ?_ ?_ ?_
  · rintro x rest ρ kk ⟨done, left, z, e, er, hd, rfl⟩ hkk
    cases left with
    | nil => cases er
    | cons r left =>
      cases er
      have hr : Ov k N r := ho r (by rw [e]; exact List.mem_append_right _ List.mem_cons_self)
      have hdl : done.length ≤ 1000 := by
        have := congrArg List.length e
        rw [List.length_append] at this
        omega
      simp [wTg, wS, wX, wT, wA, wO, wI, sem, ofV, ofI, lookV, lookB, lookO, sl0, blW, intW, lstW, truW, objW, X.isNil, List.getElem?_cons_zero, List.getElem?_cons_succ]
      refine (call_is h1).mpr ⟨rfl, totR done, r, rfl, hd.sz hk (big_mul hdl hN) (pow_lt hk2), hr.sz hk (pow_lt hN) (pow_lt hk2), ?_⟩
      have et : totR done + r = totR (done ++ [r]) := by
        unfold totR
        rw [List.foldl_append]
        rfl
      refine hkk _ ⟨done ++ [r], left, _, by rw [e]; simp, rfl, ?_, by simp [et]; rfl⟩
      rw [← et, List.length_append, List.length_singleton, Nat.add_mul, Nat.one_mul]
      exact hd.add hr hk
  · rintro ρ ⟨done, left, z, e, er, hd, rfl⟩
    have : left = [] := by
      cases left with
      | nil => rfl
      | cons _ _ => cases er
    subst this
    rw [List.append_nil] at e
    subst e
    simp [wS, wX, wT, wA, wO, wI, sem, ofV, ofI, lookV, lookB, lookO, sl0, blW, intW, lstW, truW, objW, X.isNil, List.getElem?_cons_zero, List.getElem?_cons_succ]
    exact h
  · exact ⟨[], L, .un, rfl, rfl, ⟨0, by rw [Rat.zero_divInt]; rfl, Nat.zero_le _⟩, by simp [totR, rD_zero]; rfl⟩
end LW
/-! fractions handed in, comers, over data. -/
namespace LW
open PySem PySem.Spec L2 Q
open scoped Rat
variable {Phy : List Fn}
/-- its items are plain too -/
def GF (d : D) : Prop := D.gen d = true ∧ ∀ xs, d.seq = some xs → ∀ x ∈ xs, D.gen x = true
def isFr (d : D) : Bool := match d.seq with
  | some [a, b] => isW a && isPos b
  | _ => false
theorem isL_of {d : D} {xs : List D} (h : d.seq = some xs) : isL d = true := by
  cases d <;> first | rfl | cases h
theorem not_isL {d : D} (h : d.seq = none) : isL d = false := by
  cases d <;> first | rfl | cases h
theorem gen_fn {d : D} (h : D.gen d = true) : (D.gen d || D.isFn d) = true := by rw [h]; rfl
def F_is_fraction : Fn := { name := "is_fraction", ps := ["thing"], sp := fun ds n Q _ => ∃ d, ds = [d] ∧ GF d ∧ Q (.bl (isFr d)) n }
theorem eq_int2 {a b : Int} {Q : Bool → Prop} : cmpW .eq (.int a) (.int b) Q ↔ Q (decide (a = b)) := by
  show (_ ∧ _ ∧ Q (deq (.int a) (.int b))) ↔ _
  rw [deq_int]
  exact ⟨fun h => h.2.2, fun h => ⟨rfl, rfl, h⟩⟩
theorem sx0 {d x : D} {xs : List D} (h : d.seq = some (x :: xs)) {Q : D → Prop} : idxW d (.int 0) Q ↔ Q x := (idx_seq h).trans ⟨fun ⟨d, e, q⟩ => by rw [at0] at e; cases e; exact q, fun q => ⟨_, at0, q⟩⟩
theorem sx1 {d x y : D} {xs : List D} (h : d.seq = some (x :: y :: xs)) {Q : D → Prop} : idxW d (.int 1) Q ↔ Q y := (idx_seq h).trans ⟨fun ⟨d, e, q⟩ => by rw [at1] at e; cases e; exact q, fun q => ⟨_, at1, q⟩⟩
theorem does_is_fraction (h1 : Phy[f_is_list]? = some F_is_list) (h2 : Phy[f_is_whole]? = some F_is_whole) (h3 : Phy[f_is_positive]? = some F_is_positive) : Does Phy N_is_fraction F_is_fraction s_is_fraction := by
  rintro ds n Qd Ed hl ⟨d, rfl, g, h⟩
  clear hl
  cases hs : d.seq with
  | none =>
    have e : isFr d = false := by unfold isFr; rw [hs]
    rw [e] at h
    simp [s_is_fraction, N_is_fraction, wS, wX, wT, wA, wO, wI, sem, ofV, ofI, lookV, lookB, lookO, sl0, blW, intW, lstW, truW, objW, X.isNil, List.getElem?_cons_zero, List.getElem?_cons_succ, call_is h1, F_is_list, not_isL hs, g.1]
    exact h
  | some xs =>
    simp [s_is_fraction, N_is_fraction, wS, wX, wT, wA, wO, wI, sem, ofV, ofI, lookV, lookB, lookO, sl0, blW, intW, lstW, truW, objW, X.isNil, List.getElem?_cons_zero, List.getElem?_cons_succ, call_is h1, F_is_list, isL_of hs, g.1, len_seq hs, eq_int2]
    match xs, hs with
    | [], hs =>
      have e : isFr d = false := by unfold isFr; rw [hs]
      rw [e] at h
      simp
      exact h
    | [x], hs =>
      have e : isFr d = false := by unfold isFr; rw [hs]
      rw [e] at h
      simp
      exact h
    | x :: y :: z :: xs, hs =>
      have e : isFr d = false := by unfold isFr; rw [hs]
      rw [e] at h
      have e2 : ¬ ((x :: y :: z :: xs).length : Int) = 2 := by simp only [List.length_cons]; omega
      rw [decide_eq_false e2]
      simp
      exact h
    | [x, y], hs =>
      have e : isFr d = (isW x && isPos y) := by unfold isFr; rw [hs]
      rw [e] at h
      have gx := g.2 _ hs x (by simp)
      have gy := g.2 _ hs y (by simp)
      simp [sx0 hs, sx1 hs]
      refine (call_is h2).mpr ⟨rfl, x, rfl, gx, ?_⟩
      cases hx : isW x
      · rw [hx] at h
        simp [wS, wX, wT, wA, wO, wI, sem, ofV, ofI, lookV, lookB, lookO, sl0, blW, intW, lstW, truW, objW, X.isNil, List.getElem?_cons_zero, List.getElem?_cons_succ]
        exact h
      · rw [hx] at h
        simp [wS, wX, wT, wA, wO, wI, sem, ofV, ofI, lookV, lookB, lookO, sl0, blW, intW, lstW, truW, objW, X.isNil, List.getElem?_cons_zero, List.getElem?_cons_succ, sx1 hs]
        refine (call_is h3).mpr ⟨rfl, y, rfl, gy, ?_⟩
        exact h
/-- no less than nothing -/
def isHp (d : D) : Bool := match d.seq with
  | some [a, b] => (isW a && isPos b) && decide (0 ≤ intD a)
  | _ => false
def F_is_heap : Fn := { name := "is_heap", ps := ["thing"], sp := fun ds n Q _ => ∃ d, ds = [d] ∧ GF d ∧ Q (.bl (isHp d)) n }
theorem isW_int {d : D} (h : isW d = true) : d = .int (intD d) := by
  cases d <;> first | rfl | cases h
theorem isHp_fr {d : D} (h : isFr d = false) : isHp d = false := by
  unfold isFr at h
  unfold isHp
  split <;> simp_all
theorem does_is_heap (h1 : Phy[f_is_fraction]? = some F_is_fraction) : Does Phy N_is_heap F_is_heap s_is_heap := by
  rintro ds n Qd Ed hl ⟨d, rfl, g, h⟩
  clear hl
  simp [s_is_heap, N_is_heap, wS, wX, wT, wA, wO, wI, sem, ofV, ofI, lookV, lookB, lookO, sl0, blW, intW, lstW, truW, objW, X.isNil, List.getElem?_cons_zero, List.getElem?_cons_succ]
  refine (call_is h1).mpr ⟨rfl, d, rfl, g, ?_⟩
  cases hf : isFr d with
  | false =>
    have e : isHp d = false := isHp_fr hf
    rw [e] at h
    simp [wS, wX, wT, wA, wO, wI, sem, ofV, ofI, lookV, lookB, lookO, sl0, blW, intW, lstW, truW, objW, X.isNil, List.getElem?_cons_zero, List.getElem?_cons_succ]
    exact h
  | true =>
    unfold isFr at hf
    split at hf
    · rename_i a b hs
      rw [Bool.and_eq_true] at hf
      have ea := isW_int hf.1
      have e : isHp d = decide (0 ≤ intD a) := by
        unfold isHp
        rw [hs]
        simp [hf.1, hf.2]
      rw [e] at h
      have hs' := hs
      rw [ea] at hs'
      have ge : ∀ {a b : Int} {Q : Bool → Prop}, cmpW .ge (.int a) (.int b) Q ↔ Q (decide (b ≤ a)) := Iff.rfl
      simp [wS, wX, wT, wA, wO, wI, sem, ofV, ofI, lookV, lookB, lookO, sl0, blW, intW, lstW, truW, objW, X.isNil, List.getElem?_cons_zero, List.getElem?_cons_succ, sx0 hs', ge]
      exact h
    · cases hf
theorem hp_raw {d : D} (h : isHp d = true) : ∃ t b : Int, d.seq = some [.int t, .int b] ∧ 0 < b ∧ 0 ≤ t := by
  unfold isHp at h
  split at h
  · rename_i a b hs
    rw [Bool.and_eq_true, Bool.and_eq_true] at h
    obtain ⟨⟨h1, h2⟩, h3⟩ := h
    unfold isPos at h2
    rw [Bool.and_eq_true] at h2
    have ea := isW_int h1
    have eb := isW_int h2.1
    have hb := of_decide_eq_true h2.2
    exact ⟨intD a, intD b, by rw [← ea, ← eb]; exact hs, by omega, of_decide_eq_true h3⟩
  · cases h
def F_told : Fn := { name := "told", ps := ["thing"], sp := fun ds n Q _ => ∃ (d : D) (q : Rat), ds = [d] ∧ Raw d q ∧ Q (rD q) n }
theorem does_told (h1 : Phy[f_lowest]? = some F_lowest) : Does Phy N_told F_told s_told := by
  rintro ds n Qd Ed hl ⟨d, q, rfl, ⟨t, b, e1, b1, rfl, s1, s2⟩, h⟩
  clear hl
  simp [s_told, N_told, wS, wX, wT, wA, wO, wI, sem, ofV, ofI, lookV, lookB, lookO, sl0, blW, intW, lstW, truW, objW, X.isNil, List.getElem?_cons_zero, List.getElem?_cons_succ, sx0 e1, sx1 e1]
  exact c_lowest h1 b1 (Nat.lt_of_lt_of_le s2 (Nat.pow_le_pow_right (by decide) (by decide))) h
def F_checked_moment : Fn := { name := "checked_moment", ps := ["thing"], sp := fun ds n Q E => ∃ d, ds = [d] ∧ GF d ∧ (isHp d = false → E ⟨1, [d]⟩ n) ∧ (isHp d = true → ∃ q, Raw d q ∧ Q (rD q) n) }
theorem does_checked_moment (h1 : Phy[f_is_heap]? = some F_is_heap) (h2 : Phy[f_told]? = some F_told) : Does Phy N_checked_moment F_checked_moment s_checked_moment := by
  rintro ds n Qd Ed hl ⟨d, rfl, g, hE, hQ⟩
  clear hl
  simp [s_checked_moment, N_checked_moment, wS, wX, wT, wA, wO, wI, sem, ofV, ofI, lookV, lookB, lookO, sl0, blW, intW, lstW, truW, objW, X.isNil, List.getElem?_cons_zero, List.getElem?_cons_succ]
  refine (call_is h1).mpr ⟨rfl, d, rfl, g, ?_⟩
  cases hh : isHp d with
  | false =>
    simp [wS, wX, wT, wA, wO, wI, sem, ofV, ofI, lookV, lookB, lookO, sl0, blW, intW, lstW, truW, objW, X.isNil, List.getElem?_cons_zero, List.getElem?_cons_succ]
    exact hE hh
  | true =>
    obtain ⟨q, r, hq⟩ := hQ hh
    simp [wS, wX, wT, wA, wO, wI, sem, ofV, ofI, lookV, lookB, lookO, sl0, blW, intW, lstW, truW, objW, X.isNil, List.getElem?_cons_zero, List.getElem?_cons_succ]
    exact (call_is h2).mpr ⟨rfl, d, q, rfl, r, hq⟩
end LW
/-! comers, over data. -/
namespace LW
open PySem PySem.Spec L2 Q
open scoped Rat
variable {Phy : List Fn}
def isCm (x : D) : Bool := match x.seq with
  | some [a, b] => isHp a && isHp b
  | _ => false
/-- a fraction's value -/
def qOf (d : D) : Rat := match d.seq with
  | some [.int t, .int b] => t /. b
  | _ => 0
/-- plain, its numbers of no great size -/
structure GB (d : D) : Prop where
  g : GF d
  s : ∀ t b : Int, d.seq = some [.int t, .int b] → t.natAbs < 2 ^ 4000 ∧ b.natAbs < 2 ^ 4000
structure GM (x : D) : Prop where
  g : D.gen x = true
  i : ∀ xs, x.seq = some xs → ∀ y ∈ xs, GB y
theorem GB.raw {d : D} (g : GB d) (h : isHp d = true) : Raw d (qOf d) := by
  obtain ⟨t, b, e, hb, _⟩ := hp_raw h
  obtain ⟨s1, s2⟩ := g.s t b e
  refine ⟨t, b, e, hb, ?_, s1, s2⟩
  unfold qOf
  rw [e]
def F_is_comer : Fn := { name := "is_comer", ps := ["thing"], sp := fun ds n Q _ => ∃ x, ds = [x] ∧ GM x ∧ Q (.bl (isCm x)) n }
theorem does_is_comer (h1 : Phy[f_is_list]? = some F_is_list) (h2 : Phy[f_is_heap]? = some F_is_heap) : Does Phy N_is_comer F_is_comer s_is_comer := by
  rintro ds n Qd Ed hl ⟨d, rfl, g, h⟩
  clear hl
  cases hs : d.seq with
  | none =>
    have e : isCm d = false := by unfold isCm; rw [hs]
    rw [e] at h
    simp [s_is_comer, N_is_comer, wS, wX, wT, wA, wO, wI, sem, ofV, ofI, lookV, lookB, lookO, sl0, blW, intW, lstW, truW, objW, X.isNil, List.getElem?_cons_zero, List.getElem?_cons_succ, call_is h1, F_is_list, not_isL hs, g.g]
    exact h
  | some xs =>
    simp [s_is_comer, N_is_comer, wS, wX, wT, wA, wO, wI, sem, ofV, ofI, lookV, lookB, lookO, sl0, blW, intW, lstW, truW, objW, X.isNil, List.getElem?_cons_zero, List.getElem?_cons_succ, call_is h1, F_is_list, isL_of hs, g.g, len_seq hs, eq_int2]
    match xs, hs with
    | [], hs =>
      have e : isCm d = false := by unfold isCm; rw [hs]
      rw [e] at h
      simp
      exact h
    | [x], hs =>
      have e : isCm d = false := by unfold isCm; rw [hs]
      rw [e] at h
      simp
      exact h
    | x :: y :: z :: xs, hs =>
      have e : isCm d = false := by unfold isCm; rw [hs]
      rw [e] at h
      have e2 : ¬ ((x :: y :: z :: xs).length : Int) = 2 := by simp only [List.length_cons]; omega
      rw [decide_eq_false e2]
      simp
      exact h
    | [x, y], hs =>
      have e : isCm d = (isHp x && isHp y) := by unfold isCm; rw [hs]
      rw [e] at h
      have gx := (g.i _ hs x (by simp)).g
      have gy := (g.i _ hs y (by simp)).g
      simp [sx0 hs, sx1 hs]
      refine (call_is h2).mpr ⟨rfl, x, rfl, gx, ?_⟩
      cases hx : isHp x
      · rw [hx] at h
        simp [wS, wX, wT, wA, wO, wI, sem, ofV, ofI, lookV, lookB, lookO, sl0, blW, intW, lstW, truW, objW, X.isNil, List.getElem?_cons_zero, List.getElem?_cons_succ]
        exact h
      · rw [hx] at h
        simp [wS, wX, wT, wA, wO, wI, sem, ofV, ofI, lookV, lookB, lookO, sl0, blW, intW, lstW, truW, objW, X.isNil, List.getElem?_cons_zero, List.getElem?_cons_succ, sx1 hs]
        refine (call_is h2).mpr ⟨rfl, y, rfl, gy, ?_⟩
        exact h
def c0 (x : D) : D := match x.seq with
  | some (a :: _) => a
  | _ => .non
def c1 (x : D) : D := match x.seq with
  | some [_, b] => b
  | _ => .non
def num (d : D) : Int := match d.seq with
  | some (.int t :: _) => t
  | _ => 0
/-- where the first bad comer stands -/
def badF : Option D → Nat → List D → Option Nat
  | _, _, [] => none
  | ah, i, x :: xs => if isCm x = false ∨ (ah = none ∧ num (c0 x) ≠ 0) then some i else
      match ah with
      | some a => if qOf a < qOf (c0 x) then badF (some (c0 x)) (i + 1) xs else some i
      | none => badF (some (c0 x)) (i + 1) xs
theorem badF_n {j : Nat} {y : D} {ys : List D} (h1 : isCm y = true) (h2 : num (c0 y) = 0) : badF none j (y :: ys) = badF (some (c0 y)) (j + 1) ys := by
  conv => lhs; unfold badF
  rw [if_neg (by rw [h1, h2]; simp)]
theorem badF_s {j : Nat} {p y : D} {ys : List D} (h1 : isCm y = true) (h2 : qOf p < qOf (c0 y)) : badF (some p) j (y :: ys) = badF (some (c0 y)) (j + 1) ys := by
  conv => lhs; unfold badF
  rw [if_neg (by rw [h1]; simp)]
  show (if qOf p < qOf (c0 y) then _ else _) = _
  rw [if_pos h2]
theorem cm_raw {x : D} (g : GM x) (h : isCm x = true) : ∃ a b : D, x.seq = some [a, b] ∧ c0 x = a ∧ c1 x = b ∧ isHp a = true ∧ isHp b = true ∧ GB a ∧ GB b := by
  unfold isCm at h
  split at h
  · rename_i a b hs
    rw [Bool.and_eq_true] at h
    exact ⟨a, b, hs, by unfold c0; rw [hs], by unfold c1; rw [hs], h.1, h.2, g.i _ hs a (by simp), g.i _ hs b (by simp)⟩
  · cases h
theorem enum_drop' {ys : List D} {j : Nat} {x : D} {rest : List D} (h : x :: rest = (enumD ys).drop j) : ∃ y, j < ys.length ∧ x = .tup [.int j, y] ∧ rest = (enumD ys).drop (j + 1) ∧ ys.drop j = y :: ys.drop (j + 1) := by
  have hl : (enumD ys).length = ys.length := by
    unfold enumD
    rw [List.length_map, List.length_range]
  by_cases z : j < (enumD ys).length
  · rw [List.drop_eq_getElem_cons z] at h
    have h1 := (List.cons.inj h).1
    have hj : j < ys.length := by omega
    refine ⟨ys[j], hj, ?_, (List.cons.inj h).2, List.drop_eq_getElem_cons hj⟩
    have h2 : (enumD ys)[j]? = some (.tup [.int j, ys.getD j .non]) := by
      unfold enumD
      rw [List.getElem?_map, List.getElem?_range (by omega)]
      rfl
    rw [List.getElem?_eq_getElem z, ← h1, List.getD_eq_getElem?_getD, List.getElem?_eq_getElem hj] at h2
    exact Option.some.inj h2
  · rw [List.drop_eq_nil_of_le (by omega)] at h
    cases h
theorem enum_end {ys : List D} {j : Nat} (h : [] = (enumD ys).drop j) : ys.drop j = [] := by
  have := congrArg List.length h
  unfold enumD at this
  simp at this
  exact List.drop_eq_nil_of_le (by omega)
def comersOk (d : D) (xs : List D) : Prop := d.seq = some xs ∧ xs ≠ [] ∧ xs.length ≤ 1000 ∧ ∀ x ∈ xs, GM x
def ofBad : Option Nat → D
  | some i => .int i
  | none => .non
def F_bad_comers : Fn := { name := "bad_comers", ps := ["comers"], sp := fun ds n Q _ => ∃ d, ds = [d] ∧ (D.gen d || D.isFn d) = true ∧ ((d.seq = none ∨ d.seq = some []) ∧ Q (.int 0) n ∨ ∃ xs, comersOk d xs ∧ Q (ofBad (badF none 0 xs)) n) }
theorem isnn_of {a : D} {xs : List D} (h : a.seq = some xs) {Q : Bool → Prop} : (cmpW .is_ a .non Q ↔ Q false) ∧ (cmpW .isnot a .non Q ↔ Q true) := by
  cases a <;> first | (exact ⟨Iff.rfl, Iff.rfl⟩) | cases h
theorem ne_int2 {a b : Int} {Q : Bool → Prop} : cmpW .ne (.int a) (.int b) Q ↔ Q (!decide (a = b)) := by
  show (_ ∧ _ ∧ Q (!deq (.int a) (.int b))) ↔ _
  rw [deq_int]
  exact ⟨fun h => h.2.2, fun h => ⟨rfl, rfl, h⟩⟩
theorem is_nn {Q : Bool → Prop} : (cmpW .is_ .non .non Q ↔ Q true) ∧ (cmpW .isnot .non .non Q ↔ Q false) := ⟨Iff.rfl, Iff.rfl⟩
def bcb : S := match s_bad_comers with
  | .sq _ (.sq _ (.sq (.for_ _ _ b) _)) => b
  | _ => .nl
theorem s_bad_eq : s_bad_comers = (.sq (.iff (.boo false (.cons (.not_ (.call f_is_list (.cons (.var 0) .nil))) (.cons (.cmp .eq (.bi .len (.cons (.var 0) .nil)) (.int 0)) .nil))) (.sq (.ret (.int 0)) .nl) .nl) (.sq (.asg 1 .non) (.sq (.for_ (.tp (.cons (.nm 2) (.cons (.nm 3) .nil))) (.ite_ (.var 0)) bcb) (.sq (.ret .non) .nl)))) := rfl
theorem does_bad_comers (h1 : Phy[f_is_list]? = some F_is_list) (h2 : Phy[f_is_comer]? = some F_is_comer) (h3 : Phy[f_is_below]? = some F_is_below) : Does Phy N_bad_comers F_bad_comers s_bad_comers := by
  rintro ds n Qd Ed hl ⟨d, rfl, g, h⟩
  clear hl
  rw [s_bad_eq]
  have g : D.gen d = true ∨ D.isFn d = true := by simpa using g
  rcases h with ⟨hs, h⟩ | ⟨xs, ⟨hs, hne, hlen, hg⟩, h⟩
  · rcases hs with hs | hs
    · simp [N_bad_comers, wS, wX, wT, wA, wO, wI, sem, ofV, ofI, lookV, lookB, lookO, sl0, blW, intW, lstW, truW, objW, X.isNil, List.getElem?_cons_zero, List.getElem?_cons_succ, call_is h1, F_is_list, not_isL hs, g]
      exact h
    · simp [N_bad_comers, wS, wX, wT, wA, wO, wI, sem, ofV, ofI, lookV, lookB, lookO, sl0, blW, intW, lstW, truW, objW, X.isNil, List.getElem?_cons_zero, List.getElem?_cons_succ, call_is h1, F_is_list, isL_of hs, g, len_seq hs, eq_int2]
      exact h
  · have ln : ¬ (xs.length : Int) = 0 := by
      cases xs with
      | nil => exact absurd rfl hne
      | cons _ _ => simp only [List.length_cons]; omega
    simp [N_bad_comers, wS, wX, wT, wA, wO, wI, sem, ofV, ofI, lookV, lookB, lookO, sl0, blW, intW, lstW, truW, objW, X.isNil, List.getElem?_cons_zero, List.getElem?_cons_succ, call_is h1, F_is_list, isL_of hs, g, len_seq hs, eq_int2, hne, seqW_of hs]
    refine forL_ind (fun rest ρ => ∃ (j : Nat) (ah : Option D) (z2 z3 : Slot), rest = (enumD xs).drop j ∧ badF ah j (xs.drop j) = badF none 0 xs ∧ (∀ a, ah = some a → isHp a = true ∧ GB a) ∧ ρ = ⟨[.val d, .val (ah.getD .non), z2, z3], n⟩) ?_ ?_ ?_
    · rintro x rest ρ kk ⟨j, ah, z2, z3, er, eb, hah, rfl⟩ hkk
      obtain ⟨y, hj, rfl, er2, ed⟩ := enum_drop' er
      have gy : GM y := hg y (by
        have : y ∈ xs.drop j := by rw [ed]; exact List.mem_cons_self
        exact List.drop_subset _ _ this)
      rw [ed] at eb
      unfold bcb s_bad_comers
      simp [wTgs, wTg, wS, wX, wT, wA, wO, wI, sem, ofV, ofI, lookV, lookB, lookO, sl0, blW, intW, lstW, truW, objW, X.isNil, List.getElem?_cons_zero, List.getElem?_cons_succ]
      refine (call_is h2).mpr ⟨rfl, y, rfl, gy, ?_⟩
      cases hc : isCm y with
      | false =>
        have e : badF ah j (y :: xs.drop (j + 1)) = some j := by
          unfold badF
          rw [if_pos (.inl hc)]
        rw [e] at eb
        rw [← eb] at h
        simp [wS, wX, wT, wA, wO, wI, sem, ofV, ofI, lookV, lookB, lookO, sl0, blW, intW, lstW, truW, objW, X.isNil, List.getElem?_cons_zero, List.getElem?_cons_succ]
        exact h
      | true =>
        obtain ⟨a, b, hys, e0, e1, ha, hb, ga, gb⟩ := cm_raw gy hc
        obtain ⟨t, c, hts, hc0, ht0⟩ := hp_raw ha
        have hnum : num (c0 y) = t := by
          rw [e0]
          unfold num
          rw [hts]
        simp [wS, wX, wT, wA, wO, wI, sem, ofV, ofI, lookV, lookB, lookO, sl0, blW, intW, lstW, truW, objW, X.isNil, List.getElem?_cons_zero, List.getElem?_cons_succ]
        cases ah with
        | none =>
          simp [is_nn.1, is_nn.2, wS, wX, wT, wA, wO, wI, sem, ofV, ofI, lookV, lookB, lookO, sl0, blW, intW, lstW, truW, objW, X.isNil, List.getElem?_cons_zero, List.getElem?_cons_succ, sx0 hys, sx0 hts, ne_int2]
          by_cases z : t = 0
          · simp [z, wS, wX, wT, wA, wO, wI, sem, ofV, ofI, lookV, lookB, lookO, sl0, blW, intW, lstW, truW, objW, X.isNil, List.getElem?_cons_zero, List.getElem?_cons_succ, is_nn.2, sx0 hys]
            refine hkk _ ⟨j + 1, some a, _, _, er2, ?_, fun a' e => by cases e; exact ⟨ha, ga⟩, rfl⟩
            rw [← eb, badF_n hc (by rw [hnum]; exact z), e0]
          · simp [z, wS, wX, wT, wA, wO, wI, sem, ofV, ofI, lookV, lookB, lookO, sl0, blW, intW, lstW, truW, objW, X.isNil, List.getElem?_cons_zero, List.getElem?_cons_succ]
            have e : badF none j (y :: xs.drop (j + 1)) = some j := by
              unfold badF
              rw [if_pos (.inr ⟨rfl, by rw [hnum]; exact z⟩)]
            rw [e] at eb
            rw [← eb] at h
            exact h
        | some p =>
          obtain ⟨hp, gp⟩ := hah p rfl
          obtain ⟨t', c', hps, _, _⟩ := hp_raw hp
          simp [(isnn_of hps).1, (isnn_of hps).2, wS, wX, wT, wA, wO, wI, sem, ofV, ofI, lookV, lookB, lookO, sl0, blW, intW, lstW, truW, objW, X.isNil, List.getElem?_cons_zero, List.getElem?_cons_succ, sx0 hys]
          refine (call_is h3).mpr ⟨rfl, p, a, _, _, rfl, gp.raw hp, ga.raw ha, ?_⟩
          by_cases z : qOf p < qOf a
          · simp [z, wS, wX, wT, wA, wO, wI, sem, ofV, ofI, lookV, lookB, lookO, sl0, blW, intW, lstW, truW, objW, X.isNil, List.getElem?_cons_zero, List.getElem?_cons_succ, sx0 hys]
            refine hkk _ ⟨j + 1, some a, _, _, er2, ?_, fun a' e => by cases e; exact ⟨ha, ga⟩, rfl⟩
            rw [← eb, badF_s hc (by rw [e0]; exact z), e0]
          · simp [z, wS, wX, wT, wA, wO, wI, sem, ofV, ofI, lookV, lookB, lookO, sl0, blW, intW, lstW, truW, objW, X.isNil, List.getElem?_cons_zero, List.getElem?_cons_succ]
            have e : badF (some p) j (y :: xs.drop (j + 1)) = some j := by
              unfold badF
              rw [if_neg (by rw [hc]; simp), e0]
              simp [z]
            rw [e] at eb
            rw [← eb] at h
            exact h
    · rintro ρ ⟨j, ah, z2, z3, er, eb, hah, rfl⟩
      rw [enum_end er] at eb
      have e : badF ah j [] = none := by
        unfold badF
        rfl
      rw [e] at eb
      rw [← eb] at h
      simp [wS, wX, wT, wA, wO, wI, sem, ofV, ofI, lookV, lookB, lookO, sl0, blW, intW, lstW, truW, objW, X.isNil, List.getElem?_cons_zero, List.getElem?_cons_succ]
      exact h
    · exact ⟨0, none, .un, .un, rfl, rfl, (fun a e => by cases e), rfl⟩
end LW
/-! comers as they are kept, over data. -/
namespace LW
open PySem PySem.Spec L2 Q
open scoped Rat
variable {Phy : List Fn}
abbrev Cms := List (Rat × Rat)
def cmD (p : Rat × Rat) : D := .tup [rD p.1, rD p.2]
abbrev cL (L : Cms) : D := .lst 0 (L.map cmD)
/-- one more comer is kept, unless its rate goes on -/
def kp1 (acc : Cms) (p : Rat × Rat) : Cms := if (acc.getLast?.map Prod.snd) = some p.2 then acc else acc ++ [p]
def kpF (acc : Cms) (ps : Cms) : Cms := ps.foldl kp1 acc
def prs (xs : List D) : Cms := xs.map fun x => (qOf (c0 x), qOf (c1 x))
theorem rD_inj {p q : Rat} : rD p = rD q ↔ p = q := by
  constructor
  · intro h
    have h : D.tup [.int p.num, .int (p.den : Int)] = .tup [.int q.num, .int (q.den : Int)] := h
    injection h with h
    injection h with h1 h2
    injection h1 with h1
    injection h2 with h2 _
    injection h2 with h2
    exact Rat.ext h1 (by omega)
  · rintro rfl
    rfl
theorem deq_rD {p q : Rat} : deq (rD p) (rD q) = decide (p = q) := by
  have e : deq (rD p) (rD q) = (decide (p.num = q.num) && (decide ((p.den : Int) = (q.den : Int)) && true)) := by
    show PyData.eqv (.tuple [.int p.num, .int (p.den : Int)]) (.tuple [.int q.num, .int (q.den : Int)]) = _
    simp [PyData.eqv, PyData.eqvAll]
    rfl
  rw [e]
  by_cases h : p = q
  · subst h
    simp
  · rw [decide_eq_false h]
    by_cases h1 : p.num = q.num
    · have h2 : ¬ p.den = q.den := fun z => h (Rat.ext h1 z)
      have h3 : ¬ (p.den : Int) = (q.den : Int) := fun z => h2 (by omega)
      rw [decide_eq_false h3]
      simp
    · rw [decide_eq_false h1]
      rfl
theorem neW_rD {p q : Rat} {Q : Bool → Prop} : cmpW .ne (rD p) (rD q) Q ↔ Q (!decide (p = q)) := by
  show (_ ∧ _ ∧ Q (!deq (rD p) (rD q))) ↔ _
  rw [deq_rD]
  exact ⟨fun h => h.2.2, fun h => ⟨rfl, rfl, h⟩⟩
theorem at_m1 {x : D} {xs : List D} : atI (xs ++ [x]) (-1) = some x := by
  unfold atI ixN
  rw [if_neg (by decide), if_pos (by simp only [List.length_append, List.length_singleton]; omega)]
  have e : ((-1 : Int) + ((xs ++ [x]).length : Nat)).toNat = xs.length := by
    simp only [List.length_append, List.length_singleton]
    omega
  rw [e]
  show (xs ++ [x])[xs.length]? = _
  rw [List.getElem?_append_right (Nat.le_refl _), Nat.sub_self]
  rfl
def ccb : S := match s_checked_comers with
  | .sq _ (.sq _ (.sq _ (.sq (.for_ _ _ b) _))) => b
  | _ => .nl
theorem s_cc_eq : s_checked_comers = (.sq (.asg 1 (.call f_bad_comers (.cons (.var 0) .nil))) (.sq (.iff (.cmp .isnot (.var 1) .non) (.sq (.rai 2 (.cons (.var 1) .nil)) .nl) .nl) (.sq (.asgO 2 (.lst .nil)) (.sq (.for_ (.tp (.cons (.nm 3) (.cons (.nm 4) .nil))) (.itl (.var 0)) ccb) (.sq (.frz 2) (.sq (.ret (.var 2)) .nl)))))) := rfl
def tupOk2 (xs : List D) : Prop := ∀ x ∈ xs, ∃ a b : D, x = .tup [a, b]
def F_checked_comers : Fn := { name := "checked_comers", ps := ["comers"], sp := fun ds n Q E => ∃ d, ds = [d] ∧ (D.gen d || D.isFn d) = true ∧ ((d.seq = none ∨ d.seq = some []) ∧ E ⟨2, [.int 0]⟩ n ∨ ∃ xs, comersOk d xs ∧ ((∃ i, badF none 0 xs = some i ∧ E ⟨2, [.int (i : Nat)]⟩ n) ∨ (badF none 0 xs = none ∧ Q (cL (kpF [] (prs xs))) n))) }
theorem badF_all {xs : List D} : ∀ {ah : Option D} {i : Nat}, badF ah i xs = none → ∀ x ∈ xs, isCm x = true := by
  induction xs with
  | nil => intro ah i _ x hx; cases hx
  | cons y ys ih =>
    intro ah i h x hx
    have hy : isCm y = true := by
      cases hc : isCm y with
      | true => rfl
      | false =>
        unfold badF at h
        rw [if_pos (.inl hc)] at h
        cases h
    rcases List.mem_cons.mp hx with rfl | hx
    · exact hy
    · unfold badF at h
      split at h
      · cases h
      · split at h
        · split at h
          · exact ih h x hx
          · cases h
        · exact ih h x hx
/-- a pair is taken apart, a list or a tuple -/
theorem unp {x a b : D} {sl : Sl} {i j : Nat} {k : Sl → Prop} (h : x.seq = some [a, b]) (q : k ((sl.set i (.val a)).set j (.val b))) : wTg (.tp (.cons (.nm i) (.cons (.nm j) .nil))) x sl k := by
  cases x <;> first | (cases h; exact q) | cases h
theorem isnn_int {i : Int} {Q : Bool → Prop} : cmpW .isnot (.int i) .non Q ↔ Q true := Iff.rfl
theorem kpF_snoc {acc ps : Cms} {p : Rat × Rat} : kpF acc (ps ++ [p]) = kp1 (kpF acc ps) p := by
  unfold kpF
  rw [List.foldl_append]
  rfl
theorem does_checked_comers (h1 : Phy[f_bad_comers]? = some F_bad_comers) (h2 : Phy[f_told]? = some F_told) : Does Phy N_checked_comers F_checked_comers s_checked_comers := by
  rintro ds n Qd Ed hl ⟨d, rfl, g, h⟩
  clear hl
  rw [s_cc_eq]
  rcases h with ⟨hs, h⟩ | ⟨xs, ok, h⟩
  · simp [N_checked_comers, wS, wX, wT, wA, wO, wI, sem, ofV, ofI, lookV, lookB, lookO, sl0, blW, intW, lstW, truW, objW, X.isNil, List.getElem?_cons_zero, List.getElem?_cons_succ]
    refine (call_is h1).mpr ⟨rfl, d, rfl, g, .inl ⟨hs, ?_⟩⟩
    simp [wS, wX, wT, wA, wO, wI, sem, ofV, ofI, lookV, lookB, lookO, sl0, blW, intW, lstW, truW, objW, X.isNil, List.getElem?_cons_zero, List.getElem?_cons_succ, isnn_int]
    exact h
  · simp [N_checked_comers, wS, wX, wT, wA, wO, wI, sem, ofV, ofI, lookV, lookB, lookO, sl0, blW, intW, lstW, truW, objW, X.isNil, List.getElem?_cons_zero, List.getElem?_cons_succ]
    refine (call_is h1).mpr ⟨rfl, d, rfl, g, .inr ⟨xs, ok, ?_⟩⟩
    obtain ⟨hs, hne, hlen, hg⟩ := ok
    rcases h with ⟨i, hb, h⟩ | ⟨hb, h⟩
    · rw [hb]
      simp [ofBad, wS, wX, wT, wA, wO, wI, sem, ofV, ofI, lookV, lookB, lookO, sl0, blW, intW, lstW, truW, objW, X.isNil, List.getElem?_cons_zero, List.getElem?_cons_succ, isnn_int]
      exact h
    · rw [hb]
      simp [ofBad, wS, wX, wT, wA, wO, wI, sem, ofV, ofI, lookV, lookB, lookO, sl0, blW, intW, lstW, truW, objW, X.isNil, List.getElem?_cons_zero, List.getElem?_cons_succ, is_nn.2, seqW_of hs]
      refine forL_ind (fun rest ρ => ∃ (done left : List D) (z3 z4 : Slot), rest = left ∧ xs = done ++ left ∧ ρ = ⟨[.val d, .val .non, .own ((kpF [] (prs done)).map cmD), z3, z4], n⟩) ?_ ?_ ?_
      · rintro x rest ρ kk ⟨done, left, z3, z4, er, ex, rfl⟩ hkk
        subst er
        have hx : x ∈ xs := by rw [ex]; simp
        obtain ⟨a, b, hys, e0, e1, ha, hb', ga, gb⟩ := cm_raw (hg x hx) (badF_all hb x hx)
        refine unp hys ?_
        have ep : prs (done ++ [x]) = prs done ++ [(qOf a, qOf b)] := by
          unfold prs
          rw [List.map_append, List.map_singleton, e0, e1]
        have fin : ∀ acc : Cms, acc = kpF [] (prs (done ++ [x])) → kk ⟨[.val d, .val .non, .own (acc.map cmD), .val a, .val b], n⟩ := fun acc e => hkk _ ⟨done ++ [x], rest, .val a, .val b, rfl, by rw [ex]; simp, by rw [e]⟩
        have hacc : (kpF [] (prs done)).length ≤ done.length := by
          have key : ∀ (ps acc : Cms), (kpF acc ps).length ≤ acc.length + ps.length := by
            intro ps
            induction ps with
            | nil => intro acc; exact Nat.le_refl _
            | cons p ps ih =>
              intro acc
              have := ih (kp1 acc p)
              have h2 : (kp1 acc p).length ≤ acc.length + 1 := by
                unfold kp1
                split
                · omega
                · rw [List.length_append]; exact Nat.le_refl _
              show (kpF (kp1 acc p) ps).length ≤ _
              rw [List.length_cons]
              omega
          have := key (prs done) []
          unfold prs at this ⊢
          rw [List.length_map] at this
          simpa using this
        have hdl : done.length ≤ 1000 := by
          have := congrArg List.length ex
          rw [List.length_append] at this
          omega
        rw [ep, kpF_snoc] at fin
        generalize kpF [] (prs done) = acc at fin hacc
        have app : ∀ h : ¬ (acc.getLast?.map Prod.snd) = some (qOf b), callW Phy f_told [a] n (fun x n => callW Phy f_told [b] n (fun y n => 2 ≤ sizeMax ∧ (acc.map cmD).length < sizeMax ∧ kk ⟨[.val d, .val .non, .own (acc.map cmD ++ [.tup [x, y]]), .val a, .val b], n⟩) (fun e n => Ed e n)) (fun e n => Ed e n) := fun hn => by
          refine (call_is h2).mpr ⟨rfl, a, _, rfl, ga.raw ha, ?_⟩
          refine (call_is h2).mpr ⟨rfl, b, _, rfl, gb.raw hb', ?_⟩
          refine ⟨by simp [sizeMax], by rw [List.length_map]; show _ < 1000000; omega, ?_⟩
          have := fin (acc ++ [(qOf a, qOf b)]) (by unfold kp1; rw [if_neg hn])
          rw [List.map_append] at this
          exact this
        unfold ccb s_checked_comers
        rcases List.eq_nil_or_concat acc with rfl | ⟨ini, p, rfl⟩
        · simp [wS, wX, wT, wA, wO, wI, sem, ofV, ofI, lookV, lookB, lookO, sl0, blW, intW, lstW, truW, objW, X.isNil, List.getElem?_cons_zero, List.getElem?_cons_succ]
          have := app (by simp)
          simpa [wS, wX, wT, wA, wO, wI, sem, ofV, ofI, lookV, lookB, lookO, sl0, blW, intW, lstW, truW, objW, X.isNil, List.getElem?_cons_zero, List.getElem?_cons_succ] using this
        · have lastp : ((ini.map cmD) ++ [cmD p]) = (ini ++ [p]).map cmD := by rw [List.map_append]; rfl
          simp [wS, wX, wT, wA, wO, wI, sem, ofV, ofI, lookV, lookB, lookO, sl0, blW, intW, lstW, truW, objW, X.isNil, List.getElem?_cons_zero, List.getElem?_cons_succ]
          refine ⟨cmD p, at_m1, rD p.2, at1, ?_⟩
          refine (call_is h2).mpr ⟨rfl, b, _, rfl, gb.raw hb', ?_⟩
          refine neW_rD.mpr ?_
          rw [List.concat_eq_append] at fin app
          by_cases z : p.2 = qOf b
          · simp [z]
            have := fin (ini ++ [p]) (by unfold kp1; rw [if_pos (by simp [z])])
            rw [← lastp] at this
            exact this
          · simp [z]
            have := app (by simp [z])
            simpa [wS, wX, wT, wA, wO, wI, sem, ofV, ofI, lookV, lookB, lookO, sl0, blW, intW, lstW, truW, objW, X.isNil, List.getElem?_cons_zero, List.getElem?_cons_succ, lookO] using this
      · rintro ρ ⟨done, left, z3, z4, er, ex, rfl⟩
        subst er
        rw [List.append_nil] at ex
        subst ex
        simp [wS, wX, wT, wA, wO, wI, sem, ofV, ofI, lookV, lookB, lookO, sl0, blW, intW, lstW, truW, objW, X.isNil, List.getElem?_cons_zero, List.getElem?_cons_succ]
        exact h
      · exact ⟨[], xs, .un, .un, rfl, rfl, rfl⟩
end LW
/-! the rate at a moment, over data. -/
namespace LW
open PySem PySem.Spec L2 Q
open scoped Rat
variable {Phy : List Fn}
theorem qOf_rD {p : Rat} : qOf (rD p) = p := rat_self p
def rateR (L : Cms) (m : Rat) : Option Rat := ((L.filter fun p => !decide (m < p.1)).getLast?).map Prod.snd
def rtF (m : Rat) : D → Option D
  | .tup [a, r] => if m < qOf a then none else some r
  | _ => none
theorem rt_fm {m : Rat} : ∀ L : Cms, (L.map cmD).filterMap (rtF m) = (L.filter fun p => !decide (m < p.1)).map fun p => rD p.2
  | [] => rfl
  | p :: L => by
    rw [List.map_cons, List.filterMap_cons, List.filter_cons]
    have e : rtF m (cmD p) = if m < p.1 then none else some (rD p.2) := by
      show (if m < qOf (rD p.1) then none else some (rD p.2)) = _
      rw [qOf_rD]
    rw [e]
    by_cases h : m < p.1
    · rw [if_pos h, if_neg (by simp [h])]
      exact rt_fm L
    · rw [if_neg h, if_pos (by simp [h]), List.map_cons, rt_fm L]
def SzL (k : Nat) (L : Cms) : Prop := ∀ p ∈ L, Sz k p.1 ∧ Sz k p.2
def spRate : DSp := fun ds n Q _ => ∃ (L : Cms) (m r : Rat), ds = [cL L, rD m] ∧ L.length ≤ 1000 ∧ SzL 4000 L ∧ SzM m ∧ rateR L m = some r ∧ Q (rD r) n
def F_rate_from : Fn := { name := "rate_from", ps := ["comers", "moment"], sp := spRate }
def F_lrate_at : Fn := { name := "_law_rate_at", ps := ["_law_comers_here", "_law_moment"], sp := spRate }
theorem c_below {p q : Rat} {n : Nat} {Q : D → Nat → Prop} {E : Exc → Nat → Prop} (h : Phy[f_is_below]? = some F_is_below) (hp : SzM p) (hq : SzM q) (k : Q (.bl (decide (p < q))) n) : callW Phy f_is_below [rD p, rD q] n Q E := (call_is h).mpr ⟨rfl, rD p, rD q, p, q, rfl, Raw.rD hp, Raw.rD hq, k⟩
theorem c_lbelow {p q : Rat} {n : Nat} {Q : D → Nat → Prop} {E : Exc → Nat → Prop} (h : Phy[f_law_is_below]? = some F_lbelow) (hp : SzM p) (hq : SzM q) (k : Q (.bl (decide (p < q))) n) : callW Phy f_law_is_below [rD p, rD q] n Q E := (call_is h).mpr ⟨rfl, p, q, rfl, hp, hq, k⟩
theorem last_of {L : Cms} {m r : Rat} (h : rateR L m = some r) : ∃ ini, ((L.filter fun p => !decide (m < p.1)).map fun p => rD p.2) = ini ++ [rD r] := by
  unfold rateR at h
  rcases List.eq_nil_or_concat (L.filter fun p => !decide (m < p.1)) with e | ⟨ini, p, e⟩
  · rw [e] at h
    cases h
  · rw [e] at h ⊢
    simp at h
    refine ⟨ini.map fun p => rD p.2, ?_⟩
    simp [h]
theorem does_rate_from (h1 : Phy[f_is_below]? = some F_is_below) : Does Phy N_rate_from F_rate_from s_rate_from := by
  rintro ds n Qd Ed hl ⟨L, m, r, rfl, hlen, hs, hm, hr, h⟩
  clear hl
  simp [s_rate_from, N_rate_from, wS, wX, wT, wA, wO, wI, sem, ofV, ofI, lookV, lookB, lookO, sl0, blW, intW, lstW, truW, objW, X.isNil, List.getElem?_cons_zero, List.getElem?_cons_succ, seqW, wipeS, Tg.slots]
  refine compL_fm (f := rtF m) (fun x hx k q => ?_) (by simp [sizeMax]; omega) ?_
  · obtain ⟨p, hp, rfl⟩ := List.mem_map.mp hx
    refine unp (a := rD p.1) (b := rD p.2) rfl ?_
    simp [wS, wX, wT, wA, wO, wI, sem, ofV, ofI, lookV, lookB, lookO, sl0, blW, intW, lstW, truW, objW, X.isNil, List.getElem?_cons_zero, List.getElem?_cons_succ]
    refine c_below h1 hm (hs p hp).1 ?_
    have q : k (if m < qOf (rD p.1) then none else some (rD p.2)) n := q
    rw [qOf_rD] at q
    by_cases z : m < p.1
    · rw [if_pos z] at q
      simp [z, wS, wX, wT, wA, wO, wI, sem, ofV, ofI, lookV, lookB, lookO, sl0, blW, intW, lstW, truW, objW, X.isNil, List.getElem?_cons_zero, List.getElem?_cons_succ]
      exact q
    · rw [if_neg z] at q
      simp [z, wS, wX, wT, wA, wO, wI, sem, ofV, ofI, lookV, lookB, lookO, sl0, blW, intW, lstW, truW, objW, X.isNil, List.getElem?_cons_zero, List.getElem?_cons_succ]
      exact q
  · rw [List.nil_append, rt_fm]
    obtain ⟨ini, e⟩ := last_of hr
    rw [e]
    exact ⟨_, at_m1, h⟩
theorem does_lrate_at (h1 : Phy[f_law_is_below]? = some F_lbelow) : Does Phy N_law_rate_at F_lrate_at s_law_rate_at := by
  rintro ds n Qd Ed hl ⟨L, m, r, rfl, hlen, hs, hm, hr, h⟩
  clear hl
  simp [s_law_rate_at, N_law_rate_at, wS, wX, wT, wA, wO, wI, sem, ofV, ofI, lookV, lookB, lookO, sl0, blW, intW, lstW, truW, objW, X.isNil, List.getElem?_cons_zero, List.getElem?_cons_succ, seqW, wipeS, Tg.slots]
  refine compL_fm (f := rtF m) (fun x hx k q => ?_) (by simp [sizeMax]; omega) ?_
  · obtain ⟨p, hp, rfl⟩ := List.mem_map.mp hx
    refine unp (a := rD p.1) (b := rD p.2) rfl ?_
    simp [wS, wX, wT, wA, wO, wI, sem, ofV, ofI, lookV, lookB, lookO, sl0, blW, intW, lstW, truW, objW, X.isNil, List.getElem?_cons_zero, List.getElem?_cons_succ]
    refine c_lbelow h1 hm (hs p hp).1 ?_
    have q : k (if m < qOf (rD p.1) then none else some (rD p.2)) n := q
    rw [qOf_rD] at q
    by_cases z : m < p.1
    · rw [if_pos z] at q
      simp [z, wS, wX, wT, wA, wO, wI, sem, ofV, ofI, lookV, lookB, lookO, sl0, blW, intW, lstW, truW, objW, X.isNil, List.getElem?_cons_zero, List.getElem?_cons_succ]
      exact q
    · rw [if_neg z] at q
      simp [z, wS, wX, wT, wA, wO, wI, sem, ofV, ofI, lookV, lookB, lookO, sl0, blW, intW, lstW, truW, objW, X.isNil, List.getElem?_cons_zero, List.getElem?_cons_succ]
      exact q
  · rw [List.nil_append, rt_fm]
    obtain ⟨ini, e⟩ := last_of hr
    rw [e]
    exact ⟨_, at_m1, h⟩
end LW
/-! what came by a moment, over data. -/
namespace LW
open PySem PySem.Spec L2 Q
open scoped Rat
variable {Phy : List Fn}
/-- until when a comer's rate goes on, at the moment m -/
def untR (m : Rat) : Cms → Rat
  | [] => m
  | p :: _ => if m < p.1 then m else p.1
def termR (m : Rat) (p : Rat × Rat) (ps : Cms) : List Rat := if p.1 < m then [p.2 * (untR m ps - p.1)] else []
def termsR (m : Rat) : Cms → List Rat
  | [] => []
  | p :: ps => termR m p ps ++ termsR m ps
def spHeap : DSp := fun ds n Q _ => ∃ (L : Cms) (m : Rat) (k N : Nat), ds = [cL L, rD m] ∧ L.length ≤ 1000 ∧ SzL 1000 L ∧ Sz 1000 m ∧ L.Pairwise (fun p q => p.1 < q.1) ∧ 0 < k ∧ k < 2 ^ 2000 ∧ N < 2 ^ 2000 ∧ (∀ t ∈ termsR m L, Ov k N t) ∧ Q (rD (totR (termsR m L))) n
def F_heap_by : Fn := { name := "heap_by", ps := ["comers", "moment"], sp := spHeap }
def F_lcome : Fn := { name := "_law_come", ps := ["_law_comers_here", "_law_moment"], sp := spHeap }
theorem terms_len {m : Rat} : ∀ {L : Cms}, (termsR m L).length ≤ L.length
  | [] => Nat.le_refl _
  | p :: ps => by
    have := terms_len (m := m) (L := ps)
    unfold termsR termR
    split <;> simp <;> omega
theorem tot_snoc {L : List Rat} {t : Rat} : totR (L ++ [t]) = totR L + t := by
  unfold totR
  rw [List.foldl_append]
  rfl
theorem tot_ov {k N : Nat} (hk : 0 < k) : ∀ {L : List Rat}, (∀ t ∈ L, Ov k N t) → Ov k (L.length * N) (totR L) := by
  intro L h
  have key : ∀ (L : List Rat) (a : Rat) (c : Nat), (∀ t ∈ L, Ov k N t) → Ov k (c * N) a → Ov k ((c + L.length) * N) (L.foldl (· + ·) a) := by
    intro L
    induction L with
    | nil => intro a c _ ha; exact ha
    | cons t L ih =>
      intro a c hL ha
      have h1 : Ov k ((c + 1) * N) (a + t) := by
        rw [Nat.add_mul, Nat.one_mul]
        exact ha.add (hL t List.mem_cons_self) hk
      have := ih (a + t) (c + 1) (fun s hs => hL s (List.mem_cons_of_mem _ hs)) h1
      rw [List.length_cons]
      rw [show c + (L.length + 1) = c + 1 + L.length by omega]
      exact this
  have := key L 0 0 h ⟨0, by rw [Rat.zero_divInt], Nat.zero_le _⟩
  rw [Nat.zero_add] at this
  exact this
theorem unp3 {a b : D} {i : Int} {sl : Sl} {u v w : Nat} {k : Sl → Prop} (q : k (((sl.set u (.val (.int i))).set v (.val a)).set w (.val b))) : wTg (.tp (.cons (.nm u) (.cons (.tp (.cons (.nm v) (.cons (.nm w) .nil))) .nil))) (.tup [.int i, .tup [a, b]]) sl k := q
def hbb : S := match s_heap_by with
  | .sq _ (.sq (.for_ _ _ b) _) => b
  | _ => .nl
theorem s_hb_eq : s_heap_by = (.sq (.asg 2 (.tup (.cons (.int 0) (.cons (.int 1) .nil)))) (.sq (.for_ (.tp (.cons (.nm 3) (.cons (.tp (.cons (.nm 4) (.cons (.nm 5) .nil))) .nil))) (.ite_ (.var 0)) hbb) (.sq (.ret (.var 2)) .nl))) := rfl
theorem ltW_int {a b : Int} {Q : Bool → Prop} : cmpW .lt (.int a) (.int b) Q ↔ Q (decide (a < b)) := Iff.rfl
theorem at_i {xs : List D} {i : Nat} {x : D} (h : xs[i]? = some x) : atI xs (i : Int) = some x := by
  have hi : i < xs.length := (List.getElem?_eq_some_iff.mp h).1
  unfold atI ixN
  rw [if_pos (by omega), if_pos (by omega), Int.toNat_natCast]
  exact h
theorem does_heap_by (h1 : Phy[f_is_below]? = some F_is_below) (h2 : Phy[f_plus]? = some F_plus) (h3 : Phy[f_times]? = some F_times) (h4 : Phy[f_less]? = some F_less) : Does Phy N_heap_by F_heap_by s_heap_by := by
  rintro ds n Qd Ed hl ⟨L, m, k, N, rfl, hlen, hs, hm, hpw, hk, hk2, hN, ho, h⟩
  clear hl
  rw [s_hb_eq]
  simp [N_heap_by, wS, wX, wT, wA, wO, wI, sem, ofV, ofI, lookV, lookB, lookO, sl0, blW, intW, lstW, truW, objW, X.isNil, List.getElem?_cons_zero, List.getElem?_cons_succ, seqW]
  refine ⟨by simp [sizeMax], ?_⟩
  refine forL_ind (fun rest ρ => ∃ (j : Nat) (done : List Rat) (z3 z4 z5 z6 : Slot), rest = (enumD (L.map cmD)).drop j ∧ done ++ termsR m (L.drop j) = termsR m L ∧ ρ = ⟨[.val (cL L), .val (rD m), .val (rD (totR done)), z3, z4, z5, z6], n⟩) ?_ ?_ ?_
  · rintro x rest ρ kk ⟨j, done, z3, z4, z5, z6, er, et, rfl⟩ hkk
    obtain ⟨y, hj, rfl, er2, ed⟩ := enum_drop' er
    rw [List.length_map] at hj
    have ed2 : L.drop j = L[j] :: L.drop (j + 1) := List.drop_eq_getElem_cons hj
    have ey : y = cmD L[j] := by
      rw [← List.map_drop, ed2, List.map_cons] at ed
      exact (List.cons.inj ed).1.symm
    subst ey
    have hmem : L[j] ∈ L := List.getElem_mem hj
    obtain ⟨sb, sr⟩ := hs _ hmem
    generalize hp : L[j] = p at *
    refine unp3 ?_
    rw [ed2] at et
    have et : done ++ (termR m p (L.drop (j + 1)) ++ termsR m (L.drop (j + 1))) = termsR m L := et
    have hdone : ∀ t ∈ done, Ov k N t := fun t ht => ho t (by rw [← et]; exact List.mem_append_left _ ht)
    have hdl : done.length ≤ 1000 := by
      have := terms_len (m := m) (L := L)
      rw [← et, List.length_append] at this
      omega
    have sf : SzM (totR done) := (tot_ov hk hdone).sz hk (big_mul hdl hN) (pow_lt hk2)
    unfold hbb s_heap_by
    simp [wS, wX, wT, wA, wO, wI, sem, ofV, ofI, lookV, lookB, lookO, sl0, blW, intW, lstW, truW, objW, X.isNil, List.getElem?_cons_zero, List.getElem?_cons_succ]
    refine c_below h1 (sb.mono (by decide)) (hm.mono (by decide)) ?_
    by_cases c : p.1 < m
    · simp [c, wS, wX, wT, wA, wO, wI, sem, ofV, ofI, lookV, lookB, lookO, sl0, blW, intW, lstW, truW, objW, X.isNil, List.getElem?_cons_zero, List.getElem?_cons_succ, bin_add, len_lst, ltW_int]
      have fin : ∀ u : Rat, u = untR m (L.drop (j + 1)) → Sz 1000 u → callW Phy f_less [rD u, rD p.1] n (fun y n => callW Phy f_times [rD p.2, y] n (fun y n => callW Phy f_plus [rD (totR done), y] n (fun d n => kk ⟨[.val (cL L), .val (rD m), .val d, .val (.int j), .val (rD p.1), .val (rD p.2), .val (rD u)], n⟩) (fun e n => Ed e n)) (fun e n => Ed e n)) (fun e n => Ed e n) := fun u hu su => by
        refine (call_is h4).mpr ⟨rfl, u, p.1, rfl, su.mono (by decide), sb.mono (by decide), ?_⟩
        have sd : Sz 2001 (u - p.1) := su.sub sb
        refine (call_is h3).mpr ⟨rfl, p.2, u - p.1, rfl, sr.mono (by decide), sd.mono (by decide), ?_⟩
        have et2 : termR m p (L.drop (j + 1)) = [p.2 * (u - p.1)] := by
          unfold termR
          rw [if_pos c, hu]
        have ot : Ov k N (p.2 * (u - p.1)) := ho _ (by rw [← et, et2]; simp)
        refine (call_is h2).mpr ⟨rfl, totR done, p.2 * (u - p.1), rfl, sf, ot.sz hk (pow_lt hN) (pow_lt hk2), ?_⟩
        refine hkk _ ⟨j + 1, done ++ [p.2 * (u - p.1)], .val (.int j), .val (rD p.1), .val (rD p.2), .val (rD u), er2, ?_, ?_⟩
        · rw [← et, et2]
          simp
        · rw [tot_snoc]
      cases e : L.drop (j + 1) with
      | nil =>
        have hlast : ¬ ((j : Int) + 1 < (L.length : Int)) := by
          have := List.drop_eq_nil_iff.mp e
          omega
        simp [hlast, wS, wX, wT, wA, wO, wI, sem, ofV, ofI, lookV, lookB, lookO, sl0, blW, intW, lstW, truW, objW, X.isNil, List.getElem?_cons_zero, List.getElem?_cons_succ]
        refine c_below h1 (hm.mono (by decide)) (hm.mono (by decide)) ?_
        have irr : ¬ m < m := Rat.lt_irrefl
        simp [irr, wS, wX, wT, wA, wO, wI, sem, ofV, ofI, lookV, lookB, lookO, sl0, blW, intW, lstW, truW, objW, X.isNil, List.getElem?_cons_zero, List.getElem?_cons_succ]
        exact fin m (by rw [e]; rfl) hm
      | cons q qs =>
        have hj2 : j + 1 < L.length := by
          refine Nat.lt_of_not_le fun z => ?_
          rw [List.drop_eq_nil_of_le z] at e
          cases e
        have eq : L[j + 1] = q := by
          rw [List.drop_eq_getElem_cons hj2] at e
          exact (List.cons.inj e).1
        have hq : q ∈ L := by rw [← eq]; exact List.getElem_mem hj2
        have hl2 : ((j : Int) + 1 < (L.length : Int)) := by omega
        simp [hl2, wS, wX, wT, wA, wO, wI, sem, ofV, ofI, lookV, lookB, lookO, sl0, blW, intW, lstW, truW, objW, X.isNil, List.getElem?_cons_zero, List.getElem?_cons_succ]
        refine ⟨cmD q, ?_, rD q.1, at0, ?_⟩
        · have : (L.map cmD)[j + 1]? = some (cmD q) := by
            rw [List.getElem?_map, List.getElem?_eq_getElem hj2, eq]
            rfl
          exact at_i this
        · refine c_below h1 (hm.mono (by decide)) ((hs q hq).1.mono (by decide)) ?_
          by_cases z : m < q.1
          · simp [z, wS, wX, wT, wA, wO, wI, sem, ofV, ofI, lookV, lookB, lookO, sl0, blW, intW, lstW, truW, objW, X.isNil, List.getElem?_cons_zero, List.getElem?_cons_succ]
            exact fin m (by rw [e]; exact (if_pos z).symm) hm
          · simp [z, wS, wX, wT, wA, wO, wI, sem, ofV, ofI, lookV, lookB, lookO, sl0, blW, intW, lstW, truW, objW, X.isNil, List.getElem?_cons_zero, List.getElem?_cons_succ]
            exact fin q.1 (by rw [e]; exact (if_neg z).symm) (hs q hq).1
    · simp [c, wS, wX, wT, wA, wO, wI, sem, ofV, ofI, lookV, lookB, lookO, sl0, blW, intW, lstW, truW, objW, X.isNil, List.getElem?_cons_zero, List.getElem?_cons_succ]
      refine hkk _ ⟨j + 1, done, _, _, _, _, er2, ?_, rfl⟩
      rw [← et]
      unfold termR
      rw [if_neg c]
      rfl
  · rintro ρ ⟨j, done, z3, z4, z5, z6, er, et, rfl⟩
    have e := enum_end er
    rw [← List.map_drop, List.map_eq_nil_iff] at e
    rw [e] at et
    have et : done ++ [] = termsR m L := et
    rw [List.append_nil] at et
    simp [wS, wX, wT, wA, wO, wI, sem, ofV, ofI, lookV, lookB, lookO, sl0, blW, intW, lstW, truW, objW, X.isNil, List.getElem?_cons_zero, List.getElem?_cons_succ]
    rw [et]
    exact h
  · exact ⟨0, [], .un, .un, .un, .un, rfl, rfl, by simp [totR, rD_zero]; rfl⟩
end LW
/-! the law's own count of what came, over data. -/
namespace LW
open PySem PySem.Spec L2 Q
open scoped Rat
variable {Phy : List Fn}
theorem cut_one {xs : List D} {j : Nat} : cutD xs (some ((j : Int) + 1)) (some ((j : Int) + 2)) = (xs.drop (j + 1)).take 1 := by
  have e1 : HT.sIx xs.length 0 (some ((j : Int) + 1)) = min (j + 1) xs.length := by
    show HT.sIx xs.length 0 (some (((j + 1 : Nat) : Int))) = _
    rw [HT.sIx_nat]
  have e2 : HT.sIx xs.length xs.length (some ((j : Int) + 2)) = min (j + 2) xs.length := by
    show HT.sIx xs.length xs.length (some (((j + 2 : Nat) : Int))) = _
    rw [HT.sIx_nat]
  unfold cutD
  rw [e1, e2]
  by_cases h : j + 1 < xs.length
  · rw [Nat.min_eq_left (by omega)]
    rw [Nat.min_eq_left (by omega)]
    congr 1
    omega
  · rw [Nat.min_eq_right (by omega), Nat.min_eq_right (by omega), List.drop_eq_nil_of_le (Nat.le_refl _), List.drop_eq_nil_of_le (by omega)]
    simp
theorem rlt {a b c : Rat} (h1 : a < b) (h2 : b < c) : a < c := by
  refine Rat.not_le.mp fun z => Rat.not_le.mpr h1 ?_
  exact Rat.le_trans (Rat.le_of_lt h2) z
def nxR (ps : Cms) : List Rat := (ps.take 1).map Prod.fst
theorem last_un {m b : Rat} {ps : Cms} (h : ∀ q ∈ ps, b < q.1) : decide (b < leastR m (nxR ps)) = decide (b < m) ∧ (b < m → leastR m (nxR ps) = untR m ps) := by
  cases ps with
  | nil => exact ⟨rfl, fun _ => rfl⟩
  | cons q qs =>
    have hq := h q List.mem_cons_self
    have e : leastR m (nxR (q :: qs)) = if q.1 < m then q.1 else m := rfl
    rw [e]
    by_cases z : q.1 < m
    · rw [if_pos z]
      have t : b < m := rlt hq z
      refine ⟨by rw [decide_eq_true hq, decide_eq_true t], fun _ => ?_⟩
      show q.1 = if m < q.1 then m else q.1
      rw [if_neg]
      intro w
      exact Rat.lt_irrefl (rlt z w)
    · rw [if_neg z]
      refine ⟨rfl, fun _ => ?_⟩
      show m = if m < q.1 then m else q.1
      by_cases w : m < q.1
      · rw [if_pos w]
      · rw [if_neg w]
        exact Rat.le_antisymm (Rat.not_lt.mp z) (Rat.not_lt.mp w)
def lcb : S := match s_law_come with
  | .sq _ (.sq (.for_ _ _ b) _) => b
  | _ => .nl
theorem s_lc_eq : s_law_come = (.sq (.asgO 2 (.lst .nil)) (.sq (.for_ (.tp (.cons (.nm 3) (.cons (.tp (.cons (.nm 4) (.cons (.nm 5) .nil))) .nil))) (.ite_ (.var 0)) lcb) (.sq (.frz 2) (.sq (.ret (.call f_law_total (.cons (.var 2) .nil))) .nl)))) := rfl
theorem slc_l {k : Nat} {xs : List D} {lo hi : Option Int} {Q : D → Prop} : slcW (.lst k xs) lo hi Q ↔ Q (.lst 0 (cutD xs lo hi)) := Iff.rfl
theorem add_l {i j : Nat} {xs ys : List D} {Q : D → Prop} : binW .add (.lst i xs) (.lst j ys) Q ↔ (xs.length + ys.length ≤ sizeMax ∧ Q (.lst 0 (xs ++ ys))) := Iff.rfl
theorem does_lcome (h1 : Phy[f_law_is_below]? = some F_lbelow) (h2 : Phy[f_law_least]? = some F_lleastR) (h3 : Phy[f_law_times]? = some F_ltimes) (h4 : Phy[f_law_less]? = some F_lless) (h5 : Phy[f_law_total]? = some F_ltotal) : Does Phy N_law_come F_lcome s_law_come := by
  rintro ds n Qd Ed hl ⟨L, m, k, N, rfl, hlen, hs, hm, hpw, hk, hk2, hN, ho, h⟩
  clear hl
  rw [s_lc_eq]
  simp [N_law_come, wS, wX, wT, wA, wO, wI, sem, ofV, ofI, lookV, lookB, lookO, sl0, blW, intW, lstW, truW, objW, X.isNil, List.getElem?_cons_zero, List.getElem?_cons_succ, seqW]
  refine forL_ind (fun rest ρ => ∃ (j : Nat) (done : List Rat) (z3 z4 z5 z6 z7 : Slot), rest = (enumD (L.map cmD)).drop j ∧ done ++ termsR m (L.drop j) = termsR m L ∧ ρ = ⟨[.val (cL L), .val (rD m), .own (done.map rD), z3, z4, z5, z6, z7], n⟩) ?_ ?_ ?_
  · rintro x rest ρ kk ⟨j, done, z3, z4, z5, z6, z7, er, et, rfl⟩ hkk
    obtain ⟨y, hj, rfl, er2, ed⟩ := enum_drop' er
    rw [List.length_map] at hj
    have ed2 : L.drop j = L[j] :: L.drop (j + 1) := List.drop_eq_getElem_cons hj
    have ey : y = cmD L[j] := by
      rw [← List.map_drop, ed2, List.map_cons] at ed
      exact (List.cons.inj ed).1.symm
    subst ey
    have hmem : L[j] ∈ L := List.getElem_mem hj
    obtain ⟨sb, sr⟩ := hs _ hmem
    have hinc : ∀ q ∈ L.drop (j + 1), L[j].1 < q.1 := by
      have := hpw.drop (i := j)
      rw [ed2] at this
      exact (List.pairwise_cons.mp this).1
    generalize hp : L[j] = p at *
    refine unp3 ?_
    rw [ed2] at et
    have et : done ++ (termR m p (L.drop (j + 1)) ++ termsR m (L.drop (j + 1))) = termsR m L := et
    have hdl : done.length ≤ 1000 := by
      have := terms_len (m := m) (L := L)
      rw [← et, List.length_append] at this
      omega
    obtain ⟨lu1, lu2⟩ := last_un (m := m) hinc
    have snx : ∀ q ∈ nxR (L.drop (j + 1)), Sz 1000 q := fun q hq => by
      unfold nxR at hq
      obtain ⟨r, hr, rfl⟩ := List.mem_map.mp hq
      exact (hs r (List.drop_subset _ _ (List.take_subset _ _ hr))).1
    have sl : Sz 1000 (leastR m (nxR (L.drop (j + 1)))) := by
      rcases List.mem_cons.mp (leastR_mem (a := m) (L := nxR (L.drop (j + 1)))) with z | z
      · rw [z]; exact hm
      · exact snx _ z
    have sbM : SzM p.1 := sb.mono (by decide)
    have slM : SzM (leastR m (nxR (L.drop (j + 1)))) := sl.mono (by decide)
    have ecut : cutD (L.map cmD) (some ((j : Int) + 1)) (some ((j : Int) + 2)) = ((L.drop (j + 1)).take 1).map cmD := by
      rw [cut_one, ← List.map_drop, ← List.map_take]
    have enx : (((L.drop (j + 1)).take 1).map cmD).map c0 = (nxR (L.drop (j + 1))).map rD := by
      unfold nxR
      rw [List.map_map, List.map_map]
      rfl
    unfold lcb s_law_come
    simp [wS, wX, wT, wA, wO, wI, sem, ofV, ofI, lookV, lookB, lookO, sl0, blW, intW, lstW, truW, objW, X.isNil, List.getElem?_cons_zero, List.getElem?_cons_succ, bin_add, slc_l, ecut, seqW, wipeS, Tg.slots, wTg]
    have lx : (((L.drop (j + 1)).take 1).map cmD).length ≤ sizeMax := by
      rw [List.length_map, List.length_take]
      show _ ≤ 1000000
      omega
    refine ⟨by simp [sizeMax], ?_⟩
    rw [← List.map_drop, ← List.map_take]
    refine compL_map (xs := ((L.drop (j + 1)).take 1).map cmD) (f := c0) (fun x hx k2 q => ?_) lx ?_
    · obtain ⟨r, hr, rfl⟩ := List.mem_map.mp hx
      exact ⟨rD r.1, at0, q⟩
    · rw [enx]
      refine add_l.mpr ⟨by unfold nxR; simp [sizeMax]; omega, ?_⟩
      refine (call_is h2).mpr ⟨rfl, 0, m, nxR (L.drop (j + 1)), by simp, fun q hq => ?_, ?_⟩
      · rcases List.mem_cons.mp hq with rfl | hq
        · exact hm.mono (by decide)
        · exact (snx q hq).mono (by decide)
      · refine c_lbelow h1 sbM slM ?_
        rw [lu1]
        by_cases c : p.1 < m
        · simp [c, wS, wX, wT, wA, wO, wI, sem, ofV, ofI, lookV, lookB, lookO, sl0, blW, intW, lstW, truW, objW, X.isNil, List.getElem?_cons_zero, List.getElem?_cons_succ]
          rw [lu2 c] at slM sl ⊢
          refine (call_is h4).mpr ⟨rfl, untR m (L.drop (j + 1)), p.1, rfl, slM, sbM, ?_⟩
          have sd : Sz 2001 (untR m (L.drop (j + 1)) - p.1) := sl.sub sb
          refine (call_is h3).mpr ⟨rfl, p.2, untR m (L.drop (j + 1)) - p.1, rfl, sr.mono (by decide), sd.mono (by decide), ?_⟩
          refine ⟨by show _ < 1000000; omega, ?_⟩
          have et2 : termR m p (L.drop (j + 1)) = [p.2 * (untR m (L.drop (j + 1)) - p.1)] := by
            unfold termR
            rw [if_pos c]
          refine hkk _ ⟨j + 1, done ++ [p.2 * (untR m (L.drop (j + 1)) - p.1)], .val (.int j), .val (rD p.1), .val (rD p.2), .val (rD (untR m (L.drop (j + 1)))), z7, er2, ?_, ?_⟩
          · rw [← et, et2]
            simp
          · rw [List.map_append]
            rfl
        · simp [c, wS, wX, wT, wA, wO, wI, sem, ofV, ofI, lookV, lookB, lookO, sl0, blW, intW, lstW, truW, objW, X.isNil, List.getElem?_cons_zero, List.getElem?_cons_succ]
          refine hkk _ ⟨j + 1, done, _, _, _, _, _, er2, ?_, rfl⟩
          rw [← et]
          unfold termR
          rw [if_neg c]
          rfl
  · rintro ρ ⟨j, done, z3, z4, z5, z6, z7, er, et, rfl⟩
    have e := enum_end er
    rw [← List.map_drop, List.map_eq_nil_iff] at e
    rw [e] at et
    have et : done ++ [] = termsR m L := et
    rw [List.append_nil] at et
    subst et
    simp [wS, wX, wT, wA, wO, wI, sem, ofV, ofI, lookV, lookB, lookO, sl0, blW, intW, lstW, truW, objW, X.isNil, List.getElem?_cons_zero, List.getElem?_cons_succ]
    have hdl := terms_len (m := m) (L := L)
    exact (call_is h5).mpr ⟨rfl, 0, k, N, _, rfl, hk, hk2, hN, by omega, ho, h⟩
  · exact ⟨0, [], .un, .un, .un, .un, .un, rfl, rfl, rfl⟩
end LW
/-! rate_at, come_by, _law_tried, over data. -/
namespace LW
open PySem PySem.Spec L2 Q
open scoped Rat
variable {Phy : List Fn}
/-- what is asked of comers and a moment; errors: 2 the comers, 1 the moment -/
def spAsk (core : Cms → Rat → (D → Prop) → Prop) : DSp := fun ds n Q E => ∃ dc dm : D, ds = [dc, dm] ∧ (D.gen dc || D.isFn dc) = true ∧ (((dc.seq = none ∨ dc.seq = some []) ∧ E ⟨2, [.int 0]⟩ n) ∨
  ∃ xs, comersOk dc xs ∧ ((∃ i : Nat, badF none 0 xs = some i ∧ E ⟨2, [.int i]⟩ n) ∨ (badF none 0 xs = none ∧ GF dm ∧ ((isHp dm = false ∧ E ⟨1, [dm]⟩ n) ∨ ∃ m, isHp dm = true ∧ Raw dm m ∧ core (kpF [] (prs xs)) m fun d => Q d n))))
def coreR (L : Cms) (m : Rat) (K : D → Prop) : Prop := L.length ≤ 1000 ∧ SzL 4000 L ∧ SzM m ∧ ∃ r, rateR L m = some r ∧ K (rD r)
def coreH (L : Cms) (m : Rat) (K : D → Prop) : Prop := L.length ≤ 1000 ∧ SzL 1000 L ∧ Sz 1000 m ∧ L.Pairwise (fun p q => p.1 < q.1) ∧ ∃ k N : Nat, 0 < k ∧ k < 2 ^ 2000 ∧ N < 2 ^ 2000 ∧ (∀ t ∈ termsR m L, Ov k N t) ∧ K (rD (totR (termsR m L)))
def F_rate_at : Fn := { name := "rate_at", ps := ["comers", "moment"], sp := spAsk coreR }
def F_come_by : Fn := { name := "come_by", ps := ["comers", "moment"], sp := spAsk coreH }
theorem does_rate_at (h1 : Phy[f_checked_comers]? = some F_checked_comers) (h2 : Phy[f_checked_moment]? = some F_checked_moment) (h3 : Phy[f_rate_from]? = some F_rate_from) : Does Phy N_rate_at F_rate_at s_rate_at := by
  rintro ds n Qd Ed hl ⟨dc, dm, rfl, g, h⟩
  clear hl
  simp [s_rate_at, N_rate_at, wS, wX, wT, wA, wO, wI, sem, ofV, ofI, lookV, lookB, lookO, sl0, blW, intW, lstW, truW, objW, X.isNil, List.getElem?_cons_zero, List.getElem?_cons_succ]
  refine (call_is h1).mpr ⟨rfl, dc, rfl, g, ?_⟩
  rcases h with ⟨hs, h⟩ | ⟨xs, ok, h⟩
  · exact .inl ⟨hs, h⟩
  · refine .inr ⟨xs, ok, ?_⟩
    rcases h with ⟨i, hb, h⟩ | ⟨hb, gm, h⟩
    · exact .inl ⟨i, hb, h⟩
    · refine .inr ⟨hb, ?_⟩
      simp [wS, wX, wT, wA, wO, wI, sem, ofV, ofI, lookV, lookB, lookO, sl0, blW, intW, lstW, truW, objW, X.isNil, List.getElem?_cons_zero, List.getElem?_cons_succ]
      rcases h with ⟨hh, h⟩ | ⟨m, hh, rm, l1, l2, l3, r, hr, h⟩
      · exact (call_is h2).mpr ⟨rfl, dm, rfl, gm, fun _ => h, fun z => by rw [hh] at z; cases z⟩
      · refine (call_is h2).mpr ⟨rfl, dm, rfl, gm, (fun z => by rw [hh] at z; cases z), fun _ => ⟨m, rm, ?_⟩⟩
        exact (call_is h3).mpr ⟨rfl, _, m, r, rfl, l1, l2, l3, hr, h⟩
theorem does_come_by (h1 : Phy[f_checked_comers]? = some F_checked_comers) (h2 : Phy[f_checked_moment]? = some F_checked_moment) (h3 : Phy[f_heap_by]? = some F_heap_by) : Does Phy N_come_by F_come_by s_come_by := by
  rintro ds n Qd Ed hl ⟨dc, dm, rfl, g, h⟩
  clear hl
  simp [s_come_by, N_come_by, wS, wX, wT, wA, wO, wI, sem, ofV, ofI, lookV, lookB, lookO, sl0, blW, intW, lstW, truW, objW, X.isNil, List.getElem?_cons_zero, List.getElem?_cons_succ]
  refine (call_is h1).mpr ⟨rfl, dc, rfl, g, ?_⟩
  rcases h with ⟨hs, h⟩ | ⟨xs, ok, h⟩
  · exact .inl ⟨hs, h⟩
  · refine .inr ⟨xs, ok, ?_⟩
    rcases h with ⟨i, hb, h⟩ | ⟨hb, gm, h⟩
    · exact .inl ⟨i, hb, h⟩
    · refine .inr ⟨hb, ?_⟩
      simp [wS, wX, wT, wA, wO, wI, sem, ofV, ofI, lookV, lookB, lookO, sl0, blW, intW, lstW, truW, objW, X.isNil, List.getElem?_cons_zero, List.getElem?_cons_succ]
      rcases h with ⟨hh, h⟩ | ⟨m, hh, rm, l1, l2, l3, l4, k, N, k1, k2, k3, ho, h⟩
      · exact (call_is h2).mpr ⟨rfl, dm, rfl, gm, fun _ => h, fun z => by rw [hh] at z; cases z⟩
      · refine (call_is h2).mpr ⟨rfl, dm, rfl, gm, (fun z => by rw [hh] at z; cases z), fun _ => ⟨m, rm, ?_⟩⟩
        exact (call_is h3).mpr ⟨rfl, _, m, k, N, rfl, l1, l2, l3, l4, k1, k2, k3, ho, h⟩
end LW
/-! _law_tried, over data. -/
namespace LW
open PySem PySem.Spec L2 Q
variable {Phy : List Fn}
/-- what is told of an error -/
def triedE (Q : D → Nat → Prop) (E : Exc → Nat → Prop) (e : Exc) (n : Nat) : Prop := (e.c = 2 ∧ ∃ d, e.xs[0]? = some d ∧ Q (.tup [.str "comers", d]) n) ∨ (e.c = 1 ∧ ∃ d, e.xs[0]? = some d ∧ Q (.tup [.str "moment", d]) n)
def hsp_tried : DSp → DSp := fun L ds n Q E => ds = [] ∧ ∀ (Q' : D → Nat → Prop) (E' : Exc → Nat → Prop), (∀ d n', Q (.tup [.str "told", d]) n' → Q' d n') → (∀ e n', triedE Q E e n' → E' e n') → L [] n Q' E'
def F_tried : Fn := { name := "_law_tried", ps := ["_law_ask"], sp := fun _ _ _ _ => False, hsp := hsp_tried }
theorem does_tried : DoesL Phy N_law_tried F_tried s_law_tried := by
  rintro L key ds n Qd Ed hl ⟨rfl, h⟩
  clear hl
  have hg : (Phy ++ [lamFn key L])[Phy.length]? = some (lamFn key L) := by
    rw [List.getElem?_append_right (Nat.le_refl _), Nat.sub_self]
    rfl
  simp [s_law_tried, N_law_tried, slL, wS, wX, wT, wA, wO, wI, sem, ofV, ofI, lookV, lookB, lookO, sl0, blW, intW, lstW, truW, objW, X.isNil, List.getElem?_cons_zero, List.getElem?_cons_succ, calW, hg]
  refine ⟨rfl, ?_⟩
  refine h _ _ (fun d n' q => ?_) fun e n' q => ?_
  · exact ⟨by simp [sizeMax], q⟩
  · rcases q with ⟨ec, d, ed, q⟩ | ⟨ec, d, ed, q⟩
    · simp [hdW, ec, Hd.fits, Hd.out, ed, Hd.tell]
      exact q
    · simp [hdW, ec, Hd.fits, Hd.out, ed, Hd.tell]
      exact q
end LW
/-! fractions in other terms, over data. -/
namespace LW
open PySem PySem.Spec L2 Q
open scoped Rat
variable {Phy : List Fn}
theorem does_loose3 (h1 : Phy[f_law_draw]? = some F_draw) (h2 : Phy[f_law_loose2]? = some (F_loose 2)) : Does Phy N_law_loose3 (F_loose 3) s_law_loose3 := by
  rintro ds n Qd Ed hl ⟨d, rfl, g, hn, h⟩
  clear hl
  unfold lok at g
  by_cases hL : isL d = true
  · obtain ⟨xs, hs⟩ := isL_seq hL
    rw [hs] at g
    simp only [Bool.and_eq_true, decide_eq_true_eq, List.all_eq_true] at g
    have hL' : (d.isT .list || d.isT .tuple) = true := hL
    simp [s_law_loose3, N_law_loose3, wS, wX, wT, wA, wO, wI, sem, ofV, ofI, lookV, lookB, lookO, sl0, blW, intW, lstW, truW, objW, X.isNil, List.getElem?_cons_zero, List.getElem?_cons_succ, ist_gen (seq_gen hs), hL', seqW_of hs, wTg, wipeS, Tg.slots]
    exact loose_main 2 h1 h2 hs g.1 g.2 hn h
  · rw [Bool.not_eq_true] at hL
    rw [nL_seq hL] at g
    obtain ⟨e1, e2⟩ := isL_no hL
    simp [s_law_loose3, N_law_loose3, wS, wX, wT, wA, wO, wI, sem, ofV, ofI, lookV, lookB, lookO, sl0, blW, intW, lstW, truW, objW, X.isNil, List.getElem?_cons_zero, List.getElem?_cons_succ, ist_gen g, e1, e2]
    exact h d n (Nat.le_refl _) (Nat.le_add_right _ _) (by unfold looseR; rw [nL_seq hL])
/-- a fraction in some terms, of no great size -/
def Rw (k : Nat) (d : D) (q : Rat) : Prop := ∃ t b : Int, d.seq = some [.int t, .int b] ∧ 0 < b ∧ t /. b = q ∧ t.natAbs < 2 ^ k ∧ b.natAbs < 2 ^ k
theorem Rw.raw {k : Nat} {d : D} {q : Rat} (h : Rw k d q) (hk : k ≤ 4000) : Raw d q := by
  obtain ⟨t, b, e, hb, eq, h1, h2⟩ := h
  exact ⟨t, b, e, hb, eq, Nat.lt_of_lt_of_le h1 (Nat.pow_le_pow_right (by decide) hk), Nat.lt_of_lt_of_le h2 (Nat.pow_le_pow_right (by decide) hk)⟩
theorem two_ints {k : Nat} {t b : Int} {d : D} (h : looseR (k + 1) (.tup [.int t, .int b]) d) : d.seq = some [.int t, .int b] := by
  unfold looseR at h
  obtain ⟨ys, h1, h2, h3⟩ := h
  match ys, h2 with
  | [x, y], _ =>
    have a := h3 0 (.int t) x rfl rfl
    have c := h3 1 (.int b) y rfl rfl
    have ea : x = .int t := by cases k <;> exact a
    have ec : y = .int b := by cases k <;> exact c
    rw [h1, ea, ec]
def F_raw : Fn := { name := "_law_raw", ps := ["_law_stream_here", "_law_thing"], sp := fun ds n Q _ => ∃ (k : Nat) (q : Rat), ds = [.stm, rD q] ∧ k ≤ 1000 ∧ Sz k q ∧ n + 4200 ≤ NB ∧ ∀ (d : D) (n' : Nat), n ≤ n' → n' ≤ n + 4200 → Rw (k + 2) d q → Q d n' }
theorem mul3 {k : Nat} {i m : Int} (h : i.natAbs < 2 ^ k) (h1 : 1 ≤ m) (h2 : m ≤ 3) : (i * m).natAbs < 2 ^ (k + 2) := by
  have h3 : m.natAbs < 2 ^ 2 := by
    show m.natAbs < 4
    omega
  have := abs_mul h h3
  exact this
theorem does_raw (h1 : Phy[f_law_pick]? = some F_pick) (h2 : Phy[f_law_loose3]? = some (F_loose 3)) : Does Phy N_law_raw F_raw s_law_raw := by
  rintro ds n Qd Ed hl ⟨k, q, rfl, hk, sq, hn, h⟩
  clear hl
  simp [s_law_raw, N_law_raw, wS, wX, wT, wA, wO, wI, sem, ofV, ofI, lookV, lookB, lookO, sl0, blW, intW, lstW, truW, objW, X.isNil, List.getElem?_cons_zero, List.getElem?_cons_succ]
  refine ⟨by simp [sizeMax], ?_⟩
  refine (call_is h1).mpr ⟨rfl, _, [.int 1, .int 1, .int 1, .int 2, .int 3], rfl, rfl, by decide, by decide, by show n < NB; omega, fun x hx => ?_⟩
  have hm : ∃ m : Int, x = .int m ∧ 1 ≤ m ∧ m ≤ 3 := by
    simp at hx
    rcases hx with rfl | rfl | rfl
    · exact ⟨1, rfl, by decide, by decide⟩
    · exact ⟨2, rfl, by decide, by decide⟩
    · exact ⟨3, rfl, by decide, by decide⟩
  obtain ⟨m, rfl, m1, m3⟩ := hm
  have sm : m.natAbs < 2 ^ 2 := by show m.natAbs < 4; omega
  simp [wS, wX, wT, wA, wO, wI, sem, ofV, ofI, lookV, lookB, lookO, sl0, blW, intW, lstW, truW, objW, X.isNil, List.getElem?_cons_zero, List.getElem?_cons_succ, rx0, rx1, bin_mul]
  refine ⟨mul_sz sq.t sm (by omega), mul_sz (sz_den sq) sm (by omega), by simp [sizeMax], ?_⟩
  refine (call_is h2).mpr ⟨rfl, _, rfl, rfl, by show n + 1 + 4161 ≤ NB; omega, fun d n' a b c => ?_⟩
  have b : n' ≤ n + 1 + 4161 := b
  refine h d n' (by omega) (by omega) ⟨q.num * m, (q.den : Int) * m, two_ints c, Int.mul_pos (rat_pos q) (by omega), ?_, mul3 sq.t m1 m3, mul3 (sz_den sq) m1 m3⟩
  rw [Rat.divInt_mul_right (by omega)]
  exact rat_self q
end LW
/-! comers in other terms, over data. -/
namespace LW
open PySem PySem.Spec L2 Q
open scoped Rat
variable {Phy : List Fn}
/-- a comer in other terms -/
def RwC (k : Nat) (x : D) (p : Rat × Rat) : Prop := ∃ a b : D, x.seq = some [a, b] ∧ Rw k a p.1 ∧ Rw k b p.2
def RwL (k : Nat) (xs : List D) (L : Cms) : Prop := xs.length = L.length ∧ ∀ (i : Nat) (x : D) (p : Rat × Rat), xs[i]? = some x → L[i]? = some p → RwC k x p
theorem Rw.lok {w : Nat} {d : D} {q : Rat} (h : Rw w d q) : lok 1 d = true := by
  obtain ⟨t, b, e, _⟩ := h
  unfold LW.lok
  rw [e]
  rfl
theorem Rw.loose {w : Nat} {d d' : D} {q : Rat} (h : Rw w d q) {k : Nat} (hl : looseR (k + 1) d d') : Rw w d' q := by
  obtain ⟨t, b, e, r⟩ := h
  refine ⟨t, b, ?_, r⟩
  have h2 : looseR (k + 1) (.tup [.int t, .int b]) d' := by
    unfold looseR at hl ⊢
    rw [e] at hl
    exact hl
  exact two_ints h2
theorem RwC.lok {w : Nat} {x : D} {p : Rat × Rat} (h : RwC w x p) : lok 2 x = true := by
  obtain ⟨a, b, e, ra, rb⟩ := h
  unfold LW.lok
  rw [e]
  simp only [List.all_cons, ra.lok, rb.lok]
  rfl
theorem RwC.loose {w : Nat} {x y : D} {p : Rat × Rat} (h : RwC w x p) (hl : looseR 2 x y) : RwC w y p := by
  obtain ⟨a, b, e, ra, rb⟩ := h
  unfold looseR at hl
  rw [e] at hl
  obtain ⟨ys, h1, h2, h3⟩ := hl
  match ys, h2 with
  | [u, v], _ => exact ⟨u, v, h1, ra.loose (h3 0 a u rfl rfl), rb.loose (h3 1 b v rfl rfl)⟩
def F_raw_comers : Fn := { name := "_law_raw_comers", ps := ["_law_stream_here", "_law_comers_here"], sp := fun ds n Q _ => ∃ (w : Nat) (L : Cms), ds = [.stm, cL L] ∧ w ≤ 1000 ∧ L.length ≤ 6 ∧ SzL w L ∧ n + 60000 ≤ NB ∧ ∀ (d : D) (xs : List D) (n' : Nat), n ≤ n' → n' ≤ n + 60000 → d.seq = some xs → RwL (w + 2) xs L → Q d n' }
theorem does_raw_comers (h1 : Phy[f_law_raw]? = some F_raw) (h2 : Phy[f_law_loose3]? = some (F_loose 3)) : Does Phy N_law_raw_comers F_raw_comers s_law_raw_comers := by
  rintro ds n Qd Ed hl ⟨w, L, rfl, hw, hlen, hs, hn, h⟩
  clear hl
  simp [s_law_raw_comers, N_law_raw_comers, wS, wX, wT, wA, wO, wI, sem, ofV, ofI, lookV, lookB, lookO, sl0, blW, intW, lstW, truW, objW, X.isNil, List.getElem?_cons_zero, List.getElem?_cons_succ, seqW, wTg, wipeS, Tg.slots]
  refine compL_any (P := fun x y => ∃ p, x = cmD p ∧ RwC (w + 2) y p) (c := 8400) (B := NB) (fun x hx n k hb hk => ?_) (by simp [sizeMax]; omega) (by simp; omega) fun ys n' h3 h4 he hq => ?_
  · obtain ⟨p, hp, rfl⟩ := List.mem_map.mp hx
    obtain ⟨s1, s2⟩ := hs p hp
    show compL _ [rD p.1, rD p.2] [] n _
    refine compL_any (P := fun x y => ∃ q, x = rD q ∧ Rw (w + 2) y q) (c := 4200) (B := NB) (fun x hx n k hb hk => ?_) (by simp [sizeMax]) (by simp; omega) fun zs n' h3 h4 he hq => ?_
    · have : ∃ q, x = rD q ∧ Sz w q := by
        rcases List.mem_cons.mp hx with rfl | hx
        · exact ⟨_, rfl, s1⟩
        · rw [List.mem_singleton.mp hx]; exact ⟨_, rfl, s2⟩
      obtain ⟨q, rfl, sq⟩ := this
      exact (call_is h1).mpr ⟨rfl, w, q, rfl, hw, sq, hb, fun d n' a b r => hk d n' a b ⟨q, rfl, r⟩⟩
    · match zs, he with
      | [u, v], _ =>
        obtain ⟨q1, e1, r1⟩ := hq 0 _ u rfl rfl
        obtain ⟨q2, e2, r2⟩ := hq 1 _ v rfl rfl
        have e1 := rD_inj.mp e1
        have e2 := rD_inj.mp e2
        subst e1 e2
        have h4 : n' ≤ n + 4200 * 2 := h4
        refine hk _ n' h3 (by omega) ⟨p, rfl, u, v, rfl, r1, r2⟩
  · have hy : ∀ (i : Nat) (y : D) (p : Rat × Rat), ys[i]? = some y → L[i]? = some p → RwC (w + 2) y p := fun i y p ey ep => by
      obtain ⟨p', e, r⟩ := hq i (cmD p) y (by rw [List.getElem?_map, ep]; rfl) ey
      have e : D.tup [rD p.1, rD p.2] = .tup [rD p'.1, rD p'.2] := e
      injection e with e
      injection e with e1 e2
      injection e2 with e2 _
      have e1 := rD_inj.mp e1
      have e2 := rD_inj.mp e2
      have ep' : p = p' := Prod.ext e1 e2
      subst ep'
      exact r
    have hyl : ys.length = L.length := by
      rw [he, List.length_map]
    rw [List.length_map] at h4
    have lk : ∀ y ∈ ys, lok 2 y = true := fun y hy' => by
      obtain ⟨i, hi, e⟩ := List.mem_iff_getElem.mp hy'
      have hiL : i < L.length := by omega
      exact (hy i y L[i] (by rw [List.getElem?_eq_getElem hi, e]) (List.getElem?_eq_getElem hiL)).lok
    rw [List.nil_append]
    refine (call_is h2).mpr ⟨rfl, _, rfl, ?_, by show n' + 4161 ≤ NB; omega, fun d n2 a b c => ?_⟩
    · show (decide (ys.length ≤ 64) && ys.all (lok 2)) = true
      rw [decide_eq_true (by omega), List.all_eq_true.mpr lk]
      rfl
    · have b : n2 ≤ n' + 4161 := b
      have c : ∃ zs : List D, d.seq = some zs ∧ zs.length = ys.length ∧ ∀ (i : Nat) (x y : D), ys[i]? = some x → zs[i]? = some y → looseR 2 x y := c
      obtain ⟨zs, c1, c2, c3⟩ := c
      refine h d zs n2 (by omega) (by omega) c1 ⟨by omega, fun i x p ex ep => ?_⟩
      have hi : i < ys.length := by
        have := (List.getElem?_eq_some_iff.mp ex).1
        omega
      have ey : ys[i]? = some ys[i] := List.getElem?_eq_getElem hi
      exact (hy i _ p ey ep).loose (c3 i _ x ey ex)
end LW
/-! the law's comers, over data. -/
namespace LW
open PySem PySem.Spec L2 Q
open scoped Rat
variable {Phy : List Fn}
structure ComI (L : Cms) : Prop where
  inc : L.Pairwise (fun p q => p.1 < q.1)
  hd : ∀ p, L.head? = some p → p.1 = 0
  kp : kpF [] L = L
  mo : ∀ p ∈ L, Ov 6 1000 p.1 ∧ 0 ≤ p.1
  rt : ∀ p ∈ L, Ov 6 1000 p.2 ∧ 0 ≤ p.2
structure ComOk (L : Cms) : Prop extends ComI L where
  ne : L ≠ []
  len : L.length ≤ 6
theorem ov6 {r c : Int} {N : Nat} (hc : c = 1 ∨ c = 2 ∨ c = 3) (h0 : 0 ≤ r) (hr : r.natAbs * 6 ≤ N) : Ov 6 N (r /. c) ∧ 0 ≤ r /. c := by
  refine ⟨?_, Rat.divInt_nonneg h0 (by omega)⟩
  rcases hc with rfl | rfl | rfl
  · exact ⟨r * 6, by rw [← Rat.divInt_mul_right (a := 6) (by decide)]; rfl, by rw [Int.natAbs_mul]; exact hr⟩
  · exact ⟨r * 3, by rw [← Rat.divInt_mul_right (a := 3) (by decide)]; rfl, by rw [Int.natAbs_mul]; show r.natAbs * 3 ≤ N; omega⟩
  · exact ⟨r * 2, by rw [← Rat.divInt_mul_right (a := 2) (by decide)]; rfl, by rw [Int.natAbs_mul]; show r.natAbs * 2 ≤ N; omega⟩
theorem pos6 {r c : Int} (hc : 0 < c) (h0 : 0 < r) : 0 < r /. c := by
  have h1 : (0 : Rat) < (r : Rat) := Rat.intCast_pos.mpr h0
  have h2 : (0 : Rat) < (c : Rat) := Rat.intCast_pos.mpr hc
  rw [Rat.divInt_eq_div, Rat.lt_div_iff h2, Rat.zero_mul]
  exact h1
def F_lcomers : Fn := { name := "_law_comers", ps := ["_law_stream_here", "_law_most"], sp := fun ds n Q _ => ds = [.stm, .int 6] ∧ n + 100 ≤ NB ∧ ∀ (L : Cms) (n' : Nat), n ≤ n' → n' ≤ n + 100 → ComOk L → Q (cL L) n' }
def lmb : S := match s_law_comers with
  | .sq _ (.sq (.for_ _ _ b) _) => b
  | _ => .nl
theorem s_lm_eq : s_law_comers = (.sq (.par [(2, true), (3, false), (4, false)] (.cons (.lst .nil) (.cons (.tup (.cons (.int 0) (.cons (.int 1) .nil))) (.cons (.call f_law_pick (.cons (.var 0) (.cons (.lst (.cons (.int 1) (.cons (.int 1) (.cons (.int 2) (.cons (.int 3) .nil))))) .nil))) .nil)))) (.sq (.for_ (.nm 5) (.itr (.bin .add (.int 1) (.call f_law_draw (.cons (.var 0) (.cons (.var 1) .nil))))) lmb) (.sq (.frz 2) (.sq (.ret (.var 2)) .nl)))) := rfl
theorem ComI.snoc {acc : Cms} {mom rate : Rat} (c : ComI acc) (hlt : ∀ p ∈ acc, p.1 < mom) (h0 : acc = [] → mom = 0) (hm : Ov 6 1000 mom ∧ 0 ≤ mom) (hr : Ov 6 1000 rate ∧ 0 ≤ rate) (hk : ¬ (acc.getLast?.map Prod.snd) = some rate) : ComI (acc ++ [(mom, rate)]) := by
  refine ⟨?_, fun p hp => ?_, ?_, fun p hp => ?_, fun p hp => ?_⟩
  · refine List.pairwise_append.mpr ⟨c.inc, List.pairwise_singleton _ _, fun p hp q hq => ?_⟩
    rw [List.mem_singleton.mp hq]
    exact hlt p hp
  · cases acc with
    | nil =>
      cases hp
      exact h0 rfl
    | cons a as => exact c.hd p hp
  · rw [kpF_snoc, c.kp]
    unfold kp1
    rw [if_neg hk]
  · rcases List.mem_append.mp hp with hp | hp
    · exact c.mo p hp
    · rw [List.mem_singleton.mp hp]; exact hm
  · rcases List.mem_append.mp hp with hp | hp
    · exact c.rt p hp
    · rw [List.mem_singleton.mp hp]; exact hr
theorem deq_nil {xs : List D} {Q : Bool → Prop} (h : D.ok 60 (.lst 0 xs) = true) : cmpW .eq (.lst 0 xs) (.lst 0 []) Q ↔ Q xs.isEmpty := by
  show (_ ∧ _ ∧ Q (deq (.lst 0 xs) (.lst 0 []))) ↔ _
  have e : deq (.lst 0 xs) (.lst 0 []) = xs.isEmpty := by
    cases xs with
    | nil => rfl
    | cons x xs => rfl
  rw [e]
  exact ⟨fun z => z.2.2, fun z => ⟨h, rfl, z⟩⟩
theorem ok_cms {L : Cms} : D.ok 60 (.lst 0 (L.map cmD)) = true := by
  show (L.map cmD).all (D.ok 59) = true
  refine List.all_eq_true.mpr fun x hx => ?_
  obtain ⟨p, _, rfl⟩ := List.mem_map.mp hx
  rfl
theorem does_lcomers (h1 : Phy[f_law_draw]? = some F_draw) (h2 : Phy[f_law_pick]? = some F_pick) (h3 : Phy[f_law_low]? = some F_low) (h4 : Phy[f_law_plus]? = some F_lplus) : Does Phy N_law_comers F_lcomers s_law_comers := by
  rintro ds n Qd Ed hl ⟨rfl, hn, h⟩
  clear hl
  rw [s_lm_eq]
  have hB : NB = 1000000 := rfl
  simp [N_law_comers, wS, wX, wT, wA, wO, wI, sem, ofV, ofI, lookV, lookB, lookO, sl0, blW, intW, lstW, truW, objW, X.isNil, List.getElem?_cons_zero, List.getElem?_cons_succ]
  refine ⟨by simp [sizeMax], by simp [sizeMax], ?_⟩
  refine (call_is h2).mpr ⟨rfl, _, [.int 1, .int 1, .int 2, .int 3], rfl, rfl, by decide, by decide, by omega, fun x hx => ?_⟩
  have hx : ∃ c : Int, x = .int c ∧ (c = 1 ∨ c = 2 ∨ c = 3) := by
    simp at hx
    rcases hx with rfl | rfl | rfl
    · exact ⟨1, rfl, .inl rfl⟩
    · exact ⟨2, rfl, .inr (.inl rfl)⟩
    · exact ⟨3, rfl, .inr (.inr rfl)⟩
  obtain ⟨c, rfl, hc⟩ := hx
  simp [wPar, wS, wX, wT, wA, wO, wI, sem, ofV, ofI, lookV, lookB, lookO, sl0, blW, intW, lstW, truW, objW, X.isNil, List.getElem?_cons_zero, List.getElem?_cons_succ, bin_add]
  refine (c_draw h1).mpr ⟨by decide, by decide, by omega, fun t t0 t1 => ?_⟩
  refine ⟨by omega, by omega, ?_⟩
  have hT : ∃ T : Nat, (1 + t).toNat = T ∧ 1 ≤ T ∧ T ≤ 6 := ⟨_, rfl, by omega, by omega⟩
  obtain ⟨T, eT, T1, T6⟩ := hT
  rw [eT]
  have hc0 : 0 < c := by omega
  refine forL_ind (fun rest ρ => ∃ (i : Nat) (acc : Cms) (mom : Rat) (z5 z6 : Slot) (n' : Nat), rest.length + i = T ∧ acc.length ≤ i ∧ ComI acc ∧ (∀ p ∈ acc, p.1 < mom) ∧ (acc = [] → mom = 0) ∧ (acc = [] → i = 0) ∧ (Ov 6 (i * 72) mom ∧ 0 ≤ mom) ∧ n ≤ n' ∧ n' ≤ n + 2 + i * 5 ∧ ρ = ⟨[.val .stm, .val (.int 6), .own (acc.map cmD), .val (rD mom), .val (.int c), z5, z6], n'⟩) ?_ ?_ ?_
  · rintro x rest ρ kk ⟨i, acc, mom, z5, z6, n', hr, ha, hC, hlt, hm0, hi0, ⟨om, pm⟩, hn1, hn2, rfl⟩ hkk
    rw [List.length_cons] at hr
    have hi : i ≤ 5 := by omega
    unfold lmb s_law_comers
    simp [wTg, wS, wX, wT, wA, wO, wI, sem, ofV, ofI, lookV, lookB, lookO, sl0, blW, intW, lstW, truW, objW, X.isNil, List.getElem?_cons_zero, List.getElem?_cons_succ]
    have p2 : ∀ {b : Int}, b = 1 ∨ b = 2 ∨ b = 3 → b.natAbs < 2 ^ 8999 := fun {b} hb => Nat.lt_of_lt_of_le (show b.natAbs < 2 ^ 2 by show b.natAbs < 4; omega) (Nat.pow_le_pow_right (by decide) (by decide))
    refine ⟨by simp [sizeMax], ?_⟩
    refine (call_is h2).mpr ⟨rfl, _, [.int 1, .int 5, .int 9, .int 25], rfl, rfl, by decide, by decide, by omega, fun x1 hx1 => ?_⟩
    have hx1 : ∃ w : Int, x1 = .int w ∧ 1 ≤ w ∧ w ≤ 25 := by
      simp at hx1
      rcases hx1 with rfl | rfl | rfl | rfl
      · exact ⟨1, rfl, by decide, by decide⟩
      · exact ⟨5, rfl, by decide, by decide⟩
      · exact ⟨9, rfl, by decide, by decide⟩
      · exact ⟨25, rfl, by decide, by decide⟩
    obtain ⟨w, rfl, w1, w2⟩ := hx1
    refine (c_draw h1).mpr ⟨by omega, by omega, by omega, fun r r0 r1 => ?_⟩
    refine ⟨by simp [sizeMax], ?_⟩
    refine (call_is h2).mpr ⟨rfl, _, [.int 1, .int 1, .int c], rfl, rfl, (show 0 < 3 by decide), (show 3 < 1000000 by decide), by omega, fun x2 hx2 => ?_⟩
    have hx2 : ∃ b : Int, x2 = .int b ∧ (b = 1 ∨ b = 2 ∨ b = 3) := by
      simp at hx2
      rcases hx2 with rfl | rfl
      · exact ⟨1, rfl, .inl rfl⟩
      · exact ⟨c, rfl, hc⟩
    obtain ⟨b, rfl, hb⟩ := hx2
    refine c_low h3 (by omega) (p2 hb) ?_
    have orate := ov6 (N := 1000) hb r0 (by omega)
    generalize r /. b = rate at orate
    have om' : Ov 6 1000 mom := om.le (by omega)
    have smom : SzM mom := om'.sz (by decide) (by decide +kernel) (by decide +kernel)
    have tail : ∀ acc' : Cms, ComI acc' → acc' ≠ [] → acc'.length ≤ i + 1 → (∀ p ∈ acc', p.1 ≤ mom) → callW Phy f_law_draw [.stm, .int 12] (n' + 1 + 1 + 1) (fun y n => binW .add (.int 1) y fun d2 => callW Phy f_law_low [d2, .int c] n (fun x4 n => callW Phy f_law_plus [rD mom, x4] n (fun d3 n => kk ⟨[.val .stm, .val (.int 6), .own (acc'.map cmD), .val d3, .val (.int c), .val x, .val (rD rate)], n⟩) (fun e n => Ed e n)) (fun e n => Ed e n)) (fun e n => Ed e n) := fun acc' hC' hne hl' hle => by
      refine (c_draw h1).mpr ⟨by decide, by decide, by omega, fun u u0 u1 => ?_⟩
      refine bin_add.mpr ?_
      refine c_low h3 hc0 (p2 hc) ?_
      have ou := ov6 (r := 1 + u) (N := 72) hc (by omega) (by omega)
      have pu : 0 < (1 + u) /. c := pos6 hc0 (by omega)
      generalize (1 + u) /. c = du at ou pu
      refine (call_is h4).mpr ⟨rfl, mom, du, rfl, smom, ou.1.sz (by decide) (by decide +kernel) (by decide +kernel), ?_⟩
      have lt : mom < mom + du := by
        have := (Rat.add_lt_add_left (c := mom)).mpr pu
        rwa [Rat.add_zero] at this
      refine hkk _ ⟨i + 1, acc', mom + du, .val x, .val (rD rate), _, by omega, hl', hC', fun p hp => ?_, (fun z => absurd z hne), (fun z => absurd z hne), ⟨?_, ?_⟩, ?_, ?_, rfl⟩
      · have := hle p hp
        refine Rat.not_le.mp fun z => Rat.not_le.mpr lt ?_
        exact Rat.le_trans z this
      · rw [Nat.add_mul, Nat.one_mul]
        exact om.add ou.1 (by decide)
      · exact Rat.le_trans pm (Rat.le_of_lt lt)
      · omega
      · omega
    refine (deq_nil ok_cms).mpr ?_
    rcases List.eq_nil_or_concat acc with e | ⟨ini, p, e⟩
    · subst e
      have := hm0 rfl
      simp
      refine ⟨by simp [sizeMax], by simp [sizeMax], ?_⟩
      exact tail [(mom, rate)] (hC.snoc (fun p hp => by cases hp) hm0 ⟨om', pm⟩ orate (by simp)) (by simp) (by simp) (fun p hp => by rw [List.mem_singleton.mp hp]; exact Rat.le_refl)
    · rw [List.concat_eq_append] at e
      subst e
      simp
      refine ⟨cmD p, at_m1, rD p.2, at1, ?_⟩
      refine neW_rD.mpr ?_
      have lastp : ((ini.map cmD) ++ [cmD p]) = (ini ++ [p]).map cmD := by rw [List.map_append]; rfl
      by_cases z : p.2 = rate
      · simp [z]
        have := tail (ini ++ [p]) hC (by simp) (by omega) (fun q hq => Rat.le_of_lt (hlt q hq))
        rw [← lastp] at this
        exact this
      · simp [z]
        have hl9 : (ini ++ [p]).length ≤ i := ha
        rw [List.length_append, List.length_singleton] at hl9
        refine ⟨by simp [sizeMax], by show _ < 1000000; omega, ?_⟩
        have := tail (ini ++ [p] ++ [(mom, rate)]) (hC.snoc hlt hm0 ⟨om', pm⟩ orate (by simp [z])) (by simp) (by simp; omega) (fun q hq => by
          rcases List.mem_append.mp hq with hq | hq
          · exact Rat.le_of_lt (hlt q hq)
          · rw [List.mem_singleton.mp hq]; exact Rat.le_refl)
        simpa [cmD] using this
  · rintro ρ ⟨i, acc, mom, z5, z6, n', hr, ha, hC, hlt, hm0, hi0, om, hn1, hn2, rfl⟩
    simp at hr
    simp [wS, wX, wT, wA, wO, wI, sem, ofV, ofI, lookV, lookB, lookO, sl0, blW, intW, lstW, truW, objW, X.isNil, List.getElem?_cons_zero, List.getElem?_cons_succ]
    refine h acc n' hn1 (by omega) { toComI := hC, ne := fun z => by have := hi0 z; omega, len := by omega }
  · exact ⟨0, [], 0, .un, .un, _, by simp [rangeD], Nat.le_refl _, ⟨.nil, (fun p hp => by cases hp), rfl, (fun p hp => by cases hp), (fun p hp => by cases hp)⟩, (fun p hp => by cases hp), (fun _ => rfl), (fun _ => rfl), ⟨⟨0, by rw [Rat.zero_divInt], Nat.zero_le _⟩, by decide⟩, by omega, Nat.le_refl _, rfl⟩
end LW
/-! comers in other terms are no bad comers. -/
namespace LW
open PySem PySem.Spec L2 Q
open scoped Rat
theorem gen_int' {i : Int} : D.gen (.int i) = true := rfl
theorem seq_genD {d : D} {xs : List D} (h : d.seq = some xs) : D.gen d = true := by
  cases d <;> first | rfl | cases h
theorem Rw.gb {w : Nat} {d : D} {q : Rat} (h : Rw w d q) (hw : w ≤ 4000) : GB d := by
  obtain ⟨t, b, e, hb, eq, h1, h2⟩ := h
  refine ⟨⟨seq_genD e, fun xs hx y hy => ?_⟩, fun t' b' e' => ?_⟩
  · rw [e] at hx
    cases hx
    rcases List.mem_cons.mp hy with rfl | hy
    · rfl
    · rw [List.mem_singleton.mp hy]; rfl
  · rw [e] at e'
    cases e'
    exact ⟨Nat.lt_of_lt_of_le h1 (Nat.pow_le_pow_right (by decide) hw), Nat.lt_of_lt_of_le h2 (Nat.pow_le_pow_right (by decide) hw)⟩
theorem Rw.hp {w : Nat} {d : D} {q : Rat} (h : Rw w d q) (h0 : 0 ≤ q) : isHp d = true := by
  obtain ⟨t, b, e, hb, rfl, _, _⟩ := h
  have ht : 0 ≤ t := (Rat.divInt_nonneg_iff_of_pos_right hb).mp h0
  unfold isHp
  rw [e]
  show ((true && (true && decide (1 ≤ b))) && decide (0 ≤ t)) = true
  rw [decide_eq_true ht, decide_eq_true (by omega : 1 ≤ b)]
  rfl
theorem Rw.q {w : Nat} {d : D} {q : Rat} (h : Rw w d q) : qOf d = q := by
  obtain ⟨t, b, e, hb, rfl, _, _⟩ := h
  unfold qOf
  rw [e]
theorem Rw.num0 {w : Nat} {d : D} (h : Rw w d 0) : num d = 0 := by
  obtain ⟨t, b, e, hb, eq, _, _⟩ := h
  unfold num
  rw [e]
  have h1 : (t /. b).num = 0 := by rw [eq]; rfl
  have h2 : 0 ≤ t := (Rat.divInt_nonneg_iff_of_pos_right hb).mp (by rw [eq]; exact Rat.le_refl)
  have h3 : 0 ≤ -t := (Rat.divInt_nonneg_iff_of_pos_right hb).mp (by rw [← Rat.neg_divInt, eq]; exact Rat.le_refl)
  show t = 0
  omega
theorem RwC.cm {w : Nat} {x : D} {p : Rat × Rat} (h : RwC w x p) (hw : w ≤ 4000) (h0 : 0 ≤ p.1) (h1 : 0 ≤ p.2) : isCm x = true ∧ GM x ∧ Rw w (c0 x) p.1 ∧ Rw w (c1 x) p.2 := by
  obtain ⟨a, b, e, ra, rb⟩ := h
  refine ⟨?_, ⟨seq_genD e, fun xs hx y hy => ?_⟩, ?_, ?_⟩
  · unfold isCm
    rw [e]
    show (isHp a && isHp b) = true
    rw [ra.hp h0, rb.hp h1]
    rfl
  · rw [e] at hx
    cases hx
    rcases List.mem_cons.mp hy with rfl | hy
    · exact ra.gb hw
    · rw [List.mem_singleton.mp hy]; exact rb.gb hw
  · unfold c0
    rw [e]
    exact ra
  · unfold c1
    rw [e]
    exact rb
theorem RwL.cons {w : Nat} {x : D} {xs : List D} {p : Rat × Rat} {L : Cms} (h : RwL w (x :: xs) (p :: L)) : RwC w x p ∧ RwL w xs L :=
  ⟨h.2 0 x p rfl rfl, by have := h.1; simp at this; exact this, fun i y q hy hq => h.2 (i + 1) y q hy hq⟩
theorem RwL.prs {w : Nat} (hw : w ≤ 4000) : ∀ {xs : List D} {L : Cms}, RwL w xs L → (∀ p ∈ L, 0 ≤ p.1 ∧ 0 ≤ p.2) → prs xs = L ∧ ∀ x ∈ xs, GM x
  | [], [], _, _ => ⟨rfl, fun x hx => by cases hx⟩
  | [], _ :: _, h, _ => by have := h.1; cases this
  | _ :: _, [], h, _ => by have := h.1; cases this
  | x :: xs, p :: L, h, hp => by
    obtain ⟨h1, h2⟩ := h.cons
    obtain ⟨i1, i2⟩ := RwL.prs hw h2 fun q hq => hp q (List.mem_cons_of_mem _ hq)
    obtain ⟨p1, p2⟩ := hp p List.mem_cons_self
    obtain ⟨_, gm, r0, r1⟩ := h1.cm hw p1 p2
    refine ⟨?_, fun y hy => ?_⟩
    · show (qOf (c0 x), qOf (c1 x)) :: LW.prs xs = _
      rw [i1, r0.q, r1.q]
    · rcases List.mem_cons.mp hy with rfl | hy
      · exact gm
      · exact i2 y hy
theorem bad_none {w : Nat} (hw : w ≤ 4000) : ∀ {xs : List D} {L : Cms} {ah : Option D} {i : Nat}, RwL w xs L → (∀ p ∈ L, 0 ≤ p.1 ∧ 0 ≤ p.2) → L.Pairwise (fun p q => p.1 < q.1) → (∀ a, ah = some a → ∀ p ∈ L, qOf a < p.1) → (ah = none → ∀ p, L.head? = some p → p.1 = 0) → badF ah i xs = none
  | [], _, _, _, _, _, _, _, _ => by unfold badF; rfl
  | _ :: _, [], _, _, h, _, _, _, _ => by have := h.1; cases this
  | x :: xs, p :: L, ah, i, h, hp, hpw, ha, h0 => by
    obtain ⟨h1, h2⟩ := h.cons
    obtain ⟨p1, p2⟩ := hp p List.mem_cons_self
    obtain ⟨cm, gm, r0, r1⟩ := h1.cm hw p1 p2
    have hw' := List.pairwise_cons.mp hpw
    have rest : badF (some (c0 x)) (i + 1) xs = none := bad_none hw h2 (fun q hq => hp q (List.mem_cons_of_mem _ hq)) hw'.2 (fun a e q hq => by cases e; rw [r0.q]; exact hw'.1 q hq) (fun z => by cases z)
    cases ah with
    | none =>
      have e0 := h0 rfl p rfl
      rw [badF_n cm (by rw [e0] at r0; exact r0.num0)]
      exact rest
    | some a =>
      rw [badF_s cm (by rw [r0.q]; exact ha a rfl p List.mem_cons_self)]
      exact rest
end LW
/-! comers split, over data: facts. -/
namespace LW
open PySem PySem.Spec L2 Q
open scoped Rat
/-- a split of L: the same comers when those whose rate goes on are dropped -/
structure SplOk (L L' : Cms) : Prop where
  kp : kpF [] L' = L
  inc : L'.Pairwise (fun p q => p.1 < q.1)
  hd : ∀ p, L'.head? = some p → p.1 = 0
  nn : ∀ p ∈ L', 0 ≤ p.1 ∧ 0 ≤ p.2
  mo : ∀ p ∈ L', Ov 12 5000 p.1 ∧ Ov 12 5000 p.2
  ne : L' ≠ []
/-- one more piece, with the rate that goes on -/
theorem SplOk.more {L L' : Cms} {m r : Rat} (s : SplOk L L') (hr : L'.getLast?.map Prod.snd = some r) (hk : L.getLast?.map Prod.snd = some r) (hm : ∀ p ∈ L', p.1 < m) (om : Ov 12 5000 m) (m0 : 0 ≤ m) : SplOk L (L' ++ [(m, r)]) := by
  have hr' : ∃ p ∈ L', p.2 = r := by
    obtain ⟨p, hp, e⟩ := Option.map_eq_some_iff.mp hr
    exact ⟨p, List.mem_of_getLast? hp, e⟩
  obtain ⟨p0, hp0, er⟩ := hr'
  refine ⟨?_, ?_, fun p hp => ?_, fun p hp => ?_, fun p hp => ?_, by simp⟩
  · rw [kpF_snoc, s.kp]
    unfold kp1
    rw [if_pos hk]
  · refine List.pairwise_append.mpr ⟨s.inc, List.pairwise_singleton _ _, fun p hp q hq => ?_⟩
    rw [List.mem_singleton.mp hq]
    exact hm p hp
  · cases hL : L' with
    | nil => exact absurd hL s.ne
    | cons a as =>
      rw [hL] at hp
      exact s.hd p (by rw [hL]; exact hp)
  · rcases List.mem_append.mp hp with hp | hp
    · exact s.nn p hp
    · rw [List.mem_singleton.mp hp]
      exact ⟨m0, by show 0 ≤ r; rw [← er]; exact (s.nn p0 hp0).2⟩
  · rcases List.mem_append.mp hp with hp | hp
    · exact s.mo p hp
    · rw [List.mem_singleton.mp hp]
      exact ⟨om, by show Ov 12 5000 r; rw [← er]; exact (s.mo p0 hp0).2⟩
/-- the next comer, with another rate -/
theorem SplOk.next {L L' : Cms} {q : Rat × Rat} (s : SplOk L L') (hk : ¬ L.getLast?.map Prod.snd = some q.2) (hm : ∀ p ∈ L', p.1 < q.1) (oq : Ov 12 5000 q.1 ∧ Ov 12 5000 q.2) (q0 : 0 ≤ q.1 ∧ 0 ≤ q.2) : SplOk (L ++ [q]) (L' ++ [q]) := by
  refine ⟨?_, ?_, fun p hp => ?_, fun p hp => ?_, fun p hp => ?_, by simp⟩
  · rw [kpF_snoc, s.kp]
    unfold kp1
    rw [if_neg hk]
  · refine List.pairwise_append.mpr ⟨s.inc, List.pairwise_singleton _ _, fun p hp r hr => ?_⟩
    rw [List.mem_singleton.mp hr]
    exact hm p hp
  · cases hL : L' with
    | nil => exact absurd hL s.ne
    | cons a as =>
      rw [hL] at hp
      exact s.hd p (by rw [hL]; exact hp)
  · rcases List.mem_append.mp hp with hp | hp
    · exact s.nn p hp
    · rw [List.mem_singleton.mp hp]; exact q0
  · rcases List.mem_append.mp hp with hp | hp
    · exact s.mo p hp
    · rw [List.mem_singleton.mp hp]; exact oq
theorem kpF_pre : ∀ (ps acc : Cms), ∃ r, kpF acc ps = acc ++ r ∧ r.length ≤ ps.length
  | [], acc => ⟨[], by simp [kpF], Nat.le_refl _⟩
  | p :: ps, acc => by
    obtain ⟨r, e, hr⟩ := kpF_pre ps (kp1 acc p)
    have e2 : kpF acc (p :: ps) = kpF (kp1 acc p) ps := rfl
    rw [e2, e]
    unfold kp1
    split
    · exact ⟨r, rfl, by rw [List.length_cons]; omega⟩
    · exact ⟨p :: r, by simp, by rw [List.length_cons, List.length_cons]; omega⟩
theorem kpF_app {acc ps qs : Cms} : kpF acc (ps ++ qs) = kpF (kpF acc ps) qs := by
  unfold kpF
  rw [List.foldl_append]
/-- of comers that are kept whole, no two in a row have one rate -/
theorem kp_next {A B : Cms} {p : Rat × Rat} (h : kpF [] (A ++ p :: B) = A ++ p :: B) : kpF [] A = A ∧ ¬ A.getLast?.map Prod.snd = some p.2 := by
  rw [kpF_app] at h
  obtain ⟨r1, e1, l1⟩ := kpF_pre A []
  rw [List.nil_append] at e1
  have e3 : kpF (kpF [] A) (p :: B) = kpF (kp1 (kpF [] A) p) B := rfl
  obtain ⟨r2, e2, l2⟩ := kpF_pre B (kp1 (kpF [] A) p)
  rw [e3, e2] at h
  have hl := congrArg List.length h
  rw [List.length_append, List.length_append, List.length_cons] at hl
  by_cases z : (kpF [] A).getLast?.map Prod.snd = some p.2
  · have ek : kp1 (kpF [] A) p = kpF [] A := by
      unfold kp1
      rw [if_pos z]
    rw [ek, e1] at hl
    omega
  · have ek : kp1 (kpF [] A) p = kpF [] A ++ [p] := by
      unfold kp1
      rw [if_neg z]
    rw [ek, List.append_assoc] at h
    have hA : kpF [] A = A := by
      have la : (kpF [] A).length = A.length := by
        rw [ek, List.length_append, List.length_singleton, e1] at hl
        rw [e1]
        omega
      exact (List.append_inj h la).1
    exact ⟨hA, by rw [hA] at z; exact z⟩
theorem half_eq : (1 /. 2 : Rat) = 1 / (2 : Rat) := Rat.divInt_eq_div 1 2
theorem half_D : rD (1 /. 2) = frD 1 2 := rfl
theorem two_mul' {p : Rat} : p * 2 = p + p := by
  have : (2 : Rat) = 1 + 1 := by decide +kernel
  rw [this, Rat.mul_add, Rat.mul_one]
theorem mid_lt {p q : Rat} (h : p < q) : p < (p + q) * (1 /. 2) ∧ (p + q) * (1 /. 2) < q := by
  have h2 : (0 : Rat) < 2 := by decide
  have e : (p + q) * (1 /. 2) = (p + q) / 2 := by
    rw [half_eq, Rat.div_def, Rat.div_def, Rat.one_mul]
  rw [e]
  constructor
  · rw [Rat.lt_div_iff h2, two_mul']
    exact (Rat.add_lt_add_left (c := p)).mpr h
  · rw [Rat.div_lt_iff h2, two_mul']
    exact (Rat.add_lt_add_right (c := q)).mpr h
theorem mid_ov {p q : Rat} (h1 : Ov 6 1000 p) (h2 : Ov 6 1000 q) : Ov 12 5000 ((p + q) * (1 /. 2)) := by
  have a : Ov 6 2000 (p + q) := h1.add h2 (by decide)
  have b : Ov 2 1 (1 /. 2) := ⟨1, rfl, by decide⟩
  have c : Ov (6 * 2) (2000 * 1) ((p + q) * (1 /. 2)) := a.mul b
  exact c.le (by decide)
end LW
/-! _law_split, over data. -/
namespace LW
open PySem PySem.Spec L2 Q
open scoped Rat
variable {Phy : List Fn}
def lsb : S := match s_law_split with
  | .sq _ (.sq (.for_ _ _ b) _) => b
  | _ => .nl
def lse : S := match s_law_split with
  | .sq _ (.sq _ (.sq _ r)) => r
  | _ => .nl
theorem s_ls_eq : s_law_split = (.sq (.asgO 2 (.lst .nil)) (.sq (.for_ (.tp (.cons (.nm 3) (.cons (.tp (.cons (.nm 4) (.cons (.nm 5) .nil))) .nil))) (.ite_ (.var 1)) lsb) (.sq (.frz 2) lse))) := rfl
def F_lsplit : Fn := { name := "_law_split", ps := ["_law_stream_here", "_law_comers_here"], sp := fun ds n Q _ => ∃ L : Cms, ds = [.stm, cL L] ∧ ComOk L ∧ n + 20 ≤ NB ∧ ∀ (L' : Cms) (n' : Nat), n ≤ n' → n' ≤ n + 20 → SplOk L L' → L'.length ≤ 13 → Q (cL L') n' }
theorem first_spl {p : Rat × Rat} (h0 : p.1 = 0) (o : Ov 12 5000 p.1 ∧ Ov 12 5000 p.2) (h2 : 0 ≤ p.1 ∧ 0 ≤ p.2) : SplOk [p] [p] :=
  ⟨rfl, List.pairwise_singleton _ _, fun q hq => by cases hq; exact h0, fun q hq => by rw [List.mem_singleton.mp hq]; exact h2, fun q hq => by rw [List.mem_singleton.mp hq]; exact o, by simp⟩
theorem ov12 {q : Rat} (h : Ov 6 1000 q) : Ov 12 5000 q := by
  have := h.up (m := 2) (by decide)
  exact Ov.le (k := 12) this (by decide)
theorem drop_at {α : Type} {L : List α} {j : Nat} {p : α} {r : List α} (h : L.drop j = p :: r) : L[j]? = some p ∧ r = L.drop (j + 1) ∧ L.take (j + 1) = L.take j ++ [p] ∧ j < L.length := by
  have hj : j < L.length := by
    refine Nat.lt_of_not_le fun z => ?_
    rw [List.drop_eq_nil_of_le z] at h
    cases h
  rw [List.drop_eq_getElem_cons hj] at h
  obtain ⟨h1, h2⟩ := List.cons.inj h
  have e : L[j]? = some p := by rw [List.getElem?_eq_getElem hj, h1]
  refine ⟨e, h2.symm, ?_, hj⟩
  rw [List.take_succ, e]
  rfl
theorem spl_step {L acc : Cms} {j : Nat} {p : Rat × Rat} {r : Cms} (ok : ComOk L) (hj : L.drop j = p :: r) (h0 : j = 0 → acc = []) (hs : 0 < j → SplOk (L.take j) acc) (hm : ∀ q ∈ L.drop j, ∀ p ∈ acc, p.1 < q.1) : SplOk (L.take (j + 1)) (acc ++ [p]) := by
  obtain ⟨e, er, et, hjl⟩ := drop_at hj
  have hp : p ∈ L := List.mem_of_getElem? e
  obtain ⟨m1, m2⟩ := ok.mo p hp
  obtain ⟨r1, r2⟩ := ok.rt p hp
  by_cases z : j = 0
  · subst z
    rw [h0 rfl, et, List.take_zero]
    refine first_spl (ok.hd p ?_) ⟨ov12 m1, ov12 r1⟩ ⟨m2, r2⟩
    rw [List.head?_eq_getElem?]
    exact e
  · rw [et]
    refine (hs (by omega)).next ?_ (hm p (by rw [hj]; exact List.mem_cons_self)) ⟨ov12 m1, ov12 r1⟩ ⟨m2, r2⟩
    have hkp := ok.kp
    have eL : L = L.take j ++ p :: r := by rw [← hj, List.take_append_drop]
    rw [eL] at hkp
    exact (kp_next hkp).2
theorem spl_mid {L acc : Cms} {j : Nat} {p q : Rat × Rat} {r : Cms} (ok : ComOk L) (hj : L.drop j = p :: q :: r) (S : SplOk (L.take (j + 1)) (acc ++ [p])) (hm : ∀ q ∈ L.drop j, ∀ p ∈ acc, p.1 < q.1) : SplOk (L.take (j + 1)) (acc ++ [p] ++ [((p.1 + q.1) * (1 /. 2), p.2)]) ∧ p.1 < q.1 := by
  obtain ⟨e, er, et, hjl⟩ := drop_at hj
  have hp : p ∈ L := List.mem_of_getElem? e
  have hq : q ∈ L := List.drop_subset (j + 1) L (by rw [← er]; exact List.mem_cons_self)
  have lt : p.1 < q.1 := by
    have := ok.inc.drop (i := j)
    rw [hj] at this
    exact (List.pairwise_cons.mp this).1 q List.mem_cons_self
  obtain ⟨l1, l2⟩ := mid_lt lt
  refine ⟨S.more (by simp) (by rw [et]; simp) (fun x hx => ?_) (mid_ov (ok.mo p hp).1 (ok.mo q hq).1) (Rat.le_trans (ok.mo p hp).2 (Rat.le_of_lt l1)), lt⟩
  rcases List.mem_append.mp hx with hx | hx
  · exact rlt (hm p (by rw [hj]; exact List.mem_cons_self) x hx) l1
  · rw [List.mem_singleton.mp hx]
    exact l1
theorem rD_int {i : Int} : rD (i : Rat) = frD i 1 := rfl
/-- the last piece -/
theorem spl_end {L ini : Cms} {p : Rat × Rat} {u : Int} (S : SplOk L (ini ++ [p])) (hl : L.getLast?.map Prod.snd = some p.2) (o : Ov 6 1000 p.1) (u0 : 1 ≤ u) (u1 : u ≤ 4) : SplOk L (ini ++ [p] ++ [(p.1 + (u : Rat), p.2)]) := by
  have pu : (0 : Rat) < (u : Rat) := Rat.intCast_pos.mpr (by omega)
  have lt : p.1 < p.1 + (u : Rat) := by
    have := (Rat.add_lt_add_left (c := p.1)).mpr pu
    rwa [Rat.add_zero] at this
  have ou : Ov 6 24 (u : Rat) := ⟨u * 6, by
    have e : ((6 : Nat) : Int) = 1 * 6 := rfl
    rw [e, Rat.divInt_mul_right (by decide)]
    exact (rat_self (u : Rat)).symm, by rw [Int.natAbs_mul]; show u.natAbs * 6 ≤ 24; omega⟩
  have o2 : Ov 12 5000 (p.1 + (u : Rat)) := by
    have := (o.add ou (by decide)).up (m := 2) (by decide)
    exact Ov.le (k := 12) this (by decide)
  refine S.more (by simp) hl (fun x hx => ?_) o2 (Rat.le_trans (S.nn p (by simp)).1 (Rat.le_of_lt lt))
  rcases List.mem_append.mp hx with hx | hx
  · have := (List.pairwise_append.mp S.inc).2.2 x hx p List.mem_cons_self
    exact rlt this lt
  · rw [List.mem_singleton.mp hx]
    exact lt
theorem does_lsplit (h1 : Phy[f_law_draw]? = some F_draw) (h2 : Phy[f_law_plus]? = some F_lplus) (h3 : Phy[f_law_times]? = some F_ltimes) : Does Phy N_law_split F_lsplit s_law_split := by
  rintro ds n Qd Ed hl ⟨L, rfl, ok, hn, h⟩
  clear hl
  rw [s_ls_eq]
  simp [N_law_split, wS, wX, wT, wA, wO, wI, sem, ofV, ofI, lookV, lookB, lookO, sl0, blW, intW, lstW, truW, objW, X.isNil, List.getElem?_cons_zero, List.getElem?_cons_succ, seqW]
  refine forL_ind (fun rest ρ => ∃ (j : Nat) (acc : Cms) (z3 z4 z5 z6 : Slot) (n' : Nat), rest = (enumD (L.map cmD)).drop j ∧ j ≤ L.length ∧ (j = 0 → acc = []) ∧ (0 < j → SplOk (L.take j) acc) ∧ (0 < j → acc.getLast?.map Prod.snd = (L.take j).getLast?.map Prod.snd) ∧ (j = L.length → acc.getLast?.map Prod.fst = L.getLast?.map Prod.fst) ∧ (∀ q ∈ L.drop j, ∀ p ∈ acc, p.1 < q.1) ∧ acc.length ≤ 2 * j ∧ n ≤ n' ∧ n' ≤ n + j ∧ ρ = ⟨[.val .stm, .val (cL L), .own (acc.map cmD), z3, z4, z5, z6], n'⟩) ?_ ?_ ?_
  · rintro x rest ρ kk ⟨j, acc, z3, z4, z5, z6, n', er, hjl, a0, hS, hsn, hfs, hm, hlen, hn1, hn2, rfl⟩ hkk
    obtain ⟨y, hj, rfl, er2, ed⟩ := enum_drop' er
    rw [List.length_map] at hj
    have ed2 : L.drop j = L[j] :: L.drop (j + 1) := List.drop_eq_getElem_cons hj
    have ey : y = cmD L[j] := by
      rw [← List.map_drop, ed2, List.map_cons] at ed
      exact (List.cons.inj ed).1.symm
    subst ey
    have S1 := spl_step ok ed2 a0 hS hm
    generalize hp : L[j] = p at *
    obtain ⟨e, _, et, _⟩ := drop_at ed2
    refine unp3 ?_
    have hl6 := ok.len
    unfold lsb s_law_split
    simp [wS, wX, wT, wA, wO, wI, sem, ofV, ofI, lookV, lookB, lookO, sl0, blW, intW, lstW, truW, objW, X.isNil, List.getElem?_cons_zero, List.getElem?_cons_succ, bin_add, len_lst, ltW_int]
    refine ⟨by simp [sizeMax], by show _ < 1000000; omega, ?_⟩
    have smom : ∀ q ∈ L, SzM q.1 := fun q hq => (ok.mo q hq).1.sz (by decide) (by decide +kernel) (by decide +kernel)
    have hpL : p ∈ L := List.mem_of_getElem? e
    have snd1 : ∀ A : Cms, A.getLast?.map Prod.snd = some p.2 → A.getLast?.map Prod.snd = (L.take (j + 1)).getLast?.map Prod.snd := fun A hA => by
      rw [hA, et]
      simp
    have plain : ∀ n2 z, n' ≤ n2 → n2 ≤ n' + 1 → kk ⟨[.val .stm, .val (cL L), .own (acc.map cmD ++ [.tup [rD p.1, rD p.2]]), .val (.int j), .val (rD p.1), .val (rD p.2), z], n2⟩ := fun n2 z g1 g2 => by
      refine hkk _ ⟨j + 1, acc ++ [p], .val (.int j), .val (rD p.1), .val (rD p.2), z, n2, er2, hj, (fun z => by omega), (fun _ => S1), (fun _ => snd1 _ (by simp)), fun z => ?_, fun q hq x hx => ?_, by rw [List.length_append, List.length_singleton]; omega, by omega, by omega, by rw [List.map_append]; rfl⟩
      · have : L.drop (j + 1) = [] := List.drop_eq_nil_of_le (by omega)
        have eL : L = L.take j ++ [p] := by
          conv => lhs; rw [← List.take_append_drop (j + 1) L, this, List.append_nil, et]
        rw [eL]
        simp
      · have hqL : q ∈ L.drop j := by rw [ed2]; exact List.mem_cons_of_mem _ hq
        rcases List.mem_append.mp hx with hx | hx
        · exact hm q hqL x hx
        · rw [List.mem_singleton.mp hx]
          have := ok.inc.drop (i := j)
          rw [ed2] at this
          exact (List.pairwise_cons.mp this).1 q hq
    by_cases c : j + 1 < L.length
    · have c' : (j : Int) + 1 < (L.length : Int) := by omega
      rw [if_pos c']
      refine (c_draw h1).mpr ⟨by decide, by decide, by omega, fun r r0 r1 => eq_int.mpr ?_⟩
      by_cases cr : r = 0
      · rw [decide_eq_true cr]
        have ed3 : L.drop (j + 1) = L[j + 1] :: L.drop (j + 2) := List.drop_eq_getElem_cons c
        have eq1 : L[j + 1]? = some L[j + 1] := List.getElem?_eq_getElem c
        generalize L[j + 1] = q at ed3 eq1
        have hqL : q ∈ L := List.mem_of_getElem? eq1
        have ed4 : L.drop j = p :: q :: L.drop (j + 2) := by rw [ed2, ed3]
        obtain ⟨S2, lt⟩ := spl_mid ok ed4 S1 hm
        refine ⟨cmD q, at_i (by rw [List.getElem?_map, eq1]; rfl), rD q.1, at0, ?_⟩
        refine (call_is h2).mpr ⟨rfl, p.1, q.1, rfl, smom p hpL, smom q hqL, ?_⟩
        refine ⟨by simp [sizeMax], ?_⟩
        have so : SzM (p.1 + q.1) := by
          have : Ov 6 2000 (p.1 + q.1) := (ok.mo p hpL).1.add (ok.mo q hqL).1 (by decide)
          exact this.sz (by decide) (by decide +kernel) (by decide +kernel)
        refine (call_is h3).mpr ⟨rfl, p.1 + q.1, 1 /. 2, rfl, so, ⟨by decide +kernel, by decide +kernel⟩, ?_⟩
        refine ⟨by simp [sizeMax], by show _ < 1000000; omega, ?_⟩
        refine hkk _ ⟨j + 1, acc ++ [p] ++ [((p.1 + q.1) * (1 /. 2), p.2)], _, _, _, _, n' + 1, er2, hj, (fun z => by omega), (fun _ => S2), (fun _ => snd1 _ (by simp)), (fun z => by omega), fun y hy x hx => ?_, by rw [List.length_append, List.length_append, List.length_singleton, List.length_singleton]; omega, by omega, by omega, by rw [List.map_append, List.map_append, List.append_assoc]; rfl⟩
        have hyL : y ∈ L.drop j := by rw [ed2]; exact List.mem_cons_of_mem _ hy
        have hpy : q.1 ≤ y.1 := by
          rw [ed3] at hy
          rcases List.mem_cons.mp hy with rfl | hy
          · exact Rat.le_refl
          · have := ok.inc.drop (i := j + 1)
            rw [ed3] at this
            exact Rat.le_of_lt ((List.pairwise_cons.mp this).1 y hy)
        rcases List.mem_append.mp hx with hx | hx
        · rcases List.mem_append.mp hx with hx | hx
          · exact hm y hyL x hx
          · rw [List.mem_singleton.mp hx]
            exact Rat.not_le.mp fun z => Rat.not_le.mpr lt (Rat.le_trans hpy z)
        · rw [List.mem_singleton.mp hx]
          exact Rat.not_le.mp fun z => Rat.not_le.mpr (mid_lt lt).2 (Rat.le_trans hpy z)
      · rw [decide_eq_false cr]
        exact plain _ _ (by omega) (by omega)
    · have c' : ¬ (j : Int) + 1 < (L.length : Int) := by omega
      rw [if_neg c', if_neg c']
      exact plain _ _ (by omega) (by omega)
  · rintro ρ ⟨j, acc, z3, z4, z5, z6, n', er, hjl, a0, hS, hsn, hfs, hm, hlen, hn1, hn2, rfl⟩
    have e := enum_end er
    rw [← List.map_drop, List.map_eq_nil_iff] at e
    have hjL : j = L.length := by
      have := List.drop_eq_nil_iff.mp e
      omega
    have h0 : 0 < j := by
      have := List.length_pos_iff.mpr ok.ne
      omega
    have S := hS h0
    have hs := hsn h0
    rw [List.take_of_length_le (by omega)] at S hs
    have hf := hfs hjL
    unfold lse s_law_split
    simp [wS, wX, wT, wA, wO, wI, sem, ofV, ofI, lookV, lookB, lookO, sl0, blW, intW, lstW, truW, objW, X.isNil, List.getElem?_cons_zero, List.getElem?_cons_succ]
    have hl6 := ok.len
    rcases List.eq_nil_or_concat acc with ea | ⟨ini, p, ea⟩
    · exact absurd ea S.ne
    · rw [List.concat_eq_append] at ea
      subst ea
      have hlp : L.getLast?.map Prod.snd = some p.2 := by rw [← hs]; simp
      have op : Ov 6 1000 p.1 := by
        have hf' : L.getLast?.map Prod.fst = some p.1 := by rw [← hf]; simp
        obtain ⟨q, hq, eq⟩ := Option.map_eq_some_iff.mp hf'
        rw [← eq]
        exact (ok.mo q (List.mem_of_getLast? hq)).1
      have lastp : (ini ++ [p]).map cmD = ini.map cmD ++ [cmD p] := by rw [List.map_append]; rfl
      rw [lastp]
      refine ⟨cmD p, at_m1, rD p.1, at0, ?_⟩
      refine (c_draw h1).mpr ⟨by decide, by decide, by omega, fun u u0 u1 => bin_add.mpr ⟨by simp [sizeMax], ?_⟩⟩
      have su : SzM ((1 + u : Int) : Rat) := ⟨Nat.lt_of_lt_of_le (show (1 + u).natAbs < 2 ^ 3 by show _ < 8; omega) (Nat.pow_le_pow_right (by decide) (by decide)), Nat.lt_of_lt_of_le (show 1 < 2 ^ 1 by decide) (Nat.pow_le_pow_right (by decide) (by decide))⟩
      refine (call_is h2).mpr ⟨rfl, p.1, ((1 + u : Int) : Rat), rfl, op.sz (by decide) (by decide +kernel) (by decide +kernel), su, ?_⟩
      refine ⟨cmD p, at_m1, rD p.2, at1, by simp [sizeMax], by simp [sizeMax], ?_⟩
      rw [List.length_append, List.length_singleton] at hlen
      refine add_l.mpr ⟨by simp [sizeMax]; omega, ?_⟩
      have := h (ini ++ [p] ++ [(p.1 + ((1 + u : Int) : Rat), p.2)]) (n' + 1) (by omega) (by omega) (spl_end S hlp op (by omega) (by omega)) (by simp; omega)
      rw [← lastp]
      unfold cL at this
      rw [List.map_append] at this
      exact this
  · refine ⟨0, [], .un, .un, .un, .un, n, rfl, Nat.zero_le _, fun _ => rfl, fun z => absurd z (by decide), fun z => absurd z (by decide), fun z => ?_, fun q hq p hp => (by cases hp), Nat.le_refl _, Nat.le_refl _, Nat.le_refl _, rfl⟩
    exact absurd (List.length_eq_zero_iff.mp z.symm) ok.ne
end LW
/-! bad things among comers, over data. -/
namespace LW
open PySem PySem.Spec L2 Q
open scoped Rat
variable {Phy : List Fn}
theorem rw_rD {k : Nat} {q : Rat} (h : Sz k q) : Rw k (rD q) q := ⟨q.num, q.den, rfl, rat_pos q, rat_self q, h.t, sz_den h⟩
theorem rwc_cm {k : Nat} {p : Rat × Rat} (h : Sz k p.1 ∧ Sz k p.2) : RwC k (cmD p) p := ⟨rD p.1, rD p.2, rfl, rw_rD h.1, rw_rD h.2⟩
theorem rwl_cm {k : Nat} {L : Cms} (h : SzL k L) : RwL k (L.map cmD) L := ⟨List.length_map .., fun i x p hx hp => by
  rw [List.getElem?_map, hp] at hx
  cases hx
  exact rwc_cm (h p (List.mem_of_getElem? hp))⟩
def preA (ah : Option D) (A : Cms) : Option D := match A.getLast? with
  | some p => some (rD p.1)
  | none => ah
theorem preA_cons {ah : Option D} {p : Rat × Rat} : ∀ {A : Cms}, preA (some (rD p.1)) A = preA ah (p :: A)
  | [] => rfl
  | q :: A => by
    unfold preA
    rw [List.getLast?_cons_cons]
    cases h : (q :: A).getLast? with
    | some r => rfl
    | none => exact absurd (List.getLast?_eq_none_iff.mp h) (by simp)
/-- comers with no bad one -/
structure FineC (A : Cms) : Prop where
  sz : SzL 1000 A
  nn : ∀ p ∈ A, 0 ≤ p.1 ∧ 0 ≤ p.2
  inc : A.Pairwise (fun p q => p.1 < q.1)
  hd : ∀ p, A.head? = some p → p.1 = 0
theorem FineC.take {A : Cms} (f : FineC A) (j : Nat) : FineC (A.take j) := ⟨fun p hp => f.sz p (List.take_subset _ _ hp), fun p hp => f.nn p (List.take_subset _ _ hp), f.inc.take, fun p hp => f.hd p (by
  cases A with
  | nil => rw [List.take_nil] at hp; cases hp
  | cons a A =>
    cases j with
    | zero => cases hp
    | succ j => exact hp)⟩
theorem bad_pre : ∀ {A : Cms} {ah : Option D} {i : Nat} {rest : List D}, SzL 1000 A → (∀ p ∈ A, 0 ≤ p.1 ∧ 0 ≤ p.2) → A.Pairwise (fun p q => p.1 < q.1) → (∀ a, ah = some a → ∀ p ∈ A, qOf a < p.1) → (ah = none → ∀ p, A.head? = some p → p.1 = 0) → badF ah i (A.map cmD ++ rest) = badF (preA ah A) (i + A.length) rest
  | [], _, _, _, _, _, _, _, _ => rfl
  | p :: A, ah, i, rest, hs, hn, hw, ha, h0 => by
    have hw' := List.pairwise_cons.mp hw
    obtain ⟨n1, n2⟩ := hn p List.mem_cons_self
    obtain ⟨cm, gm, r0, r1⟩ := (rwc_cm (hs p List.mem_cons_self)).cm (by decide) n1 n2
    have r0 : Rw 1000 (rD p.1) p.1 := r0
    have ih : badF (some (rD p.1)) (i + 1) (A.map cmD ++ rest) = badF (preA (some (rD p.1)) A) (i + 1 + A.length) rest := bad_pre (fun q hq => hs q (List.mem_cons_of_mem _ hq)) (fun q hq => hn q (List.mem_cons_of_mem _ hq)) hw'.2 (fun a e q hq => by cases e; rw [qOf_rD]; exact hw'.1 q hq) (fun z => by cases z)
    rw [preA_cons (ah := ah)] at ih
    rw [List.length_cons, show i + (A.length + 1) = i + 1 + A.length by omega, ← ih]
    show badF ah i (cmD p :: (A.map cmD ++ rest)) = _
    cases ah with
    | none =>
      have e0 := h0 rfl p rfl
      rw [badF_n cm (by rw [e0] at r0; show num (rD p.1) = 0; rw [e0]; exact r0.num0)]
      rfl
    | some a =>
      rw [badF_s cm (by show qOf a < qOf (rD p.1); rw [qOf_rD]; exact ha a rfl p List.mem_cons_self)]
      rfl
/-- no comer behind one of the moment ah -/
def OddAt (ah : Option Rat) (x : D) : Prop := GM x ∧ (isCm x = false ∨ (ah = none ∧ num (c0 x) ≠ 0) ∨ ∃ q, ah = some q ∧ ¬ q < qOf (c0 x))
theorem bad_odd {A : Cms} {x : D} {rest : List D} (f : FineC A) (h : OddAt (A.getLast?.map Prod.fst) x) : badF none 0 (A.map cmD ++ x :: rest) = some A.length := by
  rw [bad_pre f.sz f.nn f.inc (fun a e => by cases e) (fun _ => f.hd), Nat.zero_add]
  obtain ⟨_, h⟩ := h
  unfold badF
  rcases h with h | ⟨h1, h2⟩ | ⟨q, h1, h2⟩
  · rw [if_pos (.inl h)]
  · have e : preA none A = none := by
      unfold preA
      cases e : A.getLast? with
      | none => rfl
      | some p => rw [e] at h1; cases h1
    rw [if_pos (.inr ⟨e, h2⟩)]
  · obtain ⟨p, hp, rfl⟩ := Option.map_eq_some_iff.mp h1
    have e : preA none A = some (rD p.1) := by
      unfold preA
      rw [hp]
    rw [e]
    by_cases z : isCm x = false
    · rw [if_pos (.inl z)]
    · rw [if_neg (fun w => by rcases w with w | ⟨w, _⟩; exact z w; cases w)]
      show (if qOf (rD p.1) < qOf (c0 x) then _ else _) = _
      rw [if_neg (by rw [qOf_rD]; exact h2)]
def smallB : D → Bool
  | .int i => decide (i.natAbs < 1000)
  | _ => true
def gbB (d : D) : Bool := D.gen d && (match d.seq with | some xs => xs.all fun x => D.gen x && smallB x | none => true)
def gmB (x : D) : Bool := D.gen x && (match x.seq with | some xs => xs.all gbB | none => true)
theorem small_int' {i : Int} (h : smallB (.int i) = true) : i.natAbs < 2 ^ 4000 := Nat.lt_of_lt_of_le (show i.natAbs < 2 ^ 10 from Nat.lt_trans (of_decide_eq_true h) (by decide)) (Nat.pow_le_pow_right (by decide) (by decide))
theorem gb_of {d : D} (h : gbB d = true) : GB d := by
  unfold gbB at h
  rw [Bool.and_eq_true] at h
  obtain ⟨h1, h2⟩ := h
  refine ⟨⟨h1, fun xs hx x hm => ?_⟩, fun t b e => ?_⟩
  · rw [hx] at h2
    have := List.all_eq_true.mp h2 x hm
    rw [Bool.and_eq_true] at this
    exact this.1
  · rw [e] at h2
    have h2 : ((D.gen (.int t) && smallB (.int t)) && ((D.gen (.int b) && smallB (.int b)) && true)) = true := h2
    simp only [Bool.and_eq_true] at h2
    exact ⟨small_int' h2.1.2, small_int' h2.2.1.2⟩
theorem gm_of {x : D} (h : gmB x = true) : GM x := by
  unfold gmB at h
  rw [Bool.and_eq_true] at h
  refine ⟨h.1, fun xs hx y hy => ?_⟩
  have h2 := h.2
  rw [hx] at h2
  exact gb_of (List.all_eq_true.mp h2 y hy)
def odd1 : List D := [.non, .int 5, .str "ab", .tup [], .tup [frD 0 1], .tup [frD 0 1, frD 1 1, frD 1 1], .dK [], .bl true, frD 0 1, .tup [frD 0 1, .int 1], .tup [frD 0 1, frD (-1) 2]]
def odd2 : List D := [.tup [frD 0 1, frD 1 0], .tup [frD 0 1, .tup [.bl true, .int 1]], .tup [frD 0 1, .tup [.str "1", .int 1]], .tup [frD 0 1, .tup [.int 1, .int 1, .int 1]], .tup [frD 0 0, frD 1 1]]
def odd3 : List D := [.tup [frD (-1) 1, frD 1 1], .tup [.tup [.int 0, .bl true], frD 1 1], .tup [.lst 0 [.int 0, .int 1], .non]]
def odd4 : List D := [.tup [frD 0 5, frD 1 1]]
def odd5 : List D := [.tup [frD 1 7, frD 1 1], .tup [frD 2 1, frD 1 1]]
theorem odd_all : (odd1 ++ odd2 ++ odd3).all (fun x => gmB x && !isCm x) = true := by decide +kernel
theorem odd_first : odd5.all (fun x => gmB x && decide (num (c0 x) ≠ 0)) = true := by decide +kernel
def F_lodds : Fn := { name := "_law_odds", ps := ["_law_comers_here", "_law_at"], sp := fun ds n Q _ => ∃ (L : Cms) (j : Nat), ds = [cL L, .int j] ∧ FineC L ∧ j ≤ L.length ∧ ∀ xs : List D, (∀ x ∈ xs, OddAt ((L.take j).getLast?.map Prod.fst) x) → xs.length ≤ 100 → Q (.lst 0 xs) n }
theorem last_take {α : Type} {L : List α} {j : Nat} (h0 : 0 < j) (hj : j ≤ L.length) : ∃ p, L[j - 1]? = some p ∧ (L.take j).getLast? = some p := by
  have h1 : j - 1 < L.length := by omega
  refine ⟨L[j - 1], List.getElem?_eq_getElem h1, ?_⟩
  rw [List.getLast?_eq_getElem?, List.length_take, Nat.min_eq_left hj, List.getElem?_take, if_pos (by omega)]
  exact List.getElem?_eq_getElem h1
theorem odd_same {q : Rat} (hq : Sz 1000 q) (q0 : 0 ≤ q) : OddAt (some q) (.tup [rD q, frD 77 1]) := by
  refine ⟨⟨rfl, fun xs hx y hy => ?_⟩, .inr (.inr ⟨q, rfl, ?_⟩)⟩
  · cases hx
    rcases List.mem_cons.mp hy with rfl | hy
    · exact (rw_rD hq).gb (by decide)
    · rw [List.mem_singleton.mp hy]
      exact gb_of (by decide)
  · show ¬ q < qOf (rD q)
    rw [qOf_rD]
    exact Rat.lt_irrefl
theorem odd_none {ah : Option Rat} : OddAt ah .non := ⟨gm_of rfl, .inl rfl⟩
theorem does_lodds (h1 : Phy[P + 6]? = some pDict0.fn) : Does Phy N_law_odds F_lodds s_law_odds := by
  rintro ds n Qd Ed hl ⟨L, j, rfl, f, hj, h⟩
  clear hl
  have gt : ∀ {a b : Int} {Q : Bool → Prop}, cmpW .gt (.int a) (.int b) Q ↔ Q (decide (b < a)) := Iff.rfl
  simp [s_law_odds, N_law_odds, wS, wX, wT, wA, wO, wI, sem, ofV, ofI, lookV, lookB, lookO, sl0, blW, intW, lstW, truW, objW, X.isNil, List.getElem?_cons_zero, List.getElem?_cons_succ, bin_sub, gt]
  refine ⟨by decide, by decide, by decide, by decide, (call_is h1).mpr ⟨rfl, ?_⟩⟩
  refine ⟨by decide, by decide, by decide, by decide, by decide, by decide, by decide, by decide, by decide, by decide, ?_⟩
  have all3 : ∀ x ∈ odd1 ++ odd2 ++ odd3, ∀ ah, OddAt ah x := fun x hx ah => by
    have := List.all_eq_true.mp odd_all x hx
    rw [Bool.and_eq_true, Bool.not_eq_true'] at this
    exact ⟨gm_of this.1, .inl this.2⟩
  by_cases c : 0 < j
  · obtain ⟨p, e1, e2⟩ := last_take c hj
    have hp : p ∈ L := List.mem_of_getElem? e1
    simp [c]
    refine ⟨by decide, by decide, by decide, cmD p, ?_, rD p.1, at0, by decide, by decide, ?_⟩
    · have e : ((j : Int) - 1) = ((j - 1 : Nat) : Int) := by omega
      rw [e]
      exact at_i (by rw [List.getElem?_map, e1]; rfl)
    · refine add_l.mpr ⟨by simp [sizeMax], ?_⟩
      refine h (odd1 ++ odd2 ++ odd3 ++ odd4 ++ [.tup [rD p.1, frD 77 1]]) (fun x hx => ?_) (by simp [odd1, odd2, odd3, odd4])
      rw [e2]
      rcases List.mem_append.mp hx with hx | hx
      · rcases List.mem_append.mp hx with hx | hx
        · exact all3 x hx _
        · rw [List.mem_singleton.mp hx]
          refine ⟨gm_of (by decide), .inr (.inr ⟨p.1, rfl, ?_⟩)⟩
          have e0 : qOf (c0 (.tup [frD 0 5, frD 1 1])) = 0 := by decide +kernel
          rw [e0]
          exact Rat.not_lt.mpr (f.nn p hp).1
      · rw [List.mem_singleton.mp hx]
        exact odd_same (f.sz p hp).1 (f.nn p hp).1
  · have c0' : j = 0 := by omega
    subst c0'
    simp
    refine ⟨by decide, by decide, ?_⟩
    refine h (odd1 ++ odd2 ++ odd3 ++ odd5) (fun x hx => ?_) (by decide)
    rcases List.mem_append.mp hx with hx | hx
    · exact all3 x hx _
    · have := List.all_eq_true.mp odd_first x hx
      rw [Bool.and_eq_true, decide_eq_true_eq] at this
      exact ⟨gm_of this.1, .inr (.inl ⟨rfl, this.2⟩)⟩
end LW
/-! what is asked of comers that are fine, that are bad, over data. -/
namespace LW
open PySem PySem.Spec L2 Q
open scoped Rat
variable {Phy : List Fn}
theorem sz_ov {k N l : Nat} {q : Rat} (h : Ov k N q) (hk : 0 < k) (h1 : N < 2 ^ l) (h2 : k < 2 ^ l) : Sz l q := h.sz hk h1 h2
theorem sz10 {q : Rat} (h : Ov 6 1000 q) : Sz 10 q := h.sz (by decide) (by decide) (by decide)
theorem ComOk.sz {L : Cms} (ok : ComOk L) : SzL 10 L := fun p hp => ⟨sz10 (ok.mo p hp).1, sz10 (ok.rt p hp).1⟩
theorem SzL.mono {k l : Nat} {L : Cms} (h : SzL k L) (hk : k ≤ l) : SzL l L := fun p hp => ⟨(h p hp).1.mono hk, (h p hp).2.mono hk⟩
theorem ComOk.nn {L : Cms} (ok : ComOk L) : ∀ p ∈ L, 0 ≤ p.1 ∧ 0 ≤ p.2 := fun p hp => ⟨(ok.mo p hp).2, (ok.rt p hp).2⟩
theorem ComOk.fine {L : Cms} (ok : ComOk L) : FineC L := ⟨ok.sz.mono (by decide), ok.nn, ok.inc, ok.hd⟩
theorem SplOk.sz {L L' : Cms} (s : SplOk L L') : SzL 13 L' := fun p hp => ⟨(s.mo p hp).1.sz (by decide) (by decide) (by decide), (s.mo p hp).2.sz (by decide) (by decide) (by decide)⟩
theorem SplOk.fine {L L' : Cms} (s : SplOk L L') : FineC L' := ⟨s.sz.mono (by decide), s.nn, s.inc, s.hd⟩
/-- comers as they may be handed in, that are kept as L -/
structure GivC (L : Cms) (d : D) (xs : List D) : Prop where
  seq : d.seq = some xs
  ne : xs ≠ []
  len : xs.length ≤ 1000
  gm : ∀ x ∈ xs, GM x
  bad : badF none 0 xs = none
  kp : kpF [] (prs xs) = L
theorem GivC.ok {L : Cms} {d : D} {xs : List D} (g : GivC L d xs) : comersOk d xs := ⟨g.seq, g.ne, g.len, g.gm⟩
theorem giv_of {w : Nat} {L L' : Cms} {d : D} {xs : List D} (hw : w ≤ 4000) (hs : d.seq = some xs) (r : RwL w xs L') (f : FineC L') (hl : L'.length ≤ 1000) (hne : L' ≠ []) (hk : kpF [] L' = L) : GivC L d xs := by
  obtain ⟨e, g⟩ := RwL.prs hw r f.nn
  refine ⟨hs, fun z => ?_, by rw [r.1]; exact hl, g, ?_, by rw [e]; exact hk⟩
  · have := r.1
    rw [z] at this
    exact hne (List.length_eq_zero_iff.mp this.symm)
  · exact bad_none hw r f.nn f.inc (fun a e => by cases e) fun _ => f.hd
theorem GivC.g {L : Cms} {d : D} {xs : List D} (g : GivC L d xs) : (D.gen d || D.isFn d) = true := by
  rw [seq_genD g.seq]
  rfl
/-- a moment within the law's -/
structure Mom (m : Rat) : Prop where
  nn : 0 ≤ m
  ov : Ov 12 2400 m
theorem Mom.sz {m : Rat} (h : Mom m) : Sz 12 m := h.ov.sz (by decide) (by decide) (by decide)
theorem unt_ov {L : Cms} {m : Rat} (hm : Ov 12 2400 m) (h : ∀ p ∈ L, Ov 12 2400 p.1) : Ov 12 2400 (untR m L) := by
  cases L with
  | nil => exact hm
  | cons p L =>
    show Ov 12 2400 (if m < p.1 then m else p.1)
    split
    · exact hm
    · exact h p List.mem_cons_self
theorem terms_ov {m : Rat} (hm : Ov 12 2400 m) : ∀ {L : Cms}, (∀ p ∈ L, Ov 12 2400 p.1) → (∀ p ∈ L, Ov 6 1000 p.2) → ∀ t ∈ termsR m L, Ov 72 4800000 t
  | [], _, _, t, ht => by cases ht
  | p :: L, h1, h2, t, ht => by
    rcases List.mem_append.mp ht with ht | ht
    · unfold termR at ht
      split at ht
      · rw [List.mem_singleton.mp ht]
        have a := (unt_ov hm fun q hq => h1 q (List.mem_cons_of_mem _ hq)).sub (h1 p List.mem_cons_self) (by decide)
        exact ((h2 p List.mem_cons_self).mul a).le (by decide)
      · cases ht
    · exact terms_ov hm (fun q hq => h1 q (List.mem_cons_of_mem _ hq)) (fun q hq => h2 q (List.mem_cons_of_mem _ hq)) t ht
theorem ComOk.terms {L : Cms} (ok : ComOk L) {m : Rat} (hm : Mom m) : ∀ t ∈ termsR m L, Ov 72 4800000 t :=
  terms_ov hm.ov (fun p hp => ((ok.mo p hp).1.up (m := 2) (by decide)).le (by decide)) fun p hp => (ok.rt p hp).1
theorem ComOk.rate {L : Cms} (ok : ComOk L) {m : Rat} (hm : Mom m) : ∃ r, rateR L m = some r ∧ Sz 10 r := by
  unfold rateR
  cases hL : L with
  | nil => exact absurd hL ok.ne
  | cons p L1 =>
    have h0 : p.1 = 0 := ok.hd p (by rw [hL]; rfl)
    have hp : p ∈ (p :: L1).filter fun q => !decide (m < q.1) := by
      refine List.mem_filter.mpr ⟨List.mem_cons_self, ?_⟩
      rw [h0, decide_eq_false (Rat.not_lt.mpr hm.nn)]
      rfl
    cases hl : ((p :: L1).filter fun q => !decide (m < q.1)).getLast? with
    | none =>
      rw [List.getLast?_eq_none_iff.mp hl] at hp
      cases hp
    | some q =>
      have hq : q ∈ L := by
        rw [hL]
        exact (List.mem_filter.mp (List.mem_of_getLast? hl)).1
      exact ⟨q.2, rfl, (ok.sz q hq).2⟩
theorem core_r {L : Cms} (ok : ComOk L) {m r : Rat} (hm : Mom m) (hr : rateR L m = some r) {K : D → Prop} (q : K (rD r)) : coreR L m K :=
  ⟨Nat.le_trans ok.len (by decide), ok.sz.mono (by decide), hm.sz.mono (by decide), r, hr, q⟩
theorem core_h {L : Cms} (ok : ComOk L) {m : Rat} (hm : Mom m) {K : D → Prop} (q : K (rD (totR (termsR m L)))) : coreH L m K :=
  ⟨Nat.le_trans ok.len (by decide), ok.sz.mono (by decide), hm.sz.mono (by decide), ok.inc, 72, 4800000, by decide, by decide +kernel, by decide +kernel, ok.terms hm, q⟩
/-- fine comers, a fine moment -/
theorem ask_ok {core : Cms → Rat → (D → Prop) → Prop} {L : Cms} {d dm : D} {xs : List D} {w : Nat} {m : Rat} {n : Nat} {Q : D → Nat → Prop} {E : Exc → Nat → Prop} (g : GivC L d xs) (r : Rw w dm m) (hw : w ≤ 4000) (hm : 0 ≤ m) (q : core L m fun d => Q d n) : spAsk core [d, dm] n Q E :=
  ⟨d, dm, rfl, g.g, .inr ⟨xs, g.ok, .inr ⟨g.bad, (r.gb hw).g, .inr ⟨m, r.hp hm, r.raw hw, by rw [g.kp]; exact q⟩⟩⟩⟩
/-- fine comers, no moment -/
theorem ask_mom {core : Cms → Rat → (D → Prop) → Prop} {L : Cms} {d dm : D} {xs : List D} {n : Nat} {Q : D → Nat → Prop} {E : Exc → Nat → Prop} (g : GivC L d xs) (h1 : GF dm) (h2 : isHp dm = false) (q : E ⟨1, [dm]⟩ n) : spAsk core [d, dm] n Q E :=
  ⟨d, dm, rfl, g.g, .inr ⟨xs, g.ok, .inr ⟨g.bad, h1, .inl ⟨h2, q⟩⟩⟩⟩
/-- no comers -/
theorem ask_none {core : Cms → Rat → (D → Prop) → Prop} {d dm : D} {n : Nat} {Q : D → Nat → Prop} {E : Exc → Nat → Prop} (h1 : (D.gen d || D.isFn d) = true) (h2 : d.seq = none ∨ d.seq = some []) (q : E ⟨2, [.int 0]⟩ n) : spAsk core [d, dm] n Q E :=
  ⟨d, dm, rfl, h1, .inl ⟨h2, q⟩⟩
/-- a bad comer -/
theorem ask_bad {core : Cms → Rat → (D → Prop) → Prop} {d dm : D} {A : Cms} {x : D} {B : List D} {n : Nat} {Q : D → Nat → Prop} {E : Exc → Nat → Prop} (h1 : d.seq = some (A.map cmD ++ x :: B)) (f : FineC A) (h2 : OddAt (A.getLast?.map Prod.fst) x) (hB : ∀ x ∈ B, GM x) (hl : A.length + B.length < 1000) (q : E ⟨2, [.int (A.length : Nat)]⟩ n) : spAsk core [d, dm] n Q E := by
  refine ⟨d, dm, rfl, by rw [seq_genD h1]; rfl, .inr ⟨_, ⟨h1, by simp, by simp; omega, fun y hy => ?_⟩, .inl ⟨A.length, bad_odd f h2, q⟩⟩⟩
  rcases List.mem_append.mp hy with hy | hy
  · obtain ⟨p, hp, rfl⟩ := List.mem_map.mp hy
    exact ((rwc_cm (f.sz p hp)).cm (by decide) (f.nn p hp).1 (f.nn p hp).2).2.1
  · rcases List.mem_cons.mp hy with rfl | hy
    · exact h2.1
    · exact hB y hy
theorem gm_cm {A : Cms} (f : FineC A) : ∀ x ∈ A.map cmD, GM x := fun y hy => by
  obtain ⟨p, hp, rfl⟩ := List.mem_map.mp hy
  exact ((rwc_cm (f.sz p hp)).cm (by decide) (f.nn p hp).1 (f.nn p hp).2).2.1
theorem FineC.drop_gm {A : Cms} (f : FineC A) (j : Nat) : ∀ x ∈ (A.drop j).map cmD, GM x := fun x hx => by
  rw [List.map_drop] at hx
  exact gm_cm f x (List.drop_subset _ _ hx)
theorem eqD_rD {k : Nat} {q : Rat} : eqD (k + 1) (rD q) (rD q) = true := by
  show (decide (2 = 2) && (decide (2 ≤ sizeMax) && (eqD k (.int q.num) (.int q.num) && (eqD k (.int (q.den : Int)) (.int (q.den : Int)) && true)))) = true
  have e : ∀ i : Int, eqD k (.int i) (.int i) = true := fun i => by cases k <;> exact decide_eq_true rfl
  rw [e, e]
  rfl
theorem eqD_2 {k : Nat} {a b : D} {i j : Nat} (h1 : eqD k a a = true) (h2 : eqD k b b = true) : eqD (k + 1) (.lst i [a, b]) (.lst j [a, b]) = true := by
  show (decide (2 = 2) && (decide (2 ≤ sizeMax) && (eqD k a a && (eqD k b b && true)))) = true
  rw [h1, h2]
  rfl
theorem eqD_t2 {k : Nat} {a b : D} (h1 : eqD k a a = true) (h2 : eqD k b b = true) : eqD (k + 1) (.tup [a, b]) (.tup [a, b]) = true := by
  show (decide (2 = 2) && (decide (2 ≤ sizeMax) && (eqD k a a && (eqD k b b && true)))) = true
  rw [h1, h2]
  rfl
/-! ### repr of comers handed in -/
theorem rw_shown {w : Nat} {d : D} {q : Rat} (h : Rw w d q) (hw : w ≤ 30) : d.py.leavesShort 13 = true ∧ d.py.weight ≤ 200 ∧ d.py.showable = true ∧ ∀ k, d.ok (k + 1) = true := by
  obtain ⟨t, b, e, _, _, h1, h2⟩ := h
  have p : ∀ i : Int, i.natAbs < 2 ^ w → (PyData.int i).leavesShort 13 = true ∧ (PyData.int i).weight ≤ 60 ∧ (PyData.int i).showable = true := fun i hi => by
    have hi : i.natAbs < 2 ^ 30 := Nat.lt_of_lt_of_le hi (Nat.pow_le_pow_right (by decide) hw)
    have hl := log2_le hi
    have hi : i.natAbs < 1073741824 := hi
    refine ⟨?_, ?_, ?_⟩
    · simp only [PyData.leavesShort, decide_eq_true_eq]
      exact PyData.shown_int_le (by omega)
    · simp only [PyData.weight]
      split <;> omega
    · simp only [PyData.showable, decide_eq_true_eq]
      omega
  obtain ⟨a1, a2, a3⟩ := p t h1
  obtain ⟨b1, b2, b3⟩ := p b h2
  cases d with
  | lst i xs =>
    cases e
    refine ⟨?_, ?_, ?_, fun k => ?_⟩
    · simp [D.py, D.pys, PyData.leavesShort, PyData.leavesShortAll] at a1 b1 ⊢
      exact ⟨a1, b1⟩
    · simp only [D.py, D.pys, PyData.weight, PyData.weightAll] at a2 b2 ⊢
      omega
    · simp [D.py, D.pys, PyData.showable, PyData.showableAll] at a3 b3 ⊢
      exact ⟨a3, b3⟩
    · cases k <;> rfl
  | tup xs =>
    cases e
    refine ⟨?_, ?_, ?_, fun k => ?_⟩
    · simp [D.py, D.pys, PyData.leavesShort, PyData.leavesShortAll] at a1 b1 ⊢
      exact ⟨a1, b1⟩
    · simp only [D.py, D.pys, PyData.weight, PyData.weightAll] at a2 b2 ⊢
      omega
    · simp [D.py, D.pys, PyData.showable, PyData.showableAll] at a3 b3 ⊢
      exact ⟨a3, b3⟩
    · cases k <;> rfl
  | _ => cases e
/-- what repr asks, but for depth -/
def ShB (B : Nat) (d : D) : Prop := d.py.leavesShort 13 = true ∧ d.py.weight ≤ B ∧ d.py.showable = true
theorem sh_all {B : Nat} : ∀ {xs : List D}, (∀ x ∈ xs, ShB B x) → PyData.leavesShortAll 13 (D.pys xs) = true ∧ PyData.weightAll (D.pys xs) ≤ (B + 1) * xs.length ∧ PyData.showableAll (D.pys xs) = true
  | [], _ => by simp [D.pys, PyData.leavesShortAll, PyData.weightAll, PyData.showableAll]
  | x :: xs, h => by
    obtain ⟨h1, h2, h3⟩ := sh_all fun y hy => h y (List.mem_cons_of_mem _ hy)
    obtain ⟨x1, x2, x3⟩ := h x List.mem_cons_self
    simp only [D.pys, PyData.leavesShortAll, PyData.weightAll, PyData.showableAll, x1, x3, h1, h3, List.length_cons, Bool.and_self, true_and, and_true]
    rw [Nat.mul_add, Nat.mul_one]
    omega
theorem sh_seq {B : Nat} {d : D} {xs : List D} (e : d.seq = some xs) (h : ∀ x ∈ xs, ShB B x) : ShB ((B + 1) * xs.length + 5) d := by
  obtain ⟨h1, h2, h3⟩ := sh_all h
  cases d with
  | lst i ys =>
    cases e
    refine ⟨by simpa [D.py, PyData.leavesShort] using h1, ?_, by simpa [D.py, PyData.showable] using h3⟩
    simp only [D.py, PyData.weight]
    omega
  | tup ys =>
    cases e
    refine ⟨by simpa [D.py, PyData.leavesShort] using h1, ?_, by simpa [D.py, PyData.showable] using h3⟩
    simp only [D.py, PyData.weight]
    omega
  | _ => cases e
theorem ok_seq {d : D} {xs : List D} {k : Nat} (e : d.seq = some xs) (h : ∀ x ∈ xs, x.ok k = true) : d.ok (k + 1) = true := by
  cases d with
  | lst i ys => cases e; exact List.all_eq_true.mpr h
  | tup ys => cases e; exact List.all_eq_true.mpr h
  | _ => cases e
theorem rok_of {B : Nat} {d : D} {xs : List D} (e : d.seq = some xs) (h : ShB B d) (hB : B ≤ 2 ^ 20) (ok : d.ok 60 = true) : d.rok = true := by
  have f := PyData.shown_fits (B := 13) (by omega) (by omega) h.1 (Nat.le_trans h.2.1 hB)
  have e2 : d.rok = (d.ok 60 && (d.py.showable && decide (d.py.shown.length ≤ sizeLine))) := by
    cases d <;> first | rfl | cases e
  rw [e2, ok, h.2.2, decide_eq_true f]
  rfl
theorem giv_rok {w : Nat} {L : Cms} {d : D} {xs : List D} (e : d.seq = some xs) (r : RwL w xs L) (hw : w ≤ 30) (hl : L.length ≤ 100) : d.rok = true := by
  have each : ∀ x ∈ xs, ShB 407 x ∧ x.ok 59 = true := fun x hx => by
    obtain ⟨i, hi, ex⟩ := List.mem_iff_getElem.mp hx
    have hiL : i < L.length := by rw [← r.1]; exact hi
    obtain ⟨a, b, e2, ra, rb⟩ := r.2 i x L[i] (by rw [List.getElem?_eq_getElem hi, ex]) (List.getElem?_eq_getElem hiL)
    have sa := rw_shown ra hw
    have sb := rw_shown rb hw
    have m : ∀ y ∈ [a, b], ShB 200 y ∧ y.ok 58 = true := fun y hy => by
      rcases List.mem_cons.mp hy with rfl | hy
      · exact ⟨⟨sa.1, sa.2.1, sa.2.2.1⟩, sa.2.2.2 57⟩
      · rw [List.mem_singleton.mp hy]
        exact ⟨⟨sb.1, sb.2.1, sb.2.2.1⟩, sb.2.2.2 57⟩
    exact ⟨sh_seq e2 fun y hy => (m y hy).1, ok_seq e2 fun y hy => (m y hy).2⟩
  refine rok_of e (sh_seq e fun x hx => (each x hx).1) ?_ (ok_seq e fun x hx => (each x hx).2)
  have : xs.length ≤ 100 := by rw [r.1]; exact hl
  show 408 * xs.length + 5 ≤ 1048576
  omega
end LW
/-! the law over data: its loops. -/
namespace LW
open PySem PySem.Spec L2 Q
open scoped Rat
variable {Phy : List Fn}
def F_kw0 : Fn := { name := "rate_at(moment=, comers=)", ps := ["moment", "comers"], sp := fun ds n Q _ => ∃ a b, ds = [a, b] ∧ F_rate_at.sp [b, a] n Q fun _ _ => False }
def F_kw1 : Fn := { name := "come_by(moment=, comers=)", ps := ["moment", "comers"], sp := fun ds n Q _ => ∃ a b, ds = [a, b] ∧ F_come_by.sp [b, a] n Q fun _ _ => False }
structure PhiOk (Phy : List Fn) : Prop where
  rate : Phy[f_rate_at]? = some F_rate_at
  come : Phy[f_come_by]? = some F_come_by
  draw : Phy[f_law_draw]? = some F_draw
  same : Phy[f_law_same4]? = some (F_same 4)
  low : Phy[f_law_low]? = some F_low
  raw : Phy[f_law_raw]? = some F_raw
  rawc : Phy[f_law_raw_comers]? = some F_raw_comers
  comers : Phy[f_law_comers]? = some F_lcomers
  lrate : Phy[f_law_rate_at]? = some F_lrate_at
  lcome : Phy[f_law_come]? = some F_lcome
  tried : Phy[f_law_tried]? = some F_tried
  split : Phy[f_law_split]? = some F_lsplit
  odds : Phy[f_law_odds]? = some F_lodds
  dict0 : Phy[P + 6]? = some pDict0.fn
  repr : Phy[P + 9]? = some pRepr.fn
  kw0 : Phy[P + 15]? = some F_kw0
  kw1 : Phy[P + 16]? = some F_kw1
/-- a loop that keeps P -/
theorem for_sh {t : Tg} {b : S} {E : Exc → Q.Env → Prop} {K : Nd} {P : Sl → Prop} {R : D → Prop} {c B : Nat} (body : ∀ (x : D) (sl : Sl) (n : Nat) (K' : Nd), R x → P sl → n + c ≤ B → (∀ sl' n', n ≤ n' → n' ≤ n + c → P sl' → K'.nx ⟨sl', n'⟩) → wTg t x sl fun sl => wS Phy b E ⟨sl, n⟩ K') : ∀ {xs : List D} {sl : Sl} {n : Nat}, (∀ x ∈ xs, R x) → P sl → n + c * xs.length ≤ B → (∀ sl' n', n ≤ n' → n' ≤ n + c * xs.length → P sl' → K.nx ⟨sl', n'⟩) →
    forL (fun x ρ k => wTg t x ρ.sl fun sl => wS Phy b E ⟨sl, ρ.n⟩ { K with nx := k, ct := k, bk := K.nx }) xs ⟨sl, n⟩ K.nx
  | [], sl, n, _, hP, _, hk => hk sl n (Nat.le_refl _) (Nat.le_add_right _ _) hP
  | x :: xs, sl, n, hx, hP, hn, hk => by
    rw [List.length_cons, Nat.mul_add, Nat.mul_one] at hn hk
    refine body x sl n _ (hx x List.mem_cons_self) hP (by omega) fun sl' n' a b hP' => ?_
    exact for_sh body (fun y hy => hx y (List.mem_cons_of_mem _ hy)) hP' (by omega) fun sl2 n2 a2 b2 h2 => hk sl2 n2 (by omega) (by omega) h2
/-- what stays in a turn -/
structure Sh (L : Cms) (d0 : D) (L' : Cms) (sl : Sl) : Prop where
  len : sl.length = 21
  nc : sl.all Slot.noC = true
  stm : sl[1]? = some (.val .stm)
  com : sl[3]? = some (.val (cL L))
  giv : sl[4]? = some (.val d0)
  spl : sl[5]? = some (.val (cL L'))
theorem noC_set : ∀ {sl : Sl} {i : Nat} {z : Slot}, sl.all Slot.noC = true → z.noC = true → (sl.set i z).all Slot.noC = true
  | [], _, _, h, _ => h
  | y :: ys, 0, z, h, hz => by
    rw [List.all_cons, Bool.and_eq_true] at h
    show (z.noC && ys.all Slot.noC) = true
    rw [hz, h.2]
    rfl
  | y :: ys, i + 1, z, h, hz => by
    rw [List.all_cons, Bool.and_eq_true] at h
    show (y.noC && (ys.set i z).all Slot.noC) = true
    rw [h.1, noC_set h.2 hz]
    rfl
theorem Sh.set {L L' : Cms} {d0 : D} {sl : Sl} (h : Sh L d0 L' sl) {i : Nat} {z : Slot} (hz : z.noC = true) (h1 : i ≠ 1) (h3 : i ≠ 3) (h4 : i ≠ 4) (h5 : i ≠ 5) : Sh L d0 L' (sl.set i z) :=
  ⟨by rw [List.length_set]; exact h.len, noC_set h.nc hz, by rw [List.getElem?_set_ne h1]; exact h.stm, by rw [List.getElem?_set_ne h3]; exact h.com, by rw [List.getElem?_set_ne h4]; exact h.giv, by rw [List.getElem?_set_ne h5]; exact h.spl⟩
theorem Sh.ex {L L' : Cms} {d0 : D} {sl : Sl} (h : Sh L d0 L' sl) : ∃ z0 z2 z6 z7 z8 z9 z10 z11 z12 z13 z14 z15 z16 z17 z18 z19 z20 : Slot, sl = [z0, .val .stm, z2, .val (cL L), .val d0, .val (cL L'), z6, z7, z8, z9, z10, z11, z12, z13, z14, z15, z16, z17, z18, z19, z20] := by
  obtain ⟨h1, _, h3, h4, h5, h6⟩ := h
  match sl, h1 with
  | [z0, z1, z2, z3, z4, z5, z6, z7, z8, z9, z10, z11, z12, z13, z14, z15, z16, z17, z18, z19, z20], _ =>
    cases (show some z1 = some (.val .stm) from h3)
    cases (show some z3 = some (.val (cL L)) from h4)
    cases (show some z4 = some (.val d0) from h5)
    cases (show some z5 = some (.val (cL L')) from h6)
    exact ⟨_, _, _, _, _, _, _, _, _, _, _, _, _, _, _, _, _, rfl⟩
section
variable {L L' : Cms} {d0 : D} {xs : List D} {sl : Sl} {n : Nat} {E : Exc → Q.Env → Prop} {K : Nd}
theorem neW_str {a b : Str} {Q : Bool → Prop} : cmpW .ne (.str a) (.str b) Q ↔ Q (!decide (a = b)) := Iff.rfl
theorem eqD_str {k : Nat} {s : Str} : eqD k (.str s) (.str s) = true := by cases k <;> exact decide_eq_true rfl
theorem eqD_int {k : Nat} {i : Int} : eqD k (.int i) (.int i) = true := by cases k <;> exact decide_eq_true rfl
theorem truW_bl {b : Bool} {Q : Bool → Prop} : truW (.bl b) Q ↔ Q b := Iff.rfl
theorem blW_bl {b : Bool} {Q : Bool → Prop} : blW (.bl b) Q ↔ Q b := Iff.rfl
theorem intW_int {i : Int} {Q : Int → Prop} : intW (.int i) Q ↔ Q i := Iff.rfl
theorem lstW_lst {k : Nat} {xs : List D} {Q : List D → Prop} : lstW (.lst k xs) Q ↔ Q xs := Iff.rfl
theorem seqW_lst {k : Nat} {xs : List D} {Q : List D → Prop} : seqW (.lst k xs) Q ↔ Q xs := Iff.rfl
theorem seqW_tup {xs : List D} {Q : List D → Prop} : seqW (.tup xs) Q ↔ Q xs := Iff.rfl
theorem c_rate {d dm : D} {n : Nat} {Q : D → Nat → Prop} {E : Exc → Nat → Prop} (h : Phy[f_rate_at]? = some F_rate_at) (q : spAsk coreR [d, dm] n Q E) : callW Phy f_rate_at [d, dm] n Q E := (call_is h).mpr ⟨rfl, q⟩
theorem c_come {d dm : D} {n : Nat} {Q : D → Nat → Prop} {E : Exc → Nat → Prop} (h : Phy[f_come_by]? = some F_come_by) (q : spAsk coreH [d, dm] n Q E) : callW Phy f_come_by [d, dm] n Q E := (call_is h).mpr ⟨rfl, q⟩
theorem c_kw0 {d dm : D} {n : Nat} {Q : D → Nat → Prop} {E : Exc → Nat → Prop} (h : Phy[P + 15]? = some F_kw0) (q : spAsk coreR [d, dm] n Q fun _ _ => False) : callW Phy (P + 15) [dm, d] n Q E := (call_is (g := P + 15) h).mpr ⟨rfl, _, _, rfl, q⟩
theorem c_kw1 {d dm : D} {n : Nat} {Q : D → Nat → Prop} {E : Exc → Nat → Prop} (h : Phy[P + 16]? = some F_kw1) (q : spAsk coreH [d, dm] n Q fun _ _ => False) : callW Phy (P + 16) [dm, d] n Q E := (call_is (g := P + 16) h).mpr ⟨rfl, _, _, rfl, q⟩
theorem one_mom (o : PhiOk Phy) (hs : Sh L d0 L' sl) (ok : ComOk L) (g : GivC L d0 xs) (gr : d0.rok = true) (sp : SplOk L L') (hl' : L'.length ≤ 1000) {m : Rat} (hm : Mom m) (h6 : sl[6]? = some (.val (.str d0.shw.shown))) (h10 : sl[10]? = some (.val (rD m))) (hn : n + 4200 ≤ NB)
    (q : ∀ sl' n', n ≤ n' → n' ≤ n + 4200 → Sh L d0 L' sl' → sl'[6]? = some (.val (.str d0.shw.shown)) → K.nx ⟨sl', n'⟩) : wS Phy s_law_1_1 E ⟨sl, n⟩ K := by
  obtain ⟨r, hr, sr⟩ := ok.rate hm
  have gs : GivC L (cL L') (L'.map cmD) := giv_of (w := 13) (by decide) rfl (rwl_cm sp.sz) sp.fine hl' sp.ne sp.kp
  obtain ⟨z0, z2, z6, z7, z8, z9, z10, z11, z12, z13, z14, z15, z16, z17, z18, z19, z20, rfl⟩ := hs.ex
  cases (show some z6 = some (.val (.str d0.shw.shown)) from h6)
  cases (show some z10 = some (.val (rD m)) from h10)
  have ln := Nat.le_trans ok.len (by decide : 6 ≤ 1000)
  simp only [s_law_1_1, wS, wX, wT, wA, wO, wI, sem, ofV, ofI, lookV, lookB, lookO, sl0, truW_bl, blW_bl, intW_int, lstW_lst, seqW_lst, seqW_tup, X.isNil, List.getElem?_cons_zero, List.getElem?_cons_succ, List.set_cons_zero, List.set_cons_succ, List.cons_append, List.nil_append, reduceIte, Bool.false_eq_true, Bool.true_eq_false, Bool.not_true, Bool.not_false]
  refine (call_is o.lrate).mpr ⟨rfl, L, m, r, rfl, ln, ok.sz.mono (by decide), hm.sz.mono (by decide), hr, ?_⟩
  refine (call_is o.lcome).mpr ⟨rfl, L, m, 72, 4800000, rfl, ln, ok.sz.mono (by decide), hm.sz.mono (by decide), ok.inc, by decide, by decide +kernel, by decide +kernel, ok.terms hm, ?_⟩
  refine ⟨by show 2 ≤ sizeMax; decide, ?_⟩
  refine (call_is o.raw).mpr ⟨rfl, 12, m, rfl, by decide, hm.sz, hn, fun dm n' a b rw => ?_⟩
  refine c_rate o.rate (ask_ok g rw (by decide) hm.nn (core_r ok hm hr ?_))
  refine c_come o.come (ask_ok g rw (by decide) hm.nn (core_h ok hm ?_))
  refine ⟨by show 2 ≤ sizeMax; decide, ?_⟩
  refine c_kw0 o.kw0 (ask_ok gs (rw_rD hm.sz) (by decide) hm.nn (core_r ok hm hr ?_))
  refine c_kw1 o.kw1 (ask_ok gs (rw_rD hm.sz) (by decide) hm.nn (core_h ok hm ?_))
  refine ⟨by show 2 ≤ sizeMax; decide, ?_⟩
  refine (call_is o.same).mpr ⟨rfl, _, _, rfl, eqD_2 eqD_rD eqD_rD, ?_⟩
  refine (call_is o.same).mpr ⟨rfl, _, _, rfl, eqD_2 eqD_rD eqD_rD, ?_⟩
  refine (call_is (g := P + 9) o.repr).mpr ⟨rfl, gr, ?_⟩
  refine neW_str.mpr ?_
  rw [decide_eq_true rfl]
  exact q _ _ a b ((((hs.set (i := 11) (z := .val (.lst 0 [rD r, rD (totR (termsR m L))])) rfl (by decide) (by decide) (by decide) (by decide)).set (i := 12) (z := .val dm) rfl (by decide) (by decide) (by decide) (by decide)).set (i := 13) (z := .val (.lst 0 [rD r, rD (totR (termsR m L))])) rfl (by decide) (by decide) (by decide) (by decide)).set (i := 14) (z := .val (.lst 0 [rD r, rD (totR (termsR m L))])) rfl (by decide) (by decide) (by decide) (by decide)) rfl
theorem c_tried {W : DSp} {e : Exc} {n : Nat} {Q : D → Nat → Prop} {E : Exc → Nat → Prop} (h : Phy[f_law_tried]? = some F_tried) (hL : ∀ (Q' : D → Nat → Prop) (E' : Exc → Nat → Prop), E' e n → W [] n Q' E') (q : triedE Q E e n) : hofW Phy f_law_tried W [] n Q E := by
  unfold hofW
  rw [h]
  exact ⟨rfl, rfl, fun Q' E' _ hE => hL Q' E' (hE e n q)⟩
def isAsk (g : Nat) : Prop := g = f_rate_at ∨ g = f_come_by
theorem c_asks {g : Nat} {d dm : D} {n : Nat} {Q : D → Nat → Prop} {E : Exc → Nat → Prop} (o : PhiOk Phy) (hg : isAsk g) (q : ∀ core, spAsk core [d, dm] n Q E) : callW Phy g [d, dm] n Q E := by
  rcases hg with rfl | rfl
  · exact c_rate o.rate (q _)
  · exact c_come o.come (q _)
theorem ask_mem {g : Nat} (hg : isAsk g) : g ∈ [f_rate_at, f_come_by] := by
  rcases hg with rfl | rfl <;> simp
def R16 (x : D) : Prop := ∃ g, x = .fn g ∧ isAsk g
theorem r16 : ∀ x ∈ [D.fn f_rate_at, D.fn f_come_by], R16 x := fun x hx => by
  rcases List.mem_cons.mp hx with rfl | hx
  · exact ⟨_, rfl, .inl rfl⟩
  · rw [List.mem_singleton.mp hx]
    exact ⟨_, rfl, .inr rfl⟩
/-! ### things that are no moments -/
def RM (x : D) : Prop := GF x ∧ isHp x = false ∧ eqD 3 x x = true
theorem ask_m1 (o : PhiOk Phy) (g : GivC L d0 xs) {x : D} (hx : RM x) {sl : Sl} {n : Nat} {y : D} (hy : R16 y) (hs : Sh L d0 L' sl ∧ sl[15]? = some (.val x)) {K : Nd} (q : ∀ sl' n', n ≤ n' → n' ≤ n + 0 → Sh L d0 L' sl' ∧ sl'[15]? = some (.val x) → K.nx ⟨sl', n'⟩) : wTg (.nm 16) y sl fun sl => wS Phy s_law_1_2_1 E ⟨sl, n⟩ K := by
  obtain ⟨gg, rfl, hg⟩ := hy
  obtain ⟨hs, h15⟩ := hs
  obtain ⟨z0, z2, z6, z7, z8, z9, z10, z11, z12, z13, z14, z15, z16, z17, z18, z19, z20, rfl⟩ := hs.ex
  cases (show some z15 = some (.val x) from h15)
  simp only [s_law_1_2_1, wTg, wS, wX, wT, wA, wO, wI, sem, ofV, ofI, lookV, lookB, lookO, sl0, truW_bl, blW_bl, intW_int, lstW_lst, seqW_lst, seqW_tup, X.isNil, List.getElem?_cons_zero, List.getElem?_cons_succ, List.set_cons_zero, List.set_cons_succ, List.cons_append, List.nil_append, reduceIte, Bool.false_eq_true, Bool.true_eq_false, Bool.not_true, Bool.not_false]
  refine c_tried o.tried (e := ⟨1, [x]⟩) (fun Q' E' h => ⟨rfl, gg, ask_mem hg, rfl, c_asks o hg fun core => ask_mom g hx.1 hx.2.1 h⟩) (.inr ⟨rfl, x, rfl, ?_⟩)
  refine ⟨by show 2 ≤ sizeMax; decide, ?_⟩
  refine (call_is o.same).mpr ⟨rfl, _, _, rfl, eqD_t2 eqD_str hx.2.2, ?_⟩
  exact q _ _ (Nat.le_refl _) (Nat.le_refl _) ⟨hs.set (i := 16) (z := .val (.fn gg)) rfl (by decide) (by decide) (by decide) (by decide), rfl⟩
theorem ask_m (o : PhiOk Phy) (g : GivC L d0 xs) {x : D} (hx : RM x) {sl : Sl} {n : Nat} (hs : Sh L d0 L' sl) {K : Nd} (q : ∀ sl' n', n ≤ n' → n' ≤ n + 0 → Sh L d0 L' sl' → K.nx ⟨sl', n'⟩) : wTg (.nm 15) x sl fun sl => wS Phy s_law_1_2 E ⟨sl, n⟩ K := by
  have hs2 := hs.set (i := 15) (z := .val x) rfl (by decide) (by decide) (by decide) (by decide)
  have h15 : (sl.set 15 (.val x))[15]? = some (.val x) := by rw [List.getElem?_set_self (by rw [hs.len]; decide)]
  show wS Phy s_law_1_2 E ⟨sl.set 15 (.val x), n⟩ K
  simp only [s_law_1_2, wS, wX, wT, wA, wO, wI, sem, ofV, ofI, lookV, lookB, lookO, sl0, truW_bl, blW_bl, intW_int, lstW_lst, seqW_lst, seqW_tup, X.isNil, List.getElem?_cons_zero, List.getElem?_cons_succ, List.set_cons_zero, List.set_cons_succ, List.cons_append, List.nil_append, reduceIte, Bool.false_eq_true, Bool.true_eq_false, Bool.not_true, Bool.not_false]
  refine ⟨by show 2 ≤ sizeMax; decide, ?_⟩
  refine for_sh (P := fun sl => Sh L d0 L' sl ∧ sl[15]? = some (.val x)) (R := R16) (c := 0) (B := n) (fun y sl n K' hy hP hn hk => ask_m1 o g hx hy hP hk) r16 ⟨hs2, h15⟩ (by simp) fun sl' n' a b hP => ?_
  exact q _ _ a b hP.1
/-! ### bad comers -/
theorem cut_take {xs : List D} {j : Nat} : cutD xs none (some (j : Int)) = xs.take j := by
  unfold cutD
  rw [HT.sIx_none, HT.sIx_nat, List.drop_zero, Nat.sub_zero]
  by_cases h : j ≤ xs.length
  · rw [Nat.min_eq_left h]
  · rw [Nat.min_eq_right (by omega), List.take_of_length_le (Nat.le_refl _), List.take_of_length_le (by omega)]
theorem cut_drop {xs : List D} {j : Nat} : cutD xs (some (j : Int)) none = xs.drop j := by
  unfold cutD
  rw [HT.sIx_none, HT.sIx_nat]
  by_cases h : j ≤ xs.length
  · rw [Nat.min_eq_left h, List.take_of_length_le (by rw [List.length_drop]; exact Nat.le_refl _)]
  · rw [Nat.min_eq_right (by omega), List.drop_eq_nil_of_le (Nat.le_refl _), List.drop_eq_nil_of_le (by omega)]
    exact List.take_nil
/-- comers with a bad one behind A -/
structure BadC (A : Cms) (d : D) : Prop where
  ex : ∃ (x : D) (B : List D), d.seq = some (A.map cmD ++ x :: B) ∧ OddAt (A.getLast?.map Prod.fst) x ∧ (∀ x ∈ B, GM x) ∧ A.length + B.length < 1000
  f : FineC A
theorem BadC.ask {A : Cms} {d dm : D} (b : BadC A d) {core : Cms → Rat → (D → Prop) → Prop} {n : Nat} {Q : D → Nat → Prop} {E : Exc → Nat → Prop} (q : E ⟨2, [.int (A.length : Nat)]⟩ n) : spAsk core [d, dm] n Q E := by
  obtain ⟨x, B, h1, h2, h3, h4⟩ := b.ex
  exact ask_bad h1 b.f h2 h3 h4 q
theorem ask_b1 (o : PhiOk Phy) {A : Cms} {bad : D} (hb : BadC A bad) {b : S} (eb : b = s_law_1_3_1) {sl : Sl} {n : Nat} {y : D} (hy : R16 y) (hs : Sh L d0 L' sl ∧ sl[17]? = some (.val (.int (A.length : Nat))) ∧ sl[18]? = some (.val bad)) {F : Sl → Prop} (hF : ∀ z, F sl → F (sl.set 16 z)) (h0 : F sl) {K : Nd} (q : ∀ sl' n', n ≤ n' → n' ≤ n + 0 → (Sh L d0 L' sl' ∧ sl'[17]? = some (.val (.int (A.length : Nat))) ∧ sl'[18]? = some (.val bad)) ∧ F sl' → K.nx ⟨sl', n'⟩) : wTg (.nm 16) y sl fun sl => wS Phy b E ⟨sl, n⟩ K := by
  subst eb
  obtain ⟨gg, rfl, hg⟩ := hy
  obtain ⟨hs, h17, h18⟩ := hs
  obtain ⟨z0, z2, z6, z7, z8, z9, z10, z11, z12, z13, z14, z15, z16, z17, z18, z19, z20, rfl⟩ := hs.ex
  cases (show some z17 = some (.val (.int (A.length : Nat))) from h17)
  cases (show some z18 = some (.val bad) from h18)
  simp only [s_law_1_3_1, wTg, wS, wX, wT, wA, wO, wI, sem, ofV, ofI, lookV, lookB, lookO, sl0, truW_bl, blW_bl, intW_int, lstW_lst, seqW_lst, seqW_tup, X.isNil, List.getElem?_cons_zero, List.getElem?_cons_succ, List.set_cons_zero, List.set_cons_succ, List.cons_append, List.nil_append, reduceIte, Bool.false_eq_true, Bool.true_eq_false, Bool.not_true, Bool.not_false]
  refine c_tried o.tried (e := ⟨2, [.int (A.length : Nat)]⟩) (fun Q' E' h => ⟨rfl, gg, ask_mem hg, rfl, c_asks o hg fun core => hb.ask h⟩) (.inl ⟨rfl, .int (A.length : Nat), rfl, ?_⟩)
  refine ⟨by show 2 ≤ sizeMax; decide, ?_⟩
  refine (call_is o.same).mpr ⟨rfl, _, _, rfl, eqD_t2 eqD_str eqD_int, ?_⟩
  exact q _ _ (Nat.le_refl _) (Nat.le_refl _) ⟨⟨hs.set (i := 16) (z := .val (.fn gg)) rfl (by decide) (by decide) (by decide) (by decide), rfl, rfl⟩, hF _ h0⟩
/-- both are asked of bad comers -/
theorem ask_b (o : PhiOk Phy) {A : Cms} {bad : D} (hb : BadC A bad) {b : S} (eb : b = s_law_1_3_1) {F : Sl → Prop} (hF : ∀ sl z, F sl → F (sl.set 16 z)) {sl : Sl} {n : Nat} (hs : Sh L d0 L' sl ∧ sl[17]? = some (.val (.int (A.length : Nat))) ∧ sl[18]? = some (.val bad)) (h0 : F sl) {K : Nd} (q : ∀ sl', Sh L d0 L' sl' ∧ sl'[17]? = some (.val (.int (A.length : Nat))) → F sl' → K.nx ⟨sl', n⟩) :
    forL (fun x ρ k => wTg (.nm 16) x ρ.sl fun sl => wS Phy b E ⟨sl, ρ.n⟩ { K with nx := k, ct := k, bk := K.nx }) [D.fn f_rate_at, D.fn f_come_by] ⟨sl, n⟩ K.nx :=
  for_sh (P := fun sl => (Sh L d0 L' sl ∧ sl[17]? = some (.val (.int (A.length : Nat))) ∧ sl[18]? = some (.val bad)) ∧ F sl) (R := R16) (c := 0) (B := n) (fun y sl n K' hy hP hn hk => ask_b1 o hb eb hy hP.1 (hF sl) hP.2 hk) r16 ⟨hs, h0⟩ (by simp) fun sl' n' a b hP => by
    have e : n' = n := by simp at b; omega
    subst e
    exact q sl' ⟨hP.1.1, hP.1.2.1⟩ hP.2
theorem one_odd (o : PhiOk Phy) (f : FineC L) (hL : L.length ≤ 100) {j : Nat} (hj : j ≤ L.length) {x : D} (hx : OddAt ((L.take j).getLast?.map Prod.fst) x) {sl : Sl} {n : Nat} (hs : Sh L d0 L' sl ∧ sl[17]? = some (.val (.int (j : Nat)))) (hn : n + 1 ≤ NB) {K : Nd} (q : ∀ sl' n', n ≤ n' → n' ≤ n + 1 → Sh L d0 L' sl' ∧ sl'[17]? = some (.val (.int (j : Nat))) → K.nx ⟨sl', n'⟩) : wTg (.nm 15) x sl fun sl => wS Phy s_law_1_3 E ⟨sl, n⟩ K := by
  have hA : (L.take j).length = j := by rw [List.length_take, Nat.min_eq_left hj]
  have bad : ∀ d : D, d.seq = some (((L.take j).map cmD ++ [x, .non]) ++ (L.drop j).map cmD) → BadC (L.take j) d := fun d hd => ⟨⟨x, .non :: (L.drop j).map cmD, by rw [hd]; simp, hx, fun y hy => by
    rcases List.mem_cons.mp hy with rfl | hy
    · exact gm_of rfl
    · exact f.drop_gm j y hy, by rw [hA]; simp; omega⟩, f.take j⟩
  obtain ⟨hs, h17⟩ := hs
  have base : ∀ (d : D), Sh L d0 L' ((sl.set 15 (.val x)).set 18 (.val d)) ∧ ((sl.set 15 (.val x)).set 18 (.val d))[17]? = some (.val (.int (j : Nat))) ∧ ((sl.set 15 (.val x)).set 18 (.val d))[18]? = some (.val d) := fun d => ⟨(hs.set (i := 15) (z := .val x) rfl (by decide) (by decide) (by decide) (by decide)).set rfl (by decide) (by decide) (by decide) (by decide), by rw [List.getElem?_set_ne (by decide), List.getElem?_set_ne (by decide)]; exact h17, by rw [List.getElem?_set_self (by rw [List.length_set, hs.len]; decide)]⟩
  obtain ⟨z0, z2, z6, z7, z8, z9, z10, z11, z12, z13, z14, z15, z16, z17, z18, z19, z20, rfl⟩ := hs.ex
  cases (show some z17 = some (.val (.int (j : Nat))) from h17)
  simp only [s_law_1_3, wTg, wS, wX, wT, wA, wO, wI, sem, ofV, ofI, lookV, lookB, lookO, sl0, truW_bl, blW_bl, intW_int, lstW_lst, seqW_lst, seqW_tup, X.isNil, List.getElem?_cons_zero, List.getElem?_cons_succ, List.set_cons_zero, List.set_cons_succ, List.cons_append, List.nil_append, reduceIte, Bool.false_eq_true, Bool.true_eq_false, Bool.not_true, Bool.not_false]
  refine slc_l.mpr ?_
  rw [cut_take]
  refine ⟨by show 2 ≤ sizeMax; decide, ?_⟩
  refine add_l.mpr ⟨by simp [sizeMax]; omega, ?_⟩
  refine slc_l.mpr ?_
  rw [cut_drop]
  refine add_l.mpr ⟨by simp [sizeMax]; omega, ?_⟩
  refine (c_draw o.draw).mpr ⟨by decide, by decide, by omega, fun r r0 r1 => eq_int.mpr ?_⟩
  rw [← List.map_take, ← List.map_drop]
  have fin : ∀ d : D, d.seq = some (((L.take j).map cmD ++ [x, .non]) ++ (L.drop j).map cmD) → forL (fun y ρ k => wTg (.nm 16) y ρ.sl fun sl => wS Phy s_law_1_3_1 E ⟨sl, ρ.n⟩ { K with nx := k, ct := k, bk := K.nx }) [D.fn f_rate_at, D.fn f_come_by] ⟨(([z0, .val .stm, z2, .val (cL L), .val d0, .val (cL L'), z6, z7, z8, z9, z10, z11, z12, z13, z14, z15, z16, .val (.int (j : Nat)), z18, z19, z20] : Sl).set 15 (.val x)).set 18 (.val d), n + 1⟩ K.nx := fun d hd => by
    have b := base d
    refine ask_b (F := fun _ => True) (A := L.take j) o (bad d hd) rfl (fun _ _ _ => trivial) (by rw [hA]; exact b) trivial fun sl' h _ => ?_
    rw [hA] at h
    exact q sl' _ (by omega) (by omega) h
  by_cases hr : r = 0
  · rw [decide_eq_true hr]
    exact ⟨by show 2 ≤ sizeMax; decide, fin _ rfl⟩
  · rw [decide_eq_false hr]
    exact ⟨by show 2 ≤ sizeMax; decide, fin (.tup _) rfl⟩
/-- a bad piece among split comers -/
theorem one_row (o : PhiOk Phy) {M : Cms} (f : FineC M) (hL : M.length ≤ 100) {j : Nat} (hj : j ≤ M.length) {x : D} (hx : OddAt ((M.take j).getLast?.map Prod.fst) x) {sl : Sl} {n : Nat} (hs : (Sh L d0 L' sl ∧ sl[17]? = some (.val (.int (j : Nat)))) ∧ sl[19]? = some (.val (cL M))) {K : Nd} (q : ∀ sl' n', n ≤ n' → n' ≤ n + 0 → (Sh L d0 L' sl' ∧ sl'[17]? = some (.val (.int (j : Nat)))) ∧ sl'[19]? = some (.val (cL M)) → K.nx ⟨sl', n'⟩) : wTg (.nm 15) x sl fun sl => wS Phy s_law_1_4 E ⟨sl, n⟩ K := by
  have hA : (M.take j).length = j := by rw [List.length_take, Nat.min_eq_left hj]
  have bad : ∀ d : D, d.seq = some (((M.take j).map cmD ++ [x]) ++ (M.drop j).map cmD) → BadC (M.take j) d := fun d hd => ⟨⟨x, (M.drop j).map cmD, by rw [hd]; simp, hx, f.drop_gm j, by rw [hA]; simp; omega⟩, f.take j⟩
  obtain ⟨⟨hs, h17⟩, h19⟩ := hs
  have base : ∀ (d : D), Sh L d0 L' ((sl.set 15 (.val x)).set 18 (.val d)) ∧ ((sl.set 15 (.val x)).set 18 (.val d))[17]? = some (.val (.int (j : Nat))) ∧ ((sl.set 15 (.val x)).set 18 (.val d))[18]? = some (.val d) := fun d => ⟨(hs.set (i := 15) (z := .val x) rfl (by decide) (by decide) (by decide) (by decide)).set rfl (by decide) (by decide) (by decide) (by decide), by rw [List.getElem?_set_ne (by decide), List.getElem?_set_ne (by decide)]; exact h17, by rw [List.getElem?_set_self (by rw [List.length_set, hs.len]; decide)]⟩
  obtain ⟨z0, z2, z6, z7, z8, z9, z10, z11, z12, z13, z14, z15, z16, z17, z18, z19, z20, rfl⟩ := hs.ex
  cases (show some z17 = some (.val (.int (j : Nat))) from h17)
  cases (show some z19 = some (.val (cL M)) from h19)
  simp only [s_law_1_4, wTg, wS, wX, wT, wA, wO, wI, sem, ofV, ofI, lookV, lookB, lookO, sl0, truW_bl, blW_bl, intW_int, lstW_lst, seqW_lst, seqW_tup, X.isNil, List.getElem?_cons_zero, List.getElem?_cons_succ, List.set_cons_zero, List.set_cons_succ, List.cons_append, List.nil_append, reduceIte, Bool.false_eq_true, Bool.true_eq_false, Bool.not_true, Bool.not_false]
  refine slc_l.mpr ?_
  rw [cut_take]
  refine ⟨by show 1 ≤ sizeMax; decide, ?_⟩
  refine add_l.mpr ⟨by simp [sizeMax]; omega, ?_⟩
  refine slc_l.mpr ?_
  rw [cut_drop]
  refine add_l.mpr ⟨by simp [sizeMax]; omega, ?_⟩
  refine ⟨by show 2 ≤ sizeMax; decide, ?_⟩
  rw [← List.map_take, ← List.map_drop]
  have b := base (.lst 0 (((M.take j).map cmD ++ [x]) ++ (M.drop j).map cmD))
  refine ask_b (b := s_law_1_4_1) (F := fun sl => sl[19]? = some (.val (cL M))) (A := M.take j) o (bad _ rfl) rfl (fun sl z h => by rw [List.getElem?_set_ne (by decide)]; exact h) (by rw [hA]; exact b) rfl fun sl' h h19 => ?_
  rw [hA] at h
  exact q sl' _ (by omega) (by omega) ⟨h, h19⟩
/-! ### things that are no comers -/
theorem neW_none {Q : Bool → Prop} (q : Q false) : cmpW .ne (.lst 0 [.tup [.str (Str.ofString "comers"), .int 0], .tup [.str (Str.ofString "comers"), .int 0]]) (.lst 0 (List.replicate 2 [.tup [.str (Str.ofString "comers"), .int 0]]).flatten) Q := by
  refine ⟨by decide +kernel, by decide +kernel, ?_⟩
  have e : deq (.lst 0 [.tup [.str (Str.ofString "comers"), .int 0], .tup [.str (Str.ofString "comers"), .int 0]]) (.lst 0 (List.replicate 2 [.tup [.str (Str.ofString "comers"), .int 0]]).flatten) = true := by
    simp [deq, D.py, D.pys, PyData.eqv, PyData.eqvAll]
  rw [e]
  exact q
def RN (x : D) : Prop := (D.gen x || D.isFn x) = true ∧ (x.seq = none ∨ x.seq = some [])
theorem one_none (o : PhiOk Phy) {x : D} (hx : RN x) {sl : Sl} {n : Nat} (hs : Sh L d0 L' sl) {K : Nd} (q : ∀ sl' n', n ≤ n' → n' ≤ n + 0 → Sh L d0 L' sl' → K.nx ⟨sl', n'⟩) : wTg (.nm 15) x sl fun sl => wS Phy s_law_1_5 E ⟨sl, n⟩ K := by
  obtain ⟨z0, z2, z6, z7, z8, z9, z10, z11, z12, z13, z14, z15, z16, z17, z18, z19, z20, rfl⟩ := hs.ex
  simp only [s_law_1_5, wTg, wS, wX, wT, wA, wO, wI, sem, ofV, ofI, lookV, lookB, lookO, sl0, truW_bl, blW_bl, intW_int, lstW_lst, seqW_lst, seqW_tup, X.isNil, List.getElem?_cons_zero, List.getElem?_cons_succ, List.set_cons_zero, List.set_cons_succ, List.cons_append, List.nil_append, reduceIte, Bool.false_eq_true, Bool.true_eq_false, Bool.not_true, Bool.not_false]
  refine c_tried o.tried (e := ⟨2, [.int 0]⟩) (fun Q' E' h => ⟨rfl, c_rate o.rate (ask_none hx.1 hx.2 h)⟩) (.inl ⟨rfl, .int 0, rfl, ?_⟩)
  refine ⟨by show 1 ≤ sizeMax; decide, ?_⟩
  refine c_tried o.tried (e := ⟨2, [.int 0]⟩) (fun Q' E' h => ⟨rfl, c_come o.come (ask_none hx.1 hx.2 h)⟩) (.inl ⟨rfl, .int 0, rfl, ?_⟩)
  refine ⟨by show 1 < sizeMax; decide, by show 2 ≤ sizeMax; decide, by show 1 ≤ sizeMax; decide, ?_⟩
  refine ⟨2, rfl, by decide, by decide, ?_⟩
  refine neW_none ?_
  exact q _ _ (Nat.le_refl _) (Nat.le_refl _) ((hs.set (i := 15) (z := .val x) rfl (by decide) (by decide) (by decide) (by decide)).set (i := 13) (z := .val (.lst 0 [.tup [.str "comers", .int 0], .tup [.str "comers", .int 0]])) rfl (by decide) (by decide) (by decide) (by decide))
end
end LW
/-! the law over data: a turn, the whole. -/
namespace LW
open PySem PySem.Spec L2 Q
open scoped Rat
variable {Phy : List Fn}
/-- what a turn leaves -/
structure Shape (sl : Sl) : Prop where
  len : sl.length = 21
  nc : sl.all Slot.noC = true
  stm : sl[1]? = some (.val .stm)
theorem noC_sub {m : Nat} {new : List D} {sl : Sl} (h : sl.all Slot.noC = true) : (sl.map (Slot.sub m new)).all Slot.noC = true := by
  rw [List.all_map]
  refine List.all_eq_true.mpr fun z hz => ?_
  have := List.all_eq_true.mp h z hz
  cases z <;> first | rfl | exact this
theorem Shape.sub {m : Nat} {new : List D} {sl : Sl} (h : Shape sl) : Shape (sl.map (Slot.sub m new)) := ⟨by rw [List.length_map]; exact h.len, noC_sub h.nc, by rw [List.getElem?_map, h.stm]; rfl⟩
theorem Shape.set {sl : Sl} (h : Shape sl) {i : Nat} {z : Slot} (hz : z.noC = true) (h1 : i ≠ 1) : Shape (sl.set i z) := ⟨by rw [List.length_set]; exact h.len, noC_set h.nc hz, by rw [List.getElem?_set_ne h1]; exact h.stm⟩
theorem Shape.ex {sl : Sl} (h : Shape sl) : ∃ z0 z2 z3 z4 z5 z6 z7 z8 z9 z10 z11 z12 z13 z14 z15 z16 z17 z18 z19 z20 : Slot, sl = [z0, .val .stm, z2, z3, z4, z5, z6, z7, z8, z9, z10, z11, z12, z13, z14, z15, z16, z17, z18, z19, z20] := by
  obtain ⟨h1, _, h3⟩ := h
  match sl, h1 with
  | [z0, z1, z2, z3, z4, z5, z6, z7, z8, z9, z10, z11, z12, z13, z14, z15, z16, z17, z18, z19, z20], _ =>
    cases (show some z1 = some (.val .stm) from h3)
    exact ⟨_, _, _, _, _, _, _, _, _, _, _, _, _, _, _, _, _, _, _, _, rfl⟩
theorem Sh.shape {L L' : Cms} {d0 : D} {sl : Sl} (h : Sh L d0 L' sl) : Shape sl := ⟨h.len, h.nc, h.stm⟩
def odds : List D := [.non, .int 5, .tup [.int 1], frD 1 0, frD (-1) 1, .tup [.int 1, .int 1, .int 1], .bl true, .str (Str.ofString "1"), .tup [.bl true, .int 1], .tup [.int 1, .bl true], .dK [], .lst 0 [], .tup [frD 0 1, .int 1]]
theorem odds_ok : odds.all (fun x => gbB x && (!isHp x && eqD 3 x x)) = true := by decide +kernel
theorem odds_rm : ∀ x ∈ odds, RM x := fun x hx => by
  have := List.all_eq_true.mp odds_ok x hx
  rw [Bool.and_eq_true, Bool.and_eq_true, Bool.not_eq_true'] at this
  exact ⟨(gb_of this.1).g, this.2.1, this.2.2⟩
def nones : List D := [.non, .int 5, .str (Str.ofString "ab"), .dK [], .bl true, .lst 0 [], .tup [], .fn f_law_draw]
theorem nones_rn : ∀ x ∈ nones, RN x := fun x hx => by
  simp only [nones, List.mem_cons, List.not_mem_nil, or_false] at hx
  rcases hx with rfl | rfl | rfl | rfl | rfl | rfl | rfl | rfl
  · exact ⟨rfl, .inl rfl⟩
  · exact ⟨rfl, .inl rfl⟩
  · exact ⟨rfl, .inl rfl⟩
  · exact ⟨rfl, .inl rfl⟩
  · exact ⟨rfl, .inl rfl⟩
  · exact ⟨rfl, .inr rfl⟩
  · exact ⟨rfl, .inr rfl⟩
  · exact ⟨rfl, .inl rfl⟩
section
variable {sl : Sl} {n : Nat} {E : Exc → Q.Env → Prop} {K : Nd}
variable {L L' : Cms} {d0 : D} {xs : List D}
theorem giv_cL (ok : ComOk L) : GivC L (cL L) (L.map cmD) := giv_of (w := 10) (by decide) rfl (rwl_cm ok.sz) ok.fine (Nat.le_trans ok.len (by decide)) ok.ne ok.kp
theorem turn_r6 (o : PhiOk Phy) (hs : Shape sl) (h13 : sl[13]? = some (.val (.tup [.str (Str.ofString "moment"), .lst 0 [.int 1, .int (-1), .str (Str.ofString "late")]]))) (q : ∀ sl', Shape sl' → K.nx ⟨sl', n⟩) : wS Phy s_law_1_r6 E ⟨sl, n⟩ K := by
  have hs' := hs
  obtain ⟨z0, z2, z3, z4, z5, z6, z7, z8, z9, z10, z11, z12, z13, z14, z15, z16, z17, z18, z19, z20, rfl⟩ := hs.ex
  cases (show some z13 = some (.val (.tup [.str (Str.ofString "moment"), .lst 0 [.int 1, .int (-1), .str (Str.ofString "late")]])) from h13)
  simp only [s_law_1_r6, wS, wX, wT, wA, wO, wI, sem, ofV, ofI, lookV, lookB, lookO, sl0, truW_bl, blW_bl, intW_int, lstW_lst, seqW_lst, seqW_tup, X.isNil, List.getElem?_cons_zero, List.getElem?_cons_succ, List.set_cons_zero, List.set_cons_succ, List.cons_append, List.nil_append, reduceIte, Bool.false_eq_true, Bool.true_eq_false, Bool.not_true, Bool.not_false]
  refine ⟨by show 3 ≤ sizeMax; decide, by show 2 ≤ sizeMax; decide, ?_⟩
  refine (call_is o.same).mpr ⟨rfl, _, _, rfl, by decide +kernel, ?_⟩
  exact q _ hs'
theorem turn_r5 (o : PhiOk Phy) (ok : ComOk L) (hs : Sh L d0 L' sl) (q : ∀ sl', Shape sl' → K.nx ⟨sl', n⟩) : wS Phy s_law_1_r5 E ⟨sl, n⟩ K := by
  have h20 := hs.set (i := 20) (z := .own [.int 1, .int (-1)]) rfl (by decide) (by decide) (by decide) (by decide)
  have hm : ∀ mm, Sh L d0 L' ((sl.set 20 (.val (.lst (mm + 1) [.int 1, .int (-1)]))).set 13 (.val (.tup [.str (Str.ofString "moment"), .lst (mm + 1) [.int 1, .int (-1)]]))) := fun mm => (hs.set (i := 20) rfl (by decide) (by decide) (by decide) (by decide)).set rfl (by decide) (by decide) (by decide) (by decide)
  obtain ⟨z0, z2, z6, z7, z8, z9, z10, z11, z12, z13, z14, z15, z16, z17, z18, z19, z20, rfl⟩ := hs.ex
  simp only [s_law_1_r5, wS, wX, wT, wA, wO, wI, sem, ofV, ofI, lookV, lookB, lookO, sl0, truW_bl, blW_bl, intW_int, lstW_lst, seqW_lst, seqW_tup, X.isNil, List.getElem?_cons_zero, List.getElem?_cons_succ, List.set_cons_zero, List.set_cons_succ, List.cons_append, List.nil_append, reduceIte, Bool.false_eq_true, Bool.true_eq_false, Bool.not_true, Bool.not_false]
  refine ⟨by show 2 ≤ sizeMax; decide, h20.nc, fun mm => ?_⟩
  simp only [s_law_1_6, wS, wX, wT, wA, wO, wI, sem, ofV, ofI, lookV, lookB, lookO, sl0, truW_bl, blW_bl, intW_int, lstW_lst, seqW_lst, seqW_tup, X.isNil, List.getElem?_cons_zero, List.getElem?_cons_succ, List.set_cons_zero, List.set_cons_succ, List.cons_append, List.nil_append, reduceIte, Bool.false_eq_true, Bool.true_eq_false, Bool.not_true, Bool.not_false]
  refine c_tried o.tried (e := ⟨1, [.lst (mm + 1) [.int 1, .int (-1)]]⟩) (fun Q' E' h => ⟨rfl, c_rate o.rate (ask_mom (giv_cL ok) ⟨rfl, fun xs hx y hy => ?_⟩ rfl h)⟩) (.inr ⟨rfl, _, rfl, ?_⟩)
  · cases hx
    rcases List.mem_cons.mp hy with rfl | hy
    · rfl
    · rw [List.mem_singleton.mp hy]; rfl
  · refine ⟨[.int 1, .int (-1)], rfl, (hm mm).nc, by show 2 < sizeMax; decide, fun y hy => ?_, ?_⟩
    · simp only [List.cons_append, List.nil_append, List.mem_cons, List.not_mem_nil, or_false] at hy
      rcases hy with rfl | rfl | rfl <;> rfl
    · refine turn_r6 o ((hm mm).shape.sub) ?_ q
      show some (Slot.sub mm _ (.val (.tup [.str (Str.ofString "moment"), .lst (mm + 1) [.int 1, .int (-1)]]))) = _
      simp [Slot.sub, D.sub, D.subs]
theorem turn_r4 (o : PhiOk Phy) (ok : ComOk L) (hs : Sh L d0 L' sl) (q : ∀ sl', Shape sl' → K.nx ⟨sl', n⟩) : wS Phy s_law_1_r4 E ⟨sl, n⟩ K := by
  simp only [s_law_1_r4, wS, wX, wT, wA, wO, wI, sem, ofV, ofI, lookV, lookB, lookO, sl0, truW_bl, blW_bl, intW_int, lstW_lst, seqW_lst, seqW_tup, X.isNil, List.getElem?_cons_zero, List.getElem?_cons_succ, List.set_cons_zero, List.set_cons_succ, List.cons_append, List.nil_append, reduceIte, Bool.false_eq_true, Bool.true_eq_false, Bool.not_true, Bool.not_false]
  refine (call_is (g := P + 6) o.dict0).mpr ⟨rfl, ?_⟩
  refine ⟨by decide, by decide, by decide, ?_⟩
  refine for_sh (K := { K with nx := fun ρ => wS Phy s_law_1_r5 E ρ K }) (P := fun sl => Sh L d0 L' sl) (R := RN) (c := 0) (B := n) (fun x sl n K' hx hP hn hk => one_none o hx hP hk) nones_rn hs (by simp) fun sl' n' a b hP => ?_
  have e : n' = n := by simp at b; omega
  subst e
  exact turn_r5 o ok hP q
theorem turn_r3 (o : PhiOk Phy) (ok : ComOk L) (hs : Sh L d0 L' sl) (hn : n + 100 ≤ NB) (q : ∀ sl' n', n' ≤ n + 100 → Shape sl' → K.nx ⟨sl', n'⟩) : wS Phy s_law_1_r3 E ⟨sl, n⟩ K := by
  have hs0 := hs
  obtain ⟨z0, z2, z6, z7, z8, z9, z10, z11, z12, z13, z14, z15, z16, z17, z18, z19, z20, rfl⟩ := hs.ex
  simp only [s_law_1_r3, wS, wX, wT, wA, wO, wI, sem, ofV, ofI, lookV, lookB, lookO, sl0, truW_bl, blW_bl, intW_int, lstW_lst, seqW_lst, seqW_tup, X.isNil, List.getElem?_cons_zero, List.getElem?_cons_succ, List.set_cons_zero, List.set_cons_succ, List.cons_append, List.nil_append, reduceIte, Bool.false_eq_true, Bool.true_eq_false, Bool.not_true, Bool.not_false]
  refine (call_is o.split).mpr ⟨rfl, L, rfl, ok, by omega, fun M n1 n1a n1b sp hM => ?_⟩
  refine len_lst.mpr ?_
  rw [List.length_map]
  have hM0 : 0 < M.length := List.length_pos_iff.mpr sp.ne
  refine (c_draw o.draw).mpr ⟨by omega, by omega, by omega, fun r r0 r1 => bin_add.mpr ?_⟩
  obtain ⟨j, rfl⟩ := Int.eq_ofNat_of_zero_le r0
  have hj : j < M.length := by omega
  have ej : (1 : Int) + ((j : Nat) : Int) = ((j + 1 : Nat) : Int) := by omega
  refine bin_sub.mpr ?_
  have e1 : (1 : Int) + ((j : Nat) : Int) - 1 = ((j : Nat) : Int) := by omega
  rw [e1, ej]
  have eM : M[j]? = some M[j] := List.getElem?_eq_getElem hj
  have hmem : M[j] ∈ M := List.getElem_mem hj
  generalize M[j] = p at eM hmem
  refine ⟨cmD p, at_i (by rw [List.getElem?_map, eM]; rfl), rD p.1, at0, by decide, by show 2 ≤ sizeMax; decide, by show 2 ≤ sizeMax; decide, ?_⟩
  have el : (M.take (j + 1)).getLast?.map Prod.fst = some p.1 := by
    rw [List.take_succ, eM]
    simp
  refine for_sh (K := { K with nx := fun ρ => wS Phy s_law_1_r4 E ρ K }) (P := fun sl => (Sh L d0 L' sl ∧ sl[17]? = some (.val (.int ((j + 1 : Nat) : Int)))) ∧ sl[19]? = some (.val (cL M))) (R := OddAt ((M.take (j + 1)).getLast?.map Prod.fst)) (c := 0) (B := n1 + 1) (fun x sl n K' hx hP hn hk => one_row o sp.fine (by omega) (by omega) hx hP hk) (fun x hx => ?_) ⟨⟨(hs0.set (i := 19) (z := .val (cL M)) rfl (by decide) (by decide) (by decide) (by decide)).set (i := 17) (z := .val (.int ((j + 1 : Nat) : Int))) rfl (by decide) (by decide) (by decide) (by decide), rfl⟩, rfl⟩ (by simp) fun sl' n' a b hP => ?_
  · rw [el]
    rcases List.mem_cons.mp hx with rfl | hx
    · exact odd_none
    · rw [List.mem_singleton.mp hx]
      exact odd_same (sp.fine.sz p hmem).1 (sp.nn p hmem).1
  · have e : n' = n1 + 1 := by simp at b; omega
    exact turn_r4 o ok hP.1.1 fun sl2 h2 => q sl2 n' (by omega) h2
theorem turn_r2 (o : PhiOk Phy) (ok : ComOk L) (hs : Sh L d0 L' sl) (hn : n + 300 ≤ NB) (q : ∀ sl' n', n' ≤ n + 300 → Shape sl' → K.nx ⟨sl', n'⟩) : wS Phy s_law_1_r2 E ⟨sl, n⟩ K := by
  have hs0 := hs
  obtain ⟨z0, z2, z6, z7, z8, z9, z10, z11, z12, z13, z14, z15, z16, z17, z18, z19, z20, rfl⟩ := hs.ex
  simp only [s_law_1_r2, wS, wX, wT, wA, wO, wI, sem, ofV, ofI, lookV, lookB, lookO, sl0, truW_bl, blW_bl, intW_int, lstW_lst, seqW_lst, seqW_tup, X.isNil, List.getElem?_cons_zero, List.getElem?_cons_succ, List.set_cons_zero, List.set_cons_succ, List.cons_append, List.nil_append, reduceIte, Bool.false_eq_true, Bool.true_eq_false, Bool.not_true, Bool.not_false]
  refine len_lst.mpr ?_
  refine bin_add.mpr ?_
  rw [List.length_map]
  have h6 := ok.len
  refine (c_draw o.draw).mpr ⟨by omega, by omega, by omega, fun r r0 r1 => ?_⟩
  obtain ⟨j, rfl⟩ := Int.eq_ofNat_of_zero_le r0
  have hj : j ≤ L.length := by omega
  refine (call_is o.odds).mpr ⟨rfl, L, j, rfl, ok.fine, hj, fun ys hy hl => ?_⟩
  refine seqW_lst.mpr ?_
  refine for_sh (K := { K with nx := fun ρ => wS Phy s_law_1_r3 E ρ K }) (P := fun sl => Sh L d0 L' sl ∧ sl[17]? = some (.val (.int (j : Nat)))) (R := OddAt ((L.take j).getLast?.map Prod.fst)) (c := 1) (B := NB) (fun x sl n K' hx hP hn hk => one_odd o ok.fine (by omega) hj hx hP hn hk) hy ⟨hs0.set (i := 17) (z := .val (.int (j : Nat))) rfl (by decide) (by decide) (by decide) (by decide), rfl⟩ (by omega) fun sl' n' a b hP => ?_
  exact turn_r3 o ok hP.1 (by omega) fun sl2 n2 h2 => q sl2 n2 (by omega)
theorem turn_r1 (o : PhiOk Phy) (ok : ComOk L) (g : GivC L d0 xs) (hs : Sh L d0 L' sl) (hn : n + 300 ≤ NB) (q : ∀ sl' n', n' ≤ n + 300 → Shape sl' → K.nx ⟨sl', n'⟩) : wS Phy s_law_1_r1 E ⟨sl, n⟩ K := by
  simp only [s_law_1_r1, wS, wX, wT, wA, wO, wI, sem, ofV, ofI, lookV, lookB, lookO, sl0, truW_bl, blW_bl, intW_int, lstW_lst, seqW_lst, seqW_tup, X.isNil, List.getElem?_cons_zero, List.getElem?_cons_succ, List.set_cons_zero, List.set_cons_succ, List.cons_append, List.nil_append, reduceIte, Bool.false_eq_true, Bool.true_eq_false, Bool.not_true, Bool.not_false]
  refine ⟨by decide, by decide, by decide, by decide, by decide, by decide, ?_⟩
  refine (call_is (g := P + 6) o.dict0).mpr ⟨rfl, ?_⟩
  refine ⟨by decide, by decide, by decide, by decide, ?_⟩
  refine for_sh (K := { K with nx := fun ρ => wS Phy s_law_1_r2 E ρ K }) (xs := odds) (P := fun sl => Sh L d0 L' sl) (R := RM) (c := 0) (B := n) (fun x sl n K' hx hP hn hk => ask_m o g hx hP hk) odds_rm hs (by simp) fun sl' n' a b hP => ?_
  have e : n' = n := by simp at b; omega
  subst e
  exact turn_r2 o ok hP hn q
theorem mom_ov {a b : Int} (a0 : 0 ≤ a) (a1 : a < 200) (b0 : 1 ≤ b) (b1 : b ≤ 4) : Ov 12 2400 (a /. b) := by
  have hb : b = 1 ∨ b = 2 ∨ b = 3 ∨ b = 4 := by omega
  rcases hb with rfl | rfl | rfl | rfl
  · exact ⟨a * 12, by rw [← Rat.divInt_mul_right (a := 12) (by decide)]; rfl, by rw [Int.natAbs_mul]; show a.natAbs * 12 ≤ 2400; omega⟩
  · exact ⟨a * 6, by rw [← Rat.divInt_mul_right (a := 6) (by decide)]; rfl, by rw [Int.natAbs_mul]; show a.natAbs * 6 ≤ 2400; omega⟩
  · exact ⟨a * 4, by rw [← Rat.divInt_mul_right (a := 4) (by decide)]; rfl, by rw [Int.natAbs_mul]; show a.natAbs * 4 ≤ 2400; omega⟩
  · exact ⟨a * 3, by rw [← Rat.divInt_mul_right (a := 3) (by decide)]; rfl, by rw [Int.natAbs_mul]; show a.natAbs * 3 ≤ 2400; omega⟩
/-- one turn of the law -/
theorem one_turn (o : PhiOk Phy) (hz : Shape sl) (hn : n + 150000 ≤ NB) (q : ∀ sl n', n' ≤ n + 150000 → Shape sl → K.nx ⟨sl, n'⟩) : wS Phy s_law_1 E ⟨sl, n⟩ K := by
  obtain ⟨z0, z2, z3, z4, z5, z6, z7, z8, z9, z10, z11, z12, z13, z14, z15, z16, z17, z18, z19, z20, rfl⟩ := hz.ex
  simp only [s_law_1, wS, wX, wT, wA, wO, wI, sem, ofV, ofI, lookV, lookB, lookO, sl0, truW_bl, blW_bl, intW_int, lstW_lst, seqW_lst, seqW_tup, X.isNil, List.getElem?_cons_zero, List.getElem?_cons_succ, List.set_cons_zero, List.set_cons_succ, List.cons_append, List.nil_append, reduceIte, Bool.false_eq_true, Bool.true_eq_false, Bool.not_true, Bool.not_false, wPar]
  refine (call_is o.comers).mpr ⟨rfl, rfl, by omega, fun L n1 n1a n1b ok => ?_⟩
  refine (call_is o.rawc).mpr ⟨rfl, 10, L, rfl, by decide, ok.len, ok.sz, by omega, fun d0 xs n2 n2a n2b hs r => ?_⟩
  refine (call_is o.split).mpr ⟨rfl, L, rfl, ok, by omega, fun L' n3 n3a n3b sp hl' => ?_⟩
  have g := giv_of (w := 12) (by decide) hs r ok.fine (Nat.le_trans ok.len (by decide)) ok.ne ok.kp
  have gr := giv_rok hs r (by decide) (Nat.le_trans ok.len (by decide))
  have hlen := ok.len
  refine (call_is (g := P + 9) o.repr).mpr ⟨rfl, gr, ?_⟩
  refine seqW_lst.mpr ?_
  refine compL_map (f := c0) (fun x hx k q => ?_) (by simp [sizeMax]; omega) ?_
  · obtain ⟨p, hp, rfl⟩ := List.mem_map.mp hx
    exact ⟨rD p.1, at0, q⟩
  · refine ⟨by decide, by decide, ?_⟩
    refine compL_any (P := fun _ y => ∃ m, y = rD m ∧ Mom m) (c := 2) (B := NB) (fun x hx n k hb hk => ?_) (by decide) (by show n3 + 2 * 4 ≤ NB; omega) fun ys n4 n4a n4b he hq => ?_
    · refine (c_draw o.draw).mpr ⟨by decide, by decide, by omega, fun a a0 a1 => ?_⟩
      refine (c_draw o.draw).mpr ⟨by decide, by decide, by omega, fun b b0 b1 => bin_add.mpr ?_⟩
      refine c_low o.low (by omega) (Nat.lt_of_lt_of_le (show (1 + b).natAbs < 2 ^ 3 by show _ < 8; omega) (Nat.pow_le_pow_right (by decide) (by decide))) ?_
      refine hk _ _ (by omega) (by omega) ⟨a /. (1 + b), rfl, Rat.divInt_nonneg a0 (by omega), mom_ov a0 (by omega) (by omega) (by omega)⟩
    · have n4b : n4 ≤ n3 + 2 * 4 := n4b
      have he : ys.length = 4 := he
      refine ⟨by simp [sizeMax, he]; omega, ?_⟩
      have all : ∀ x ∈ (L.map cmD).map c0 ++ ([] ++ ys), ∃ m, x = rD m ∧ Mom m := fun x hx => by
        rcases List.mem_append.mp hx with hx | hx
        · rw [List.map_map] at hx
          obtain ⟨p, hp, rfl⟩ := List.mem_map.mp hx
          exact ⟨p.1, rfl, (ok.mo p hp).2, (((ok.mo p hp).1.up (m := 2) (by decide)).le (by decide) : Ov 12 2400 p.1)⟩
        · rw [List.nil_append] at hx
          obtain ⟨i, hi, e⟩ := List.mem_iff_getElem.mp hx
          have hi4 : i < (rangeD 0 (Int.toNat 4)).length := by rw [he] at hi; exact hi
          exact hq i _ x (List.getElem?_eq_getElem hi4) (by rw [List.getElem?_eq_getElem hi, e])
      refine for_sh (K := { K with nx := fun ρ => wS Phy s_law_1_r1 E ρ K }) (P := fun sl => Sh L d0 L' sl ∧ sl[6]? = some (.val (.str d0.shw.shown))) (R := fun x => ∃ m, x = rD m ∧ Mom m) (c := 4200) (B := NB) (fun x sl n K' hx hP hn hk => ?_) all ⟨⟨rfl, ?_, rfl, rfl, rfl, rfl⟩, rfl⟩ ?_ fun sl' n' a b hP => ?_
      · obtain ⟨m, rfl, hm⟩ := hx
        have h6 : (sl.set 10 (.val (rD m)))[6]? = some (.val (.str d0.shw.shown)) := by rw [List.getElem?_set_ne (by decide)]; exact hP.2
        have h10 : (sl.set 10 (.val (rD m)))[10]? = some (.val (rD m)) := by rw [List.getElem?_set_self (by rw [hP.1.len]; decide)]
        exact one_mom o (hP.1.set (i := 10) rfl (by decide) (by decide) (by decide) (by decide)) ok g gr sp (by omega) hm h6 h10 hn fun sl2 n2 a2 b2 c2 d2 => hk sl2 n2 a2 b2 ⟨c2, d2⟩
      · exact (((((hz.set (i := 3) (z := .val (cL L)) rfl (by decide)).set (i := 4) (z := .val d0) rfl (by decide)).set (i := 5) (z := .val (cL L')) rfl (by decide)).set (i := 6) (z := .val (.str d0.shw.shown)) rfl (by decide)).set (i := 7) (z := .val (.lst 0 ((L.map cmD).map c0 ++ ([] ++ ys)))) rfl (by decide)).nc
      · simp [he]; omega
      · have b : n' ≤ n4 + 4200 * ((L.map cmD).map c0 ++ ([] ++ ys)).length := b
        have e : ((L.map cmD).map c0 ++ ([] ++ ys)).length ≤ 10 := by simp [he]; omega
        exact turn_r1 o ok g hP.1 (by omega) fun sl2 n2 h2 => q sl2 n2 (by omega)
end
/-- a loop that keeps P; bounds from above alone -/
theorem for_up {t : Tg} {b : S} {E : Exc → Q.Env → Prop} {K : Nd} {P : Sl → Prop} {R : D → Prop} {c B : Nat} (body : ∀ (x : D) (sl : Sl) (n : Nat) (K' : Nd), R x → P sl → n + c ≤ B → (∀ sl' n', n' ≤ n + c → P sl' → K'.nx ⟨sl', n'⟩) → wTg t x sl fun sl => wS Phy b E ⟨sl, n⟩ K') : ∀ {xs : List D} {sl : Sl} {n : Nat}, (∀ x ∈ xs, R x) → P sl → n + c * xs.length ≤ B → (∀ sl' n', n' ≤ n + c * xs.length → P sl' → K.nx ⟨sl', n'⟩) →
    forL (fun x ρ k => wTg t x ρ.sl fun sl => wS Phy b E ⟨sl, ρ.n⟩ { K with nx := k, ct := k, bk := K.nx }) xs ⟨sl, n⟩ K.nx
  | [], sl, n, _, hP, _, hk => hk sl n (Nat.le_add_right _ _) hP
  | x :: xs, sl, n, hx, hP, hn, hk => by
    rw [List.length_cons, Nat.mul_add, Nat.mul_one] at hn hk
    refine body x sl n _ (hx x List.mem_cons_self) hP (by omega) fun sl' n' b hP' => ?_
    exact for_up body (fun y hy => hx y (List.mem_cons_of_mem _ hy)) hP' (by omega) fun sl2 n2 b2 h2 => hk sl2 n2 (by omega) h2
theorem law_true (o : PhiOk Phy) {sl : Sl} {E : Exc → Q.Env → Prop} {K : Nd} (hz : Shape sl) (q : ∀ n, K.rt (.bl true) n) : wS Phy s_law E ⟨sl, 0⟩ K := by
  rw [s_law_eq]
  simp only [wS, wX, wT, wA, wO, wI, sem, ofV, ofI, lookV, lookB, lookO, sl0, truW_bl, blW_bl, intW_int, lstW_lst, seqW_lst, seqW_tup, X.isNil, List.getElem?_cons_zero, List.getElem?_cons_succ, List.set_cons_zero, List.set_cons_succ, List.cons_append, List.nil_append, reduceIte, Bool.false_eq_true, Bool.true_eq_false, Bool.not_true, Bool.not_false]
  refine ⟨by decide, by decide, ?_⟩
  refine for_up (K := { K with nx := fun ρ => K.rt (.bl true) ρ.n }) (P := Shape) (R := fun _ => True) (c := 150000) (B := NB) (fun x sl n K' _ hP hn hk => ?_) (fun _ _ => trivial) hz (by decide) fun sl' n' b hP => q n'
  exact one_turn o (hP.set (i := 2) rfl (by decide)) hn fun sl2 n2 h2 hs => hk sl2 n2 h2 hs
end LW
/-! calls by keywords alone. Printed by gl.py. -/
namespace LW
open PySem PySem.Spec L2 Q
section
variable {c : Cx} {M : Pm} {Wx : WX}
/-- a def called by keywords alone -/
theorem pe_kw0 {CX : CXT} {k : Nat} {f : Addr} {fd : FuncData} {ps ks : List Str} {sp : Sp} {E : XK} {x : Str} {p pos : Pos} {kws : List Keyword} {tk : TA} {g : List Value → List Value → List Value} {gV : List V → List V → List V}
    (F : FnOk c.prog c.w c.K c.mg c.base CX k f fd ps sp) (hr : Room k c.A) (hg : Gl c x) (hm : c.mg x = some (.ref f)) (hk : PySem.W.keepIn c.K (.ref f) = true) (hb : KBn c.K fd ps 0 ks g gV) (hx : Passes CX c E) (hkw : PK c kws tk)
    (hall : (backToKw pos (keywordEach kws c.env)).all (·.1.isSome) = true) (hks : (backToKw pos (keywordEach kws c.env)).filterMap (·.1) = ks) (hdb : (x == ("__debug__" : Str)) = false)
    (hpl : ((backTo pos (starEach [] c.env)).any (·.1) || (backToKw pos (keywordEach kws c.env)).any (·.1.isNone)) = false) : PE c (.Call (.Name x p) [] kws pos) (tCallN 0 ks.length sp gV E tNil tk) := by
  refine ⟨fun pins s σ H Q I h => wpAny_Call_Name_kw (ld_glob I hg hm ?_ hdb)⟩
  refine PySem.W.callWith_KW0 (h₀ := c.base) I.ok.mod.kin hk hall ?_ hpl
  refine thn (hkw.run pos pins s σ H _ I h) fun ws s2 ⟨zs, H2, I2, rz, _, l2, q2⟩ => ⟨I2.kIn, ?_⟩
  rw [hks]
  exact run_fnN (us := []) (vs := []) F hr hb hx I2 .nil rz rfl l2 q2
theorem pass_no {P : Program} {w : World} {X : Cx} : Passes (L2.CX P w) X E0 := fun _ _ _ _ _ _ _ h => by
  obtain ⟨_, _, _, _, _, _, _, _, _, _, _, _, z⟩ := h
  exact z.elim
theorem kwNames_nil {r : List Keyword} (h : kwNames r = some []) : r = [] := by
  match r, h with
  | [], _ => rfl
  | ⟨some a, x, p⟩ :: r, h =>
    unfold kwNames at h
    cases e : kwNames r with
    | none => rw [e] at h; cases h
    | some l => rw [e] at h; cases h
  | ⟨none, x, p⟩ :: r, h => cases h
theorem kwNames_cons {k1 : Str} {ks : List Str} {r : List Keyword} (h : kwNames r = some (k1 :: ks)) : ∃ (x : Expr) (kp : Pos) (r' : List Keyword), r = ⟨some k1, x, kp⟩ :: r' ∧ kwNames r' = some ks := by
  match r, h with
  | [], h => cases h
  | ⟨none, x, p⟩ :: r, h => cases h
  | ⟨some a, x, p⟩ :: r, h =>
    unfold kwNames at h
    cases e : kwNames r with
    | none => rw [e] at h; cases h
    | some l =>
      rw [e] at h
      cases h
      exact ⟨x, p, r, rfl, e⟩
theorem rcKw_ok {t : String} {ks : List Str} {sc : Scope} {e : Expr} {es : List Expr} (h : rcKw t ks sc e = some es) : ∃ (s : Str) (p1 p2 : Pos) (kws : List Keyword), e = .Call (.Name s p1) [] kws p2 ∧ kwNames kws = some ks ∧ es = kwVals kws ∧ isGl sc s t = true := by
  unfold rcKw at h
  split at h
  · rename_i s p1 kws p2
    split at h
    · rename_i hc
      rw [Bool.and_eq_true, decide_eq_true_eq] at hc
      cases h
      exact ⟨s, p1, p2, kws, rfl, hc.2, rfl, hc.1⟩
    · cases h
  · cases h
theorem kw0_ok {p : Nat} {Gk : Fn} {e : Expr} {es : List Expr} {xs : X} (g : Good c M.off Wx) (hF : (M.Phy.take M.nf)[f_rate_at]? = some F_rate_at) (hG : Gk.sp = fun ds n Q _ => ∃ a0 a1, ds = [a0, a1] ∧ F_rate_at.sp [a1, a0] n Q fun _ _ => False) (hB : KBn c.K (M.fd f_rate_at) F_rate_at.ps 0 [Str.ofString "moment", Str.ofString "comers"] (fun _ ws => ws.reverse) (fun _ ws => ws.reverse))
    (hp : M.Phy[p]? = some Gk) (he : rcKw "rate_at" [Str.ofString "moment", Str.ofString "comers"] c.env.scope e = some es) (ha : PEs c M Wx xs es) : PE c e (rdX M Wx (.pri p xs)) := by
  obtain ⟨s, p1, p2, kws, rfl, hk, rfl, h1⟩ := rcKw_ok he
  obtain ⟨x0, kp0, r0, rfl, hk0⟩ := kwNames_cons hk
  obtain ⟨x1, kp1, r1, rfl, hk1⟩ := kwNames_cons hk0
  obtain rfl := kwNames_nil hk1
  obtain ⟨f1, f2, f3, f4⟩ := g.fx.fns _ _ hF
  unfold isGl at h1
  rw [Bool.and_eq_true, decide_eq_true_eq] at h1
  obtain ⟨rfl, h1⟩ := h1
  cases ha with
  | cons na0 hs0 he0 hr0 =>
    cases hr0 with
    | cons na1 hs1 he1 hr1 =>
      cases hr1
      refine PE.imp (pe_kw0 f1 g.rm (gl_ok h1).1 f2 f3 hB pass_no (pk_cons he0 (pk_cons he1 pk_nil)) (by rfl) (by rfl) (by decide) (by rfl)) fun σ H Q h => ?_
      obtain ⟨A₀, W₀, A, W0, sl, n0, E, Qd, e, R0, X0, hw, kk⟩ := h
      refine ⟨A₀, W₀, A, W0, sl, n0, E, _, e, R0, X0, hw, fun v1 d1 W1 n1 S1 r1 q1 => ?_⟩
      have R1 := R0.ste S1
      have X1 := X0.ste S1
      refine ⟨A₀, W₀, A, W1, sl, n1, E, _, rfl, R1, X1, q1, fun v2 d2 W2 n2 S2 r2 q2 => ?_⟩
      have R2 := R1.ste S2
      have X2 := X1.ste S2
      refine ⟨rfl, rfl, ?_⟩
      have q2 : callW M.Phy p [d1, d2] n2 Qd E := q2
      unfold callW at q2
      rw [hp] at q2
      obtain ⟨_, q2⟩ := q2
      rw [hG] at q2
      obtain ⟨y0, y1, ee, q2⟩ := q2
      cases ee
      refine ⟨rfl, A, W2, [d2, d1], n2, Qd, fun _ _ => False, rfl, R2.bas, R2.strm, R2.tabs, (.cons (r2.2.1 na1) (.cons ((r1.2.1 na0).stp (R1.bas.stp S2)) .nil)), q2, fun v d W' n' S a _ q => ?_, fun _ _ _ _ _ _ _ z => z.elim⟩
      exact kk v d W' n' ((S1.trans S2).trans S) ⟨.inl a, fun _ => a, fun z => nomatch z⟩ q
theorem kw1_ok {p : Nat} {Gk : Fn} {e : Expr} {es : List Expr} {xs : X} (g : Good c M.off Wx) (hF : (M.Phy.take M.nf)[f_come_by]? = some F_come_by) (hG : Gk.sp = fun ds n Q _ => ∃ a0 a1, ds = [a0, a1] ∧ F_come_by.sp [a1, a0] n Q fun _ _ => False) (hB : KBn c.K (M.fd f_come_by) F_come_by.ps 0 [Str.ofString "moment", Str.ofString "comers"] (fun _ ws => ws.reverse) (fun _ ws => ws.reverse))
    (hp : M.Phy[p]? = some Gk) (he : rcKw "come_by" [Str.ofString "moment", Str.ofString "comers"] c.env.scope e = some es) (ha : PEs c M Wx xs es) : PE c e (rdX M Wx (.pri p xs)) := by
  obtain ⟨s, p1, p2, kws, rfl, hk, rfl, h1⟩ := rcKw_ok he
  obtain ⟨x0, kp0, r0, rfl, hk0⟩ := kwNames_cons hk
  obtain ⟨x1, kp1, r1, rfl, hk1⟩ := kwNames_cons hk0
  obtain rfl := kwNames_nil hk1
  obtain ⟨f1, f2, f3, f4⟩ := g.fx.fns _ _ hF
  unfold isGl at h1
  rw [Bool.and_eq_true, decide_eq_true_eq] at h1
  obtain ⟨rfl, h1⟩ := h1
  cases ha with
  | cons na0 hs0 he0 hr0 =>
    cases hr0 with
    | cons na1 hs1 he1 hr1 =>
      cases hr1
      refine PE.imp (pe_kw0 f1 g.rm (gl_ok h1).1 f2 f3 hB pass_no (pk_cons he0 (pk_cons he1 pk_nil)) (by rfl) (by rfl) (by decide) (by rfl)) fun σ H Q h => ?_
      obtain ⟨A₀, W₀, A, W0, sl, n0, E, Qd, e, R0, X0, hw, kk⟩ := h
      refine ⟨A₀, W₀, A, W0, sl, n0, E, _, e, R0, X0, hw, fun v1 d1 W1 n1 S1 r1 q1 => ?_⟩
      have R1 := R0.ste S1
      have X1 := X0.ste S1
      refine ⟨A₀, W₀, A, W1, sl, n1, E, _, rfl, R1, X1, q1, fun v2 d2 W2 n2 S2 r2 q2 => ?_⟩
      have R2 := R1.ste S2
      have X2 := X1.ste S2
      refine ⟨rfl, rfl, ?_⟩
      have q2 : callW M.Phy p [d1, d2] n2 Qd E := q2
      unfold callW at q2
      rw [hp] at q2
      obtain ⟨_, q2⟩ := q2
      rw [hG] at q2
      obtain ⟨y0, y1, ee, q2⟩ := q2
      cases ee
      refine ⟨rfl, A, W2, [d2, d1], n2, Qd, fun _ _ => False, rfl, R2.bas, R2.strm, R2.tabs, (.cons (r2.2.1 na1) (.cons ((r1.2.1 na0).stp (R1.bas.stp S2)) .nil)), q2, fun v d W' n' S a _ q => ?_, fun _ _ _ _ _ _ _ z => z.elim⟩
      exact kk v d W' n' ((S1.trans S2).trans S) ⟨.inl a, fun _ => a, fun z => nomatch z⟩ q
end
end LW
/-! k02_whole_comers: the entries, the primitives. Printed by gl.py. -/
namespace LW
open PySem PySem.Spec L2 Q
/-- the defs' promises, entry by entry -/
def ents : List Fn := [F_is_list, F_is_whole, F_is_positive, F_lowest, F_is_fraction, F_is_heap, F_told, F_checked_moment, F_plus, F_less, F_times, F_is_below, F_is_comer, F_bad_comers, F_checked_comers, F_rate_from, F_heap_by, F_rate_at, F_come_by, F_draw, F_pick, (F_same 0), (F_same 1), (F_same 2), (F_same 3), (F_same 4), (F_loose 0), (F_loose 1), (F_loose 2), (F_loose 3), F_common, F_low, F_lplus, F_lless, F_ltimes, F_lbelow, F_lleastR, F_ltotal, F_raw, F_raw_comers, F_lcomers, F_lrate_at, F_tried, F_lcome, F_lsplit, F_lodds]
def prims : List Fn := [pItems.fn, pLrg.fn, pSorted.fn, pSortset.fn, pRev.fn, pDict1.fn, pDict0.fn, pStr.fn, pBool.fn, pRepr.fn, pGcd.fn, pSortG.fn, pSortD.fn, pDictC.fn, pMinl.fn, F_kw0, F_kw1]
/-- the defs that call what they are given -/
def hofs : Nat → Bool := fun g => g == f_law_tried
def PHI : List Fn := ents ++ prims
theorem phi_ok : PhiOk (PHI ++ []) := by constructor <;> rfl
theorem names_ok : ents.map (·.name) = fns := by decide +kernel
/-- what is asked of the defs called by keywords -/
def KwOk (M : Pm) (i : Nat) : Prop := (f_rate_at < i ∧ KBn M.G.K (M.fd f_rate_at) F_rate_at.ps 0 [Str.ofString "moment", Str.ofString "comers"] (fun _ ws => ws.reverse) (fun _ ws => ws.reverse)) ∧ (f_come_by < i ∧ KBn M.G.K (M.fd f_come_by) F_come_by.ps 0 [Str.ofString "moment", Str.ofString "comers"] (fun _ ws => ws.reverse) (fun _ ws => ws.reverse)) ∧ True
/-- the parameters of the i-th def -/
structure PmOk (M : Pm) (i j x : Nat) (lm gd fr : Bool) (L0 : List Fn) : Prop where
  Phy : M.Phy = PHI ++ L0
  bs : M.bs = bs
  nf : M.nf = i
  np : M.np = j
  hi : i ≤ j
  hj : j ≤ 46
  cl : M.G.cl = []
  nm : M.G.nm = nm
  cn : M.G.cn = cn
  lm : M.lm = lm
  gd : M.gd = gd
  x : M.x = x
  hf : M.hf = hofs
  ini : M.ini = fun _ => none
  mth : M.mth = fun _ _ => none
  xc : M.G.xc = [1, 2]
  fr : M.fr = fr
  mx : M.mx = mx
theorem prim_at {k : Nat} {F : Fn} (h : prims[k]? = some F) {L : List Fn} : (PHI ++ L)[P + k]? = some F := by
  have hk : k < prims.length := (List.getElem?_eq_some_iff.mp h).1
  have e1 : PHI[P + k]? = some F := by
    unfold PHI
    rw [List.getElem?_append_right (show ents.length ≤ P + k from Nat.le_add_right _ _)]
    rw [show P + k - ents.length = k from Nat.add_sub_cancel_left _ _]
    exact h
  rw [List.getElem?_append_left (List.getElem?_eq_some_iff.mp e1).1]
  exact e1
theorem prK_low {gd : Bool} {p : Nat} {sc : Scope} {e : Expr} {es : List Expr} (h : prK gd p sc e = some es) : ∃ k, p = P + k ∧ ((k = 0 ∧ pItems.rc sc e = some es) ∨ (k = 1 ∧ pLrg.rc sc e = some es) ∨ (k = 2 ∧ pSorted.rc sc e = some es) ∨ (k = 3 ∧ rcSortset sc e = some es) ∨ (k = 4 ∧ pRev.rc sc e = some es) ∨ (k = 5 ∧ pDict1.rc sc e = some es) ∨ (k = 6 ∧ pDict0.rc sc e = some es) ∨ (k = 7 ∧ pStr.rc sc e = some es) ∨ (k = 8 ∧ pBool.rc sc e = some es) ∨ (k = 9 ∧ gd = true ∧ pRepr.rc sc e = some es) ∨ (k = 10 ∧ pGcd.rc sc e = some es) ∨ (k = 11 ∧ pSortG.rc sc e = some es) ∨ (k = 12 ∧ pSortD.rc sc e = some es) ∨ (k = 13 ∧ pDictC.rc sc e = some es) ∨ (k = 14 ∧ pMinl.rc sc e = some es) ∨ (k = 15 ∧ gd = true ∧ rcKw "rate_at" ["moment", "comers"] sc e = some es) ∨ (k = 16 ∧ gd = true ∧ rcKw "come_by" ["moment", "comers"] sc e = some es)) := by
  unfold prK at h
  split at h
  · cases h
  · rename_i hp
    refine ⟨p - P, by omega, ?_⟩
    split at h
    all_goals first | (rename_i hk; rw [hk]; skip) | (cases h; done)
    · exact .inl ⟨rfl, h⟩
    · exact .inr (.inl ⟨rfl, h⟩)
    · exact .inr (.inr (.inl ⟨rfl, h⟩))
    · exact .inr (.inr (.inr (.inl ⟨rfl, h⟩)))
    · exact .inr (.inr (.inr (.inr (.inl ⟨rfl, h⟩))))
    · exact .inr (.inr (.inr (.inr (.inr (.inl ⟨rfl, h⟩)))))
    · exact .inr (.inr (.inr (.inr (.inr (.inr (.inl ⟨rfl, h⟩))))))
    · exact .inr (.inr (.inr (.inr (.inr (.inr (.inr (.inl ⟨rfl, h⟩)))))))
    · exact .inr (.inr (.inr (.inr (.inr (.inr (.inr (.inr (.inl ⟨rfl, h⟩))))))))
    · split at h
      · rename_i g
        exact .inr (.inr (.inr (.inr (.inr (.inr (.inr (.inr (.inr (.inl ⟨rfl, g, h⟩)))))))))
      · cases h
    · exact .inr (.inr (.inr (.inr (.inr (.inr (.inr (.inr (.inr (.inr (.inl ⟨rfl, h⟩))))))))))
    · exact .inr (.inr (.inr (.inr (.inr (.inr (.inr (.inr (.inr (.inr (.inr (.inl ⟨rfl, h⟩)))))))))))
    · exact .inr (.inr (.inr (.inr (.inr (.inr (.inr (.inr (.inr (.inr (.inr (.inr (.inl ⟨rfl, h⟩))))))))))))
    · exact .inr (.inr (.inr (.inr (.inr (.inr (.inr (.inr (.inr (.inr (.inr (.inr (.inr (.inl ⟨rfl, h⟩)))))))))))))
    · exact .inr (.inr (.inr (.inr (.inr (.inr (.inr (.inr (.inr (.inr (.inr (.inr (.inr (.inr (.inl ⟨rfl, h⟩))))))))))))))
    · split at h
      · rename_i g
        exact .inr (.inr (.inr (.inr (.inr (.inr (.inr (.inr (.inr (.inr (.inr (.inr (.inr (.inr (.inr (.inl ⟨rfl, g, h⟩)))))))))))))))
      · cases h
    · split at h
      · rename_i g
        exact .inr (.inr (.inr (.inr (.inr (.inr (.inr (.inr (.inr (.inr (.inr (.inr (.inr (.inr (.inr (.inr (⟨rfl, g, h⟩))))))))))))))))
      · cases h
theorem fit_of {M : Pm} {i j x : Nat} {cal lm gd fr : Bool} {L0 : List Fn} (o : PmOk M i j x lm gd fr L0) (hc : cal = true → M.cal = true) (hg : gd = true → KwOk M i) : Fit M (cf i j x cal lm gd fr) := by
  have hin : ∀ s, s ∈ bs → s ∈ M.bs := fun s h => by rw [o.bs]; exact h
  refine ⟨o.bs, ?_, o.cl, o.nm, o.cn, hc, (fun h => by rw [o.lm]; exact h), o.gd.symm, o.x.symm, o.hf.symm, o.ini, o.mth, ⟨o.np, ?_, ?_⟩, o.xc, ?_, o.fr.symm⟩
  · rw [o.Phy, o.nf]
    unfold PHI
    rw [List.append_assoc, List.take_append_of_le_length (show i ≤ ents.length from Nat.le_trans o.hi o.hj), List.map_take, names_ok]
    rfl
  · rw [o.np, o.Phy]; have := o.hj; rw [List.length_append]; show j ≤ 63 + _; omega
  · rw [o.np, o.nf]; exact o.hi
  · intro p c Wx L y g e es h xs ha
    have pa : ∀ {k : Nat} {F : Fn}, prims[k]? = some F → ({ M with Phy := M.Phy ++ L, x := y } : Pm).Phy[P + k]? = some F := fun {k F} h => by
      show (M.Phy ++ L)[P + k]? = _
      rw [o.Phy, List.append_assoc]
      exact prim_at h
    obtain ⟨k, rfl, q⟩ := prK_low h
    rcases q with ⟨rfl, q⟩ | ⟨rfl, q⟩ | ⟨rfl, q⟩ | ⟨rfl, q⟩ | ⟨rfl, q⟩ | ⟨rfl, q⟩ | ⟨rfl, q⟩ | ⟨rfl, q⟩ | ⟨rfl, q⟩ | ⟨rfl, gg, q⟩ | ⟨rfl, q⟩ | ⟨rfl, q⟩ | ⟨rfl, q⟩ | ⟨rfl, q⟩ | ⟨rfl, q⟩ | ⟨rfl, gg, q⟩ | ⟨rfl, gg, q⟩
    · exact ⟨pItems_ok (M := { M with Phy := M.Phy ++ L, x := y }) g (fun s hs => hin s ((by decide +kernel : ∀ s ∈ (["list"] : List Str), s ∈ bs) s hs)) (pa rfl) q ha, fun (z : prfK (P + 0) = true) => absurd z (by decide)⟩
    · exact ⟨pLrg_ok (M := { M with Phy := M.Phy ++ L, x := y }) g (fun s hs => hin s ((by decide +kernel : ∀ s ∈ (["list", "range"] : List Str), s ∈ bs) s hs)) (pa rfl) q ha, fun (z : prfK (P + 1) = true) => absurd z (by decide)⟩
    · exact ⟨pSorted_ok (M := { M with Phy := M.Phy ++ L, x := y }) g (fun s hs => hin s ((by decide +kernel : ∀ s ∈ (["sorted"] : List Str), s ∈ bs) s hs)) (pa rfl) q ha, fun (z : prfK (P + 2) = true) => absurd z (by decide)⟩
    · exact ⟨pSortset_ok (M := { M with Phy := M.Phy ++ L, x := y }) g (fun s hs => hin s ((by decide +kernel : ∀ s ∈ (["sorted", "set"] : List Str), s ∈ bs) s hs)) (pa rfl) q ha, fun (z : prfK (P + 3) = true) => absurd z (by decide)⟩
    · exact ⟨pRev_ok (M := { M with Phy := M.Phy ++ L, x := y }) g (fun s hs => nomatch hs) (pa rfl) q ha, fun (z : prfK (P + 4) = true) => absurd z (by decide)⟩
    · have h1 := pDict1_okF (M := { M with Phy := M.Phy ++ L, x := y }) (p := P + 5) g (pa rfl) q ha
      exact ⟨pri_of h1, fun _ => h1⟩
    · exact ⟨pDict0_ok (M := { M with Phy := M.Phy ++ L, x := y }) g (fun s hs => nomatch hs) (pa rfl) q ha, fun (z : prfK (P + 6) = true) => absurd z (by decide)⟩
    · exact ⟨pStr_ok (M := { M with Phy := M.Phy ++ L, x := y }) g (fun s hs => hin s ((by decide +kernel : ∀ s ∈ (["str"] : List Str), s ∈ bs) s hs)) (pa rfl) q ha, fun (z : prfK (P + 7) = true) => absurd z (by decide)⟩
    · exact ⟨pBool_ok (M := { M with Phy := M.Phy ++ L, x := y }) g (fun s hs => hin s ((by decide +kernel : ∀ s ∈ (["bool"] : List Str), s ∈ bs) s hs)) (pa rfl) q ha, fun (z : prfK (P + 8) = true) => absurd z (by decide)⟩
    · exact ⟨pRepr_ok (M := { M with Phy := M.Phy ++ L, x := y }) (by show M.gd = true; rw [o.gd]; exact gg) g (hin _ (by decide +kernel)) (pa rfl) q ha, fun (z : prfK (P + 9) = true) => absurd z (by decide)⟩
    · exact ⟨pGcd_ok (M := { M with Phy := M.Phy ++ L, x := y }) (g.fx.mx (Str.ofString "gcd", "math.gcd") (by show _ ∈ M.mx; rw [o.mx]; exact List.mem_cons_self)) (pa rfl) q ha, fun (z : prfK (P + 10) = true) => absurd z (by decide)⟩
    · have h1 := pSortG_ok (M := { M with Phy := M.Phy ++ L, x := y }) (p := P + 11) g (fun s hs => hin s ((by decide +kernel : ∀ s ∈ (["sorted"] : List Str), s ∈ bs) s hs)) (pa rfl) q ha
      exact ⟨pri_of h1, fun _ => h1⟩
    · have h1 := pSortD_ok (M := { M with Phy := M.Phy ++ L, x := y }) (p := P + 12) g (fun s hs => hin s ((by decide +kernel : ∀ s ∈ (["sorted"] : List Str), s ∈ bs) s hs)) (pa rfl) q ha
      exact ⟨pri_of h1, fun _ => h1⟩
    · have h1 := pDictC_ok (M := { M with Phy := M.Phy ++ L, x := y }) (p := P + 13) g (fun s hs => hin s ((by decide +kernel : ∀ s ∈ (["dict"] : List Str), s ∈ bs) s hs)) (pa rfl) q ha
      exact ⟨pri_of h1, fun _ => h1⟩
    · exact ⟨pMinl_ok (M := { M with Phy := M.Phy ++ L, x := y }) g (fun s hs => hin s ((by decide +kernel : ∀ s ∈ (["min"] : List Str), s ∈ bs) s hs)) (pa rfl) q ha, fun (z : prfK (P + 14) = true) => absurd z (by decide)⟩
    · obtain ⟨h1, h2⟩ := (hg gg).1
      refine ⟨kw0_ok (M := { M with Phy := M.Phy ++ L, x := y }) g ?_ rfl ?_ (pa rfl) q ha, fun (z : prfK (P + 15) = true) => absurd z (by decide)⟩
      · show ((M.Phy ++ L).take M.nf)[f_rate_at]? = _
        rw [o.Phy, o.nf, List.getElem?_take, if_pos h1, List.append_assoc, List.getElem?_append_left (by decide)]
        rfl
      · rw [g.fx.KG]
        exact h2
    · obtain ⟨h1, h2⟩ := (hg gg).2.1
      refine ⟨kw1_ok (M := { M with Phy := M.Phy ++ L, x := y }) g ?_ rfl ?_ (pa rfl) q ha, fun (z : prfK (P + 16) = true) => absurd z (by decide)⟩
      · show ((M.Phy ++ L).take M.nf)[f_come_by]? = _
        rw [o.Phy, o.nf, List.getElem?_take, if_pos h1, List.append_assoc, List.getElem?_append_left (by decide)]
        rfl
      · rw [g.fx.KG]
        exact h2
end LW
/-! k02_whole_comers: each def keeps its promise. Printed by gl.py. -/
namespace LW
open PySem PySem.Spec L2 Q
section
variable {P : Program} {w : World} {K : PySem.W.Frag} {mg : Str → Option Value} {base : Heap} {M : Pm} {f : Addr} {fd : FuncData} {x qual : Str}
theorem sc_is_list : FnScope N_is_list F_is_list.ps (defScope (top 6)) := ⟨rfl, rfl, rfl, by decide +kernel, rfl, by decide +kernel, by decide +kernel⟩
theorem b_is_list (Fu : FunD K x qual (defArgs (top 6)) (defBody (top 6)) (defScope (top 6)) [] [] f fd) : Binds K fd F_is_list.ps [] := Fu.bindsN fun _ _ _ _ _ _ us hl => match us, hl with | [_], _ => rfl
theorem ok_is_list (Fu : FunD K x qual (defArgs (top 6)) (defBody (top 6)) (defScope (top 6)) [] [] f fd) (fx : Q.Fx P w K mg base M) (o : PmOk M 0 0 0 false false false []) (nc : M.cal = false) : FnOk P w K mg base (L2.CX P w) (M.k + 1) f fd F_is_list.ps (spD M F_is_list) := by
  have h := def_ok Fu sc_is_list fx (fit_of (cal := false) o (fun z => nomatch z) (fun z => nomatch z)) nc o.lm o.gd ck_is_list (by rw [o.Phy]; exact does_is_list )
  rw [o.x] at h
  exact h
theorem sc_is_whole : FnScope N_is_whole F_is_whole.ps (defScope (top 7)) := ⟨rfl, rfl, rfl, by decide +kernel, rfl, by decide +kernel, by decide +kernel⟩
theorem b_is_whole (Fu : FunD K x qual (defArgs (top 7)) (defBody (top 7)) (defScope (top 7)) [] [] f fd) : Binds K fd F_is_whole.ps [] := Fu.bindsN fun _ _ _ _ _ _ us hl => match us, hl with | [_], _ => rfl
theorem ok_is_whole (Fu : FunD K x qual (defArgs (top 7)) (defBody (top 7)) (defScope (top 7)) [] [] f fd) (fx : Q.Fx P w K mg base M) (o : PmOk M 1 1 0 false false false []) (nc : M.cal = false) : FnOk P w K mg base (L2.CX P w) (M.k + 1) f fd F_is_whole.ps (spD M F_is_whole) := by
  have h := def_ok Fu sc_is_whole fx (fit_of (cal := false) o (fun z => nomatch z) (fun z => nomatch z)) nc o.lm o.gd ck_is_whole (by rw [o.Phy]; exact does_is_whole )
  rw [o.x] at h
  exact h
theorem sc_is_positive : FnScope N_is_positive F_is_positive.ps (defScope (top 8)) := ⟨rfl, rfl, rfl, by decide +kernel, rfl, by decide +kernel, by decide +kernel⟩
theorem b_is_positive (Fu : FunD K x qual (defArgs (top 8)) (defBody (top 8)) (defScope (top 8)) [] [] f fd) : Binds K fd F_is_positive.ps [] := Fu.bindsN fun _ _ _ _ _ _ us hl => match us, hl with | [_], _ => rfl
theorem ok_is_positive (Fu : FunD K x qual (defArgs (top 8)) (defBody (top 8)) (defScope (top 8)) [] [] f fd) (fx : Q.Fx P w K mg base M) (o : PmOk M 2 2 0 false false false []) (nc : M.cal = false) : FnOk P w K mg base (L2.CX P w) (M.k + 1) f fd F_is_positive.ps (spD M F_is_positive) := by
  have h := def_ok Fu sc_is_positive fx (fit_of (cal := false) o (fun z => nomatch z) (fun z => nomatch z)) nc o.lm o.gd ck_is_positive (by rw [o.Phy]; exact does_is_positive rfl)
  rw [o.x] at h
  exact h
theorem sc_lowest : FnScope N_lowest F_lowest.ps (defScope (top 9)) := ⟨rfl, rfl, rfl, by decide +kernel, rfl, by decide +kernel, by decide +kernel⟩
theorem b_lowest (Fu : FunD K x qual (defArgs (top 9)) (defBody (top 9)) (defScope (top 9)) [] [] f fd) : Binds K fd F_lowest.ps [] := Fu.bindsN fun _ _ _ _ _ _ us hl => match us, hl with | [_, _], _ => rfl
theorem ok_lowest (Fu : FunD K x qual (defArgs (top 9)) (defBody (top 9)) (defScope (top 9)) [] [] f fd) (fx : Q.Fx P w K mg base M) (o : PmOk M 3 3 0 false false false []) (nc : M.cal = false) : FnOk P w K mg base (L2.CX P w) (M.k + 1) f fd F_lowest.ps (spD M F_lowest) := by
  have h := def_ok Fu sc_lowest fx (fit_of (cal := false) o (fun z => nomatch z) (fun z => nomatch z)) nc o.lm o.gd ck_lowest (by rw [o.Phy]; exact does_lowest rfl)
  rw [o.x] at h
  exact h
theorem sc_is_fraction : FnScope N_is_fraction F_is_fraction.ps (defScope (top 10)) := ⟨rfl, rfl, rfl, by decide +kernel, rfl, by decide +kernel, by decide +kernel⟩
theorem b_is_fraction (Fu : FunD K x qual (defArgs (top 10)) (defBody (top 10)) (defScope (top 10)) [] [] f fd) : Binds K fd F_is_fraction.ps [] := Fu.bindsN fun _ _ _ _ _ _ us hl => match us, hl with | [_], _ => rfl
theorem ok_is_fraction (Fu : FunD K x qual (defArgs (top 10)) (defBody (top 10)) (defScope (top 10)) [] [] f fd) (fx : Q.Fx P w K mg base M) (o : PmOk M 4 4 0 false false false []) (nc : M.cal = false) : FnOk P w K mg base (L2.CX P w) (M.k + 1) f fd F_is_fraction.ps (spD M F_is_fraction) := by
  have h := def_ok Fu sc_is_fraction fx (fit_of (cal := false) o (fun z => nomatch z) (fun z => nomatch z)) nc o.lm o.gd ck_is_fraction (by rw [o.Phy]; exact does_is_fraction rfl rfl rfl)
  rw [o.x] at h
  exact h
theorem sc_is_heap : FnScope N_is_heap F_is_heap.ps (defScope (top 11)) := ⟨rfl, rfl, rfl, by decide +kernel, rfl, by decide +kernel, by decide +kernel⟩
theorem b_is_heap (Fu : FunD K x qual (defArgs (top 11)) (defBody (top 11)) (defScope (top 11)) [] [] f fd) : Binds K fd F_is_heap.ps [] := Fu.bindsN fun _ _ _ _ _ _ us hl => match us, hl with | [_], _ => rfl
theorem ok_is_heap (Fu : FunD K x qual (defArgs (top 11)) (defBody (top 11)) (defScope (top 11)) [] [] f fd) (fx : Q.Fx P w K mg base M) (o : PmOk M 5 5 0 false false false []) (nc : M.cal = false) : FnOk P w K mg base (L2.CX P w) (M.k + 1) f fd F_is_heap.ps (spD M F_is_heap) := by
  have h := def_ok Fu sc_is_heap fx (fit_of (cal := false) o (fun z => nomatch z) (fun z => nomatch z)) nc o.lm o.gd ck_is_heap (by rw [o.Phy]; exact does_is_heap rfl)
  rw [o.x] at h
  exact h
theorem sc_told : FnScope N_told F_told.ps (defScope (top 12)) := ⟨rfl, rfl, rfl, by decide +kernel, rfl, by decide +kernel, by decide +kernel⟩
theorem b_told (Fu : FunD K x qual (defArgs (top 12)) (defBody (top 12)) (defScope (top 12)) [] [] f fd) : Binds K fd F_told.ps [] := Fu.bindsN fun _ _ _ _ _ _ us hl => match us, hl with | [_], _ => rfl
theorem ok_told (Fu : FunD K x qual (defArgs (top 12)) (defBody (top 12)) (defScope (top 12)) [] [] f fd) (fx : Q.Fx P w K mg base M) (o : PmOk M 6 6 0 false false false []) (nc : M.cal = false) : FnOk P w K mg base (L2.CX P w) (M.k + 1) f fd F_told.ps (spD M F_told) := by
  have h := def_ok Fu sc_told fx (fit_of (cal := false) o (fun z => nomatch z) (fun z => nomatch z)) nc o.lm o.gd ck_told (by rw [o.Phy]; exact does_told rfl)
  rw [o.x] at h
  exact h
theorem sc_checked_moment : FnScope N_checked_moment F_checked_moment.ps (defScope (top 13)) := ⟨rfl, rfl, rfl, by decide +kernel, rfl, by decide +kernel, by decide +kernel⟩
theorem b_checked_moment (Fu : FunD K x qual (defArgs (top 13)) (defBody (top 13)) (defScope (top 13)) [] [] f fd) : Binds K fd F_checked_moment.ps [] := Fu.bindsN fun _ _ _ _ _ _ us hl => match us, hl with | [_], _ => rfl
theorem ok_checked_moment (Fu : FunD K x qual (defArgs (top 13)) (defBody (top 13)) (defScope (top 13)) [] [] f fd) (fx : Q.Fx P w K mg base M) (o : PmOk M 7 7 0 false false false []) (nc : M.cal = false) : FnOk P w K mg base (L2.CX P w) (M.k + 1) f fd F_checked_moment.ps (spD M F_checked_moment) := by
  have h := def_ok Fu sc_checked_moment fx (fit_of (cal := false) o (fun z => nomatch z) (fun z => nomatch z)) nc o.lm o.gd ck_checked_moment (by rw [o.Phy]; exact does_checked_moment rfl rfl)
  rw [o.x] at h
  exact h
theorem sc_plus : FnScope N_plus F_plus.ps (defScope (top 14)) := ⟨rfl, rfl, rfl, by decide +kernel, rfl, by decide +kernel, by decide +kernel⟩
theorem b_plus (Fu : FunD K x qual (defArgs (top 14)) (defBody (top 14)) (defScope (top 14)) [] [] f fd) : Binds K fd F_plus.ps [] := Fu.bindsN fun _ _ _ _ _ _ us hl => match us, hl with | [_, _], _ => rfl
theorem ok_plus (Fu : FunD K x qual (defArgs (top 14)) (defBody (top 14)) (defScope (top 14)) [] [] f fd) (fx : Q.Fx P w K mg base M) (o : PmOk M 8 8 0 false false false []) (nc : M.cal = false) : FnOk P w K mg base (L2.CX P w) (M.k + 1) f fd F_plus.ps (spD M F_plus) := by
  have h := def_ok Fu sc_plus fx (fit_of (cal := false) o (fun z => nomatch z) (fun z => nomatch z)) nc o.lm o.gd ck_plus (by rw [o.Phy]; exact does_plus rfl)
  rw [o.x] at h
  exact h
theorem sc_less : FnScope N_less F_less.ps (defScope (top 15)) := ⟨rfl, rfl, rfl, by decide +kernel, rfl, by decide +kernel, by decide +kernel⟩
theorem b_less (Fu : FunD K x qual (defArgs (top 15)) (defBody (top 15)) (defScope (top 15)) [] [] f fd) : Binds K fd F_less.ps [] := Fu.bindsN fun _ _ _ _ _ _ us hl => match us, hl with | [_, _], _ => rfl
theorem ok_less (Fu : FunD K x qual (defArgs (top 15)) (defBody (top 15)) (defScope (top 15)) [] [] f fd) (fx : Q.Fx P w K mg base M) (o : PmOk M 9 9 0 false false false []) (nc : M.cal = false) : FnOk P w K mg base (L2.CX P w) (M.k + 1) f fd F_less.ps (spD M F_less) := by
  have h := def_ok Fu sc_less fx (fit_of (cal := false) o (fun z => nomatch z) (fun z => nomatch z)) nc o.lm o.gd ck_less (by rw [o.Phy]; exact does_less rfl)
  rw [o.x] at h
  exact h
theorem sc_times : FnScope N_times F_times.ps (defScope (top 16)) := ⟨rfl, rfl, rfl, by decide +kernel, rfl, by decide +kernel, by decide +kernel⟩
theorem b_times (Fu : FunD K x qual (defArgs (top 16)) (defBody (top 16)) (defScope (top 16)) [] [] f fd) : Binds K fd F_times.ps [] := Fu.bindsN fun _ _ _ _ _ _ us hl => match us, hl with | [_, _], _ => rfl
theorem ok_times (Fu : FunD K x qual (defArgs (top 16)) (defBody (top 16)) (defScope (top 16)) [] [] f fd) (fx : Q.Fx P w K mg base M) (o : PmOk M 10 10 0 false false false []) (nc : M.cal = false) : FnOk P w K mg base (L2.CX P w) (M.k + 1) f fd F_times.ps (spD M F_times) := by
  have h := def_ok Fu sc_times fx (fit_of (cal := false) o (fun z => nomatch z) (fun z => nomatch z)) nc o.lm o.gd ck_times (by rw [o.Phy]; exact does_times rfl)
  rw [o.x] at h
  exact h
theorem sc_is_below : FnScope N_is_below F_is_below.ps (defScope (top 17)) := ⟨rfl, rfl, rfl, by decide +kernel, rfl, by decide +kernel, by decide +kernel⟩
theorem b_is_below (Fu : FunD K x qual (defArgs (top 17)) (defBody (top 17)) (defScope (top 17)) [] [] f fd) : Binds K fd F_is_below.ps [] := Fu.bindsN fun _ _ _ _ _ _ us hl => match us, hl with | [_, _], _ => rfl
theorem ok_is_below (Fu : FunD K x qual (defArgs (top 17)) (defBody (top 17)) (defScope (top 17)) [] [] f fd) (fx : Q.Fx P w K mg base M) (o : PmOk M 11 11 0 false false false []) (nc : M.cal = false) : FnOk P w K mg base (L2.CX P w) (M.k + 1) f fd F_is_below.ps (spD M F_is_below) := by
  have h := def_ok Fu sc_is_below fx (fit_of (cal := false) o (fun z => nomatch z) (fun z => nomatch z)) nc o.lm o.gd ck_is_below (by rw [o.Phy]; exact does_is_below )
  rw [o.x] at h
  exact h
theorem sc_is_comer : FnScope N_is_comer F_is_comer.ps (defScope (top 19)) := ⟨rfl, rfl, rfl, by decide +kernel, rfl, by decide +kernel, by decide +kernel⟩
theorem b_is_comer (Fu : FunD K x qual (defArgs (top 19)) (defBody (top 19)) (defScope (top 19)) [] [] f fd) : Binds K fd F_is_comer.ps [] := Fu.bindsN fun _ _ _ _ _ _ us hl => match us, hl with | [_], _ => rfl
theorem ok_is_comer (Fu : FunD K x qual (defArgs (top 19)) (defBody (top 19)) (defScope (top 19)) [] [] f fd) (fx : Q.Fx P w K mg base M) (o : PmOk M 12 12 0 false false false []) (nc : M.cal = false) : FnOk P w K mg base (L2.CX P w) (M.k + 1) f fd F_is_comer.ps (spD M F_is_comer) := by
  have h := def_ok Fu sc_is_comer fx (fit_of (cal := false) o (fun z => nomatch z) (fun z => nomatch z)) nc o.lm o.gd ck_is_comer (by rw [o.Phy]; exact does_is_comer rfl rfl)
  rw [o.x] at h
  exact h
theorem sc_bad_comers : FnScope N_bad_comers F_bad_comers.ps (defScope (top 20)) := ⟨rfl, rfl, rfl, by decide +kernel, rfl, by decide +kernel, by decide +kernel⟩
theorem b_bad_comers (Fu : FunD K x qual (defArgs (top 20)) (defBody (top 20)) (defScope (top 20)) [] [] f fd) : Binds K fd F_bad_comers.ps [] := Fu.bindsN fun _ _ _ _ _ _ us hl => match us, hl with | [_], _ => rfl
theorem ok_bad_comers (Fu : FunD K x qual (defArgs (top 20)) (defBody (top 20)) (defScope (top 20)) [] [] f fd) (fx : Q.Fx P w K mg base M) (o : PmOk M 13 13 0 false false false []) (nc : M.cal = false) : FnOk P w K mg base (L2.CX P w) (M.k + 1) f fd F_bad_comers.ps (spD M F_bad_comers) := by
  have h := def_ok Fu sc_bad_comers fx (fit_of (cal := false) o (fun z => nomatch z) (fun z => nomatch z)) nc o.lm o.gd ck_bad_comers (by rw [o.Phy]; exact does_bad_comers rfl rfl rfl)
  rw [o.x] at h
  exact h
theorem sc_checked_comers : FnScope N_checked_comers F_checked_comers.ps (defScope (top 21)) := ⟨rfl, rfl, rfl, by decide +kernel, rfl, by decide +kernel, by decide +kernel⟩
theorem b_checked_comers (Fu : FunD K x qual (defArgs (top 21)) (defBody (top 21)) (defScope (top 21)) [] [] f fd) : Binds K fd F_checked_comers.ps [] := Fu.bindsN fun _ _ _ _ _ _ us hl => match us, hl with | [_], _ => rfl
theorem ok_checked_comers (Fu : FunD K x qual (defArgs (top 21)) (defBody (top 21)) (defScope (top 21)) [] [] f fd) (fx : Q.Fx P w K mg base M) (o : PmOk M 14 14 0 false false false []) (nc : M.cal = false) : FnOk P w K mg base (L2.CX P w) (M.k + 1) f fd F_checked_comers.ps (spD M F_checked_comers) := by
  have h := def_ok Fu sc_checked_comers fx (fit_of (cal := false) o (fun z => nomatch z) (fun z => nomatch z)) nc o.lm o.gd ck_checked_comers (by rw [o.Phy]; exact does_checked_comers rfl rfl)
  rw [o.x] at h
  exact h
theorem sc_rate_from : FnScope N_rate_from F_rate_from.ps (defScope (top 22)) := ⟨rfl, rfl, rfl, by decide +kernel, rfl, by decide +kernel, by decide +kernel⟩
theorem b_rate_from (Fu : FunD K x qual (defArgs (top 22)) (defBody (top 22)) (defScope (top 22)) [] [] f fd) : Binds K fd F_rate_from.ps [] := Fu.bindsN fun _ _ _ _ _ _ us hl => match us, hl with | [_, _], _ => rfl
theorem ok_rate_from (Fu : FunD K x qual (defArgs (top 22)) (defBody (top 22)) (defScope (top 22)) [] [] f fd) (fx : Q.Fx P w K mg base M) (o : PmOk M 15 15 0 false false false []) (nc : M.cal = false) : FnOk P w K mg base (L2.CX P w) (M.k + 1) f fd F_rate_from.ps (spD M F_rate_from) := by
  have h := def_ok Fu sc_rate_from fx (fit_of (cal := false) o (fun z => nomatch z) (fun z => nomatch z)) nc o.lm o.gd ck_rate_from (by rw [o.Phy]; exact does_rate_from rfl)
  rw [o.x] at h
  exact h
theorem sc_heap_by : FnScope N_heap_by F_heap_by.ps (defScope (top 23)) := ⟨rfl, rfl, rfl, by decide +kernel, rfl, by decide +kernel, by decide +kernel⟩
theorem b_heap_by (Fu : FunD K x qual (defArgs (top 23)) (defBody (top 23)) (defScope (top 23)) [] [] f fd) : Binds K fd F_heap_by.ps [] := Fu.bindsN fun _ _ _ _ _ _ us hl => match us, hl with | [_, _], _ => rfl
theorem ok_heap_by (Fu : FunD K x qual (defArgs (top 23)) (defBody (top 23)) (defScope (top 23)) [] [] f fd) (fx : Q.Fx P w K mg base M) (o : PmOk M 16 16 0 false false false []) (nc : M.cal = false) : FnOk P w K mg base (L2.CX P w) (M.k + 1) f fd F_heap_by.ps (spD M F_heap_by) := by
  have h := def_ok Fu sc_heap_by fx (fit_of (cal := false) o (fun z => nomatch z) (fun z => nomatch z)) nc o.lm o.gd ck_heap_by (by rw [o.Phy]; exact does_heap_by rfl rfl rfl rfl)
  rw [o.x] at h
  exact h
theorem sc_rate_at : FnScope N_rate_at F_rate_at.ps (defScope (top 24)) := ⟨rfl, rfl, rfl, by decide +kernel, rfl, by decide +kernel, by decide +kernel⟩
theorem b_rate_at (Fu : FunD K x qual (defArgs (top 24)) (defBody (top 24)) (defScope (top 24)) [] [] f fd) : Binds K fd F_rate_at.ps [] := Fu.bindsN fun _ _ _ _ _ _ us hl => match us, hl with | [_, _], _ => rfl
theorem ok_rate_at (Fu : FunD K x qual (defArgs (top 24)) (defBody (top 24)) (defScope (top 24)) [] [] f fd) (fx : Q.Fx P w K mg base M) (o : PmOk M 17 17 0 false false false []) (nc : M.cal = false) : FnOk P w K mg base (L2.CX P w) (M.k + 1) f fd F_rate_at.ps (spD M F_rate_at) := by
  have h := def_ok Fu sc_rate_at fx (fit_of (cal := false) o (fun z => nomatch z) (fun z => nomatch z)) nc o.lm o.gd ck_rate_at (by rw [o.Phy]; exact does_rate_at rfl rfl rfl)
  rw [o.x] at h
  exact h
theorem sc_come_by : FnScope N_come_by F_come_by.ps (defScope (top 25)) := ⟨rfl, rfl, rfl, by decide +kernel, rfl, by decide +kernel, by decide +kernel⟩
theorem b_come_by (Fu : FunD K x qual (defArgs (top 25)) (defBody (top 25)) (defScope (top 25)) [] [] f fd) : Binds K fd F_come_by.ps [] := Fu.bindsN fun _ _ _ _ _ _ us hl => match us, hl with | [_, _], _ => rfl
theorem ok_come_by (Fu : FunD K x qual (defArgs (top 25)) (defBody (top 25)) (defScope (top 25)) [] [] f fd) (fx : Q.Fx P w K mg base M) (o : PmOk M 18 18 0 false false false []) (nc : M.cal = false) : FnOk P w K mg base (L2.CX P w) (M.k + 1) f fd F_come_by.ps (spD M F_come_by) := by
  have h := def_ok Fu sc_come_by fx (fit_of (cal := false) o (fun z => nomatch z) (fun z => nomatch z)) nc o.lm o.gd ck_come_by (by rw [o.Phy]; exact does_come_by rfl rfl rfl)
  rw [o.x] at h
  exact h
theorem sc_law_draw : FnScope N_draw F_draw.ps (defScope (top 28)) := ⟨rfl, rfl, rfl, by decide +kernel, rfl, by decide +kernel, by decide +kernel⟩
theorem b_law_draw (Fu : FunD K x qual (defArgs (top 28)) (defBody (top 28)) (defScope (top 28)) [] [] f fd) : Binds K fd F_draw.ps [] := Fu.bindsN fun _ _ _ _ _ _ us hl => match us, hl with | [_, _], _ => rfl
theorem ok_law_draw (Fu : FunD K x qual (defArgs (top 28)) (defBody (top 28)) (defScope (top 28)) [] [] f fd) (fx : Q.Fx P w K mg base M) (o : PmOk M 19 19 0 false false false []) (nc : M.cal = false) : FnOk P w K mg base (L2.CX P w) (M.k + 1) f fd F_draw.ps (spD M F_draw) := by
  have h := draw_ok Fu sc_law_draw fx nc o.lm o.gd (by rw [o.bs]; decide +kernel) (by rw [o.bs]; decide +kernel)
  rw [o.x] at h
  exact h
theorem sc_law_pick : FnScope N_law_pick F_pick.ps (defScope (top 29)) := ⟨rfl, rfl, rfl, by decide +kernel, rfl, by decide +kernel, by decide +kernel⟩
theorem b_law_pick (Fu : FunD K x qual (defArgs (top 29)) (defBody (top 29)) (defScope (top 29)) [] [] f fd) : Binds K fd F_pick.ps [] := Fu.bindsN fun _ _ _ _ _ _ us hl => match us, hl with | [_, _], _ => rfl
theorem ok_law_pick (Fu : FunD K x qual (defArgs (top 29)) (defBody (top 29)) (defScope (top 29)) [] [] f fd) (fx : Q.Fx P w K mg base M) (o : PmOk M 20 20 0 false false false []) (nc : M.cal = false) : FnOk P w K mg base (L2.CX P w) (M.k + 1) f fd F_pick.ps (spD M F_pick) := by
  have h := def_ok Fu sc_law_pick fx (fit_of (cal := false) o (fun z => nomatch z) (fun z => nomatch z)) nc o.lm o.gd ck_law_pick (by rw [o.Phy]; exact does_pick rfl)
  rw [o.x] at h
  exact h
theorem sc_law_same0 : FnScope N_law_same0 (F_same 0).ps (defScope (top 30)) := ⟨rfl, rfl, rfl, by decide +kernel, rfl, by decide +kernel, by decide +kernel⟩
theorem b_law_same0 (Fu : FunD K x qual (defArgs (top 30)) (defBody (top 30)) (defScope (top 30)) [] [] f fd) : Binds K fd (F_same 0).ps [] := Fu.bindsN fun _ _ _ _ _ _ us hl => match us, hl with | [_, _], _ => rfl
theorem ok_law_same0 (Fu : FunD K x qual (defArgs (top 30)) (defBody (top 30)) (defScope (top 30)) [] [] f fd) (fx : Q.Fx P w K mg base M) (o : PmOk M 21 21 0 false false false []) (nc : M.cal = false) : FnOk P w K mg base (L2.CX P w) (M.k + 1) f fd (F_same 0).ps (spD M (F_same 0)) := by
  have h := def_ok Fu sc_law_same0 fx (fit_of (cal := false) o (fun z => nomatch z) (fun z => nomatch z)) nc o.lm o.gd ck_law_same0 (by rw [o.Phy]; exact does_same0 )
  rw [o.x] at h
  exact h
theorem sc_law_same1 : FnScope N_law_same1 (F_same 1).ps (defScope (top 30)) := ⟨rfl, rfl, rfl, by decide +kernel, rfl, by decide +kernel, by decide +kernel⟩
theorem b_law_same1 (Fu : FunD K x qual (defArgs (top 30)) (defBody (top 30)) (defScope (top 30)) [] [] f fd) : Binds K fd (F_same 1).ps [] := Fu.bindsN fun _ _ _ _ _ _ us hl => match us, hl with | [_, _], _ => rfl
theorem ok_law_same1 (Fu : FunD K x qual (defArgs (top 30)) (defBody (top 30)) (defScope (top 30)) [] [] f fd) (fx : Q.Fx P w K mg base M) (o : PmOk M 22 22 0 false false false []) (nc : M.cal = false) : FnOk P w K mg base (L2.CX P w) (M.k + 1) f fd (F_same 1).ps (spD M (F_same 1)) := by
  have h := def_ok Fu sc_law_same1 fx (fit_of (cal := false) o (fun z => nomatch z) (fun z => nomatch z)) nc o.lm o.gd ck_law_same1 (by rw [o.Phy]; exact does_same1 rfl rfl)
  rw [o.x] at h
  exact h
theorem sc_law_same2 : FnScope N_law_same2 (F_same 2).ps (defScope (top 30)) := ⟨rfl, rfl, rfl, by decide +kernel, rfl, by decide +kernel, by decide +kernel⟩
theorem b_law_same2 (Fu : FunD K x qual (defArgs (top 30)) (defBody (top 30)) (defScope (top 30)) [] [] f fd) : Binds K fd (F_same 2).ps [] := Fu.bindsN fun _ _ _ _ _ _ us hl => match us, hl with | [_, _], _ => rfl
theorem ok_law_same2 (Fu : FunD K x qual (defArgs (top 30)) (defBody (top 30)) (defScope (top 30)) [] [] f fd) (fx : Q.Fx P w K mg base M) (o : PmOk M 23 23 0 false false false []) (nc : M.cal = false) : FnOk P w K mg base (L2.CX P w) (M.k + 1) f fd (F_same 2).ps (spD M (F_same 2)) := by
  have h := def_ok Fu sc_law_same2 fx (fit_of (cal := false) o (fun z => nomatch z) (fun z => nomatch z)) nc o.lm o.gd ck_law_same2 (by rw [o.Phy]; exact does_same2 rfl rfl)
  rw [o.x] at h
  exact h
theorem sc_law_same3 : FnScope N_law_same3 (F_same 3).ps (defScope (top 30)) := ⟨rfl, rfl, rfl, by decide +kernel, rfl, by decide +kernel, by decide +kernel⟩
theorem b_law_same3 (Fu : FunD K x qual (defArgs (top 30)) (defBody (top 30)) (defScope (top 30)) [] [] f fd) : Binds K fd (F_same 3).ps [] := Fu.bindsN fun _ _ _ _ _ _ us hl => match us, hl with | [_, _], _ => rfl
theorem ok_law_same3 (Fu : FunD K x qual (defArgs (top 30)) (defBody (top 30)) (defScope (top 30)) [] [] f fd) (fx : Q.Fx P w K mg base M) (o : PmOk M 24 24 0 false false false []) (nc : M.cal = false) : FnOk P w K mg base (L2.CX P w) (M.k + 1) f fd (F_same 3).ps (spD M (F_same 3)) := by
  have h := def_ok Fu sc_law_same3 fx (fit_of (cal := false) o (fun z => nomatch z) (fun z => nomatch z)) nc o.lm o.gd ck_law_same3 (by rw [o.Phy]; exact does_same3 rfl rfl)
  rw [o.x] at h
  exact h
theorem sc_law_same4 : FnScope N_law_same4 (F_same 4).ps (defScope (top 30)) := ⟨rfl, rfl, rfl, by decide +kernel, rfl, by decide +kernel, by decide +kernel⟩
theorem b_law_same4 (Fu : FunD K x qual (defArgs (top 30)) (defBody (top 30)) (defScope (top 30)) [] [] f fd) : Binds K fd (F_same 4).ps [] := Fu.bindsN fun _ _ _ _ _ _ us hl => match us, hl with | [_, _], _ => rfl
theorem ok_law_same4 (Fu : FunD K x qual (defArgs (top 30)) (defBody (top 30)) (defScope (top 30)) [] [] f fd) (fx : Q.Fx P w K mg base M) (o : PmOk M 25 25 0 false false false []) (nc : M.cal = false) : FnOk P w K mg base (L2.CX P w) (M.k + 1) f fd (F_same 4).ps (spD M (F_same 4)) := by
  have h := def_ok Fu sc_law_same4 fx (fit_of (cal := false) o (fun z => nomatch z) (fun z => nomatch z)) nc o.lm o.gd ck_law_same4 (by rw [o.Phy]; exact does_same4 rfl rfl)
  rw [o.x] at h
  exact h
theorem sc_law_loose0 : FnScope N_law_loose0 (F_loose 0).ps (defScope (top 31)) := ⟨rfl, rfl, rfl, by decide +kernel, rfl, by decide +kernel, by decide +kernel⟩
theorem b_law_loose0 (Fu : FunD K x qual (defArgs (top 31)) (defBody (top 31)) (defScope (top 31)) [] [] f fd) : Binds K fd (F_loose 0).ps [] := Fu.bindsN fun _ _ _ _ _ _ us hl => match us, hl with | [_, _], _ => rfl
theorem ok_law_loose0 (Fu : FunD K x qual (defArgs (top 31)) (defBody (top 31)) (defScope (top 31)) [] [] f fd) (fx : Q.Fx P w K mg base M) (o : PmOk M 26 26 0 false false false []) (nc : M.cal = false) : FnOk P w K mg base (L2.CX P w) (M.k + 1) f fd (F_loose 0).ps (spD M (F_loose 0)) := by
  have h := def_ok Fu sc_law_loose0 fx (fit_of (cal := false) o (fun z => nomatch z) (fun z => nomatch z)) nc o.lm o.gd ck_law_loose0 (by rw [o.Phy]; exact does_loose0 )
  rw [o.x] at h
  exact h
theorem sc_law_loose1 : FnScope N_law_loose1 (F_loose 1).ps (defScope (top 31)) := ⟨rfl, rfl, rfl, by decide +kernel, rfl, by decide +kernel, by decide +kernel⟩
theorem b_law_loose1 (Fu : FunD K x qual (defArgs (top 31)) (defBody (top 31)) (defScope (top 31)) [] [] f fd) : Binds K fd (F_loose 1).ps [] := Fu.bindsN fun _ _ _ _ _ _ us hl => match us, hl with | [_, _], _ => rfl
theorem ok_law_loose1 (Fu : FunD K x qual (defArgs (top 31)) (defBody (top 31)) (defScope (top 31)) [] [] f fd) (fx : Q.Fx P w K mg base M) (o : PmOk M 27 27 0 false false false []) (nc : M.cal = false) : FnOk P w K mg base (L2.CX P w) (M.k + 1) f fd (F_loose 1).ps (spD M (F_loose 1)) := by
  have h := def_ok Fu sc_law_loose1 fx (fit_of (cal := false) o (fun z => nomatch z) (fun z => nomatch z)) nc o.lm o.gd ck_law_loose1 (by rw [o.Phy]; exact does_loose1 rfl rfl)
  rw [o.x] at h
  exact h
theorem sc_law_loose2 : FnScope N_law_loose2 (F_loose 2).ps (defScope (top 31)) := ⟨rfl, rfl, rfl, by decide +kernel, rfl, by decide +kernel, by decide +kernel⟩
theorem b_law_loose2 (Fu : FunD K x qual (defArgs (top 31)) (defBody (top 31)) (defScope (top 31)) [] [] f fd) : Binds K fd (F_loose 2).ps [] := Fu.bindsN fun _ _ _ _ _ _ us hl => match us, hl with | [_, _], _ => rfl
theorem ok_law_loose2 (Fu : FunD K x qual (defArgs (top 31)) (defBody (top 31)) (defScope (top 31)) [] [] f fd) (fx : Q.Fx P w K mg base M) (o : PmOk M 28 28 0 false false false []) (nc : M.cal = false) : FnOk P w K mg base (L2.CX P w) (M.k + 1) f fd (F_loose 2).ps (spD M (F_loose 2)) := by
  have h := def_ok Fu sc_law_loose2 fx (fit_of (cal := false) o (fun z => nomatch z) (fun z => nomatch z)) nc o.lm o.gd ck_law_loose2 (by rw [o.Phy]; exact does_loose2 rfl rfl)
  rw [o.x] at h
  exact h
theorem sc_law_loose3 : FnScope N_law_loose3 (F_loose 3).ps (defScope (top 31)) := ⟨rfl, rfl, rfl, by decide +kernel, rfl, by decide +kernel, by decide +kernel⟩
theorem b_law_loose3 (Fu : FunD K x qual (defArgs (top 31)) (defBody (top 31)) (defScope (top 31)) [] [] f fd) : Binds K fd (F_loose 3).ps [] := Fu.bindsN fun _ _ _ _ _ _ us hl => match us, hl with | [_, _], _ => rfl
theorem ok_law_loose3 (Fu : FunD K x qual (defArgs (top 31)) (defBody (top 31)) (defScope (top 31)) [] [] f fd) (fx : Q.Fx P w K mg base M) (o : PmOk M 29 29 0 false false false []) (nc : M.cal = false) : FnOk P w K mg base (L2.CX P w) (M.k + 1) f fd (F_loose 3).ps (spD M (F_loose 3)) := by
  have h := def_ok Fu sc_law_loose3 fx (fit_of (cal := false) o (fun z => nomatch z) (fun z => nomatch z)) nc o.lm o.gd ck_law_loose3 (by rw [o.Phy]; exact does_loose3 rfl rfl)
  rw [o.x] at h
  exact h
theorem sc_law_common : FnScope N_law_common F_common.ps (defScope (top 32)) := ⟨rfl, rfl, rfl, by decide +kernel, rfl, by decide +kernel, by decide +kernel⟩
theorem b_law_common (Fu : FunD K x qual (defArgs (top 32)) (defBody (top 32)) (defScope (top 32)) [] [] f fd) : Binds K fd F_common.ps [] := Fu.bindsN fun _ _ _ _ _ _ us hl => match us, hl with | [_, _], _ => rfl
theorem ok_law_common (Fu : FunD K x qual (defArgs (top 32)) (defBody (top 32)) (defScope (top 32)) [] [] f fd) (fx : Q.Fx P w K mg base M) (o : PmOk M 30 30 0 false false false []) (nc : M.cal = false) : FnOk P w K mg base (L2.CX P w) (M.k + 1) f fd F_common.ps (spD M F_common) := by
  have h := def_ok Fu sc_law_common fx (fit_of (cal := false) o (fun z => nomatch z) (fun z => nomatch z)) nc o.lm o.gd ck_law_common (by rw [o.Phy]; exact does_common )
  rw [o.x] at h
  exact h
theorem sc_law_low : FnScope N_law_low F_low.ps (defScope (top 33)) := ⟨rfl, rfl, rfl, by decide +kernel, rfl, by decide +kernel, by decide +kernel⟩
theorem b_law_low (Fu : FunD K x qual (defArgs (top 33)) (defBody (top 33)) (defScope (top 33)) [] [] f fd) : Binds K fd F_low.ps [] := Fu.bindsN fun _ _ _ _ _ _ us hl => match us, hl with | [_, _], _ => rfl
theorem ok_law_low (Fu : FunD K x qual (defArgs (top 33)) (defBody (top 33)) (defScope (top 33)) [] [] f fd) (fx : Q.Fx P w K mg base M) (o : PmOk M 31 31 0 false false false []) (nc : M.cal = false) : FnOk P w K mg base (L2.CX P w) (M.k + 1) f fd F_low.ps (spD M F_low) := by
  have h := def_ok Fu sc_law_low fx (fit_of (cal := false) o (fun z => nomatch z) (fun z => nomatch z)) nc o.lm o.gd ck_law_low (by rw [o.Phy]; exact does_low rfl)
  rw [o.x] at h
  exact h
theorem sc_law_plus : FnScope N_law_plus F_lplus.ps (defScope (top 34)) := ⟨rfl, rfl, rfl, by decide +kernel, rfl, by decide +kernel, by decide +kernel⟩
theorem b_law_plus (Fu : FunD K x qual (defArgs (top 34)) (defBody (top 34)) (defScope (top 34)) [] [] f fd) : Binds K fd F_lplus.ps [] := Fu.bindsN fun _ _ _ _ _ _ us hl => match us, hl with | [_, _], _ => rfl
theorem ok_law_plus (Fu : FunD K x qual (defArgs (top 34)) (defBody (top 34)) (defScope (top 34)) [] [] f fd) (fx : Q.Fx P w K mg base M) (o : PmOk M 32 32 0 false false false []) (nc : M.cal = false) : FnOk P w K mg base (L2.CX P w) (M.k + 1) f fd F_lplus.ps (spD M F_lplus) := by
  have h := def_ok Fu sc_law_plus fx (fit_of (cal := false) o (fun z => nomatch z) (fun z => nomatch z)) nc o.lm o.gd ck_law_plus (by rw [o.Phy]; exact does_lplus rfl)
  rw [o.x] at h
  exact h
theorem sc_law_less : FnScope N_law_less F_lless.ps (defScope (top 35)) := ⟨rfl, rfl, rfl, by decide +kernel, rfl, by decide +kernel, by decide +kernel⟩
theorem b_law_less (Fu : FunD K x qual (defArgs (top 35)) (defBody (top 35)) (defScope (top 35)) [] [] f fd) : Binds K fd F_lless.ps [] := Fu.bindsN fun _ _ _ _ _ _ us hl => match us, hl with | [_, _], _ => rfl
theorem ok_law_less (Fu : FunD K x qual (defArgs (top 35)) (defBody (top 35)) (defScope (top 35)) [] [] f fd) (fx : Q.Fx P w K mg base M) (o : PmOk M 33 33 0 false false false []) (nc : M.cal = false) : FnOk P w K mg base (L2.CX P w) (M.k + 1) f fd F_lless.ps (spD M F_lless) := by
  have h := def_ok Fu sc_law_less fx (fit_of (cal := false) o (fun z => nomatch z) (fun z => nomatch z)) nc o.lm o.gd ck_law_less (by rw [o.Phy]; exact does_lless rfl)
  rw [o.x] at h
  exact h
theorem sc_law_times : FnScope N_law_times F_ltimes.ps (defScope (top 36)) := ⟨rfl, rfl, rfl, by decide +kernel, rfl, by decide +kernel, by decide +kernel⟩
theorem b_law_times (Fu : FunD K x qual (defArgs (top 36)) (defBody (top 36)) (defScope (top 36)) [] [] f fd) : Binds K fd F_ltimes.ps [] := Fu.bindsN fun _ _ _ _ _ _ us hl => match us, hl with | [_, _], _ => rfl
theorem ok_law_times (Fu : FunD K x qual (defArgs (top 36)) (defBody (top 36)) (defScope (top 36)) [] [] f fd) (fx : Q.Fx P w K mg base M) (o : PmOk M 34 34 0 false false false []) (nc : M.cal = false) : FnOk P w K mg base (L2.CX P w) (M.k + 1) f fd F_ltimes.ps (spD M F_ltimes) := by
  have h := def_ok Fu sc_law_times fx (fit_of (cal := false) o (fun z => nomatch z) (fun z => nomatch z)) nc o.lm o.gd ck_law_times (by rw [o.Phy]; exact does_ltimes rfl)
  rw [o.x] at h
  exact h
theorem sc_law_is_below : FnScope N_law_is_below F_lbelow.ps (defScope (top 37)) := ⟨rfl, rfl, rfl, by decide +kernel, rfl, by decide +kernel, by decide +kernel⟩
theorem b_law_is_below (Fu : FunD K x qual (defArgs (top 37)) (defBody (top 37)) (defScope (top 37)) [] [] f fd) : Binds K fd F_lbelow.ps [] := Fu.bindsN fun _ _ _ _ _ _ us hl => match us, hl with | [_, _], _ => rfl
theorem ok_law_is_below (Fu : FunD K x qual (defArgs (top 37)) (defBody (top 37)) (defScope (top 37)) [] [] f fd) (fx : Q.Fx P w K mg base M) (o : PmOk M 35 35 0 false false false []) (nc : M.cal = false) : FnOk P w K mg base (L2.CX P w) (M.k + 1) f fd F_lbelow.ps (spD M F_lbelow) := by
  have h := def_ok Fu sc_law_is_below fx (fit_of (cal := false) o (fun z => nomatch z) (fun z => nomatch z)) nc o.lm o.gd ck_law_is_below (by rw [o.Phy]; exact does_lbelow )
  rw [o.x] at h
  exact h
theorem sc_law_least : FnScope N_law_least F_lleastR.ps (defScope (top 38)) := ⟨rfl, rfl, rfl, by decide +kernel, rfl, by decide +kernel, by decide +kernel⟩
theorem b_law_least (Fu : FunD K x qual (defArgs (top 38)) (defBody (top 38)) (defScope (top 38)) [] [] f fd) : Binds K fd F_lleastR.ps [] := Fu.bindsN fun _ _ _ _ _ _ us hl => match us, hl with | [_], _ => rfl
theorem ok_law_least (Fu : FunD K x qual (defArgs (top 38)) (defBody (top 38)) (defScope (top 38)) [] [] f fd) (fx : Q.Fx P w K mg base M) (o : PmOk M 36 36 0 false false false []) (nc : M.cal = false) : FnOk P w K mg base (L2.CX P w) (M.k + 1) f fd F_lleastR.ps (spD M F_lleastR) := by
  have h := def_ok Fu sc_law_least fx (fit_of (cal := false) o (fun z => nomatch z) (fun z => nomatch z)) nc o.lm o.gd ck_law_least (by rw [o.Phy]; exact does_lleastR rfl)
  rw [o.x] at h
  exact h
theorem sc_law_total : FnScope N_law_total F_ltotal.ps (defScope (top 39)) := ⟨rfl, rfl, rfl, by decide +kernel, rfl, by decide +kernel, by decide +kernel⟩
theorem b_law_total (Fu : FunD K x qual (defArgs (top 39)) (defBody (top 39)) (defScope (top 39)) [] [] f fd) : Binds K fd F_ltotal.ps [] := Fu.bindsN fun _ _ _ _ _ _ us hl => match us, hl with | [_], _ => rfl
theorem ok_law_total (Fu : FunD K x qual (defArgs (top 39)) (defBody (top 39)) (defScope (top 39)) [] [] f fd) (fx : Q.Fx P w K mg base M) (o : PmOk M 37 37 0 false false false []) (nc : M.cal = false) : FnOk P w K mg base (L2.CX P w) (M.k + 1) f fd F_ltotal.ps (spD M F_ltotal) := by
  have h := def_ok Fu sc_law_total fx (fit_of (cal := false) o (fun z => nomatch z) (fun z => nomatch z)) nc o.lm o.gd ck_law_total (by rw [o.Phy]; exact does_ltotal rfl)
  rw [o.x] at h
  exact h
theorem sc_law_raw : FnScope N_law_raw F_raw.ps (defScope (top 40)) := ⟨rfl, rfl, rfl, by decide +kernel, rfl, by decide +kernel, by decide +kernel⟩
theorem b_law_raw (Fu : FunD K x qual (defArgs (top 40)) (defBody (top 40)) (defScope (top 40)) [] [] f fd) : Binds K fd F_raw.ps [] := Fu.bindsN fun _ _ _ _ _ _ us hl => match us, hl with | [_, _], _ => rfl
theorem ok_law_raw (Fu : FunD K x qual (defArgs (top 40)) (defBody (top 40)) (defScope (top 40)) [] [] f fd) (fx : Q.Fx P w K mg base M) (o : PmOk M 38 38 0 false false false []) (nc : M.cal = false) : FnOk P w K mg base (L2.CX P w) (M.k + 1) f fd F_raw.ps (spD M F_raw) := by
  have h := def_ok Fu sc_law_raw fx (fit_of (cal := false) o (fun z => nomatch z) (fun z => nomatch z)) nc o.lm o.gd ck_law_raw (by rw [o.Phy]; exact does_raw rfl rfl)
  rw [o.x] at h
  exact h
theorem sc_law_raw_comers : FnScope N_law_raw_comers F_raw_comers.ps (defScope (top 41)) := ⟨rfl, rfl, rfl, by decide +kernel, rfl, by decide +kernel, by decide +kernel⟩
theorem b_law_raw_comers (Fu : FunD K x qual (defArgs (top 41)) (defBody (top 41)) (defScope (top 41)) [] [] f fd) : Binds K fd F_raw_comers.ps [] := Fu.bindsN fun _ _ _ _ _ _ us hl => match us, hl with | [_, _], _ => rfl
theorem ok_law_raw_comers (Fu : FunD K x qual (defArgs (top 41)) (defBody (top 41)) (defScope (top 41)) [] [] f fd) (fx : Q.Fx P w K mg base M) (o : PmOk M 39 39 0 false false false []) (nc : M.cal = false) : FnOk P w K mg base (L2.CX P w) (M.k + 1) f fd F_raw_comers.ps (spD M F_raw_comers) := by
  have h := def_ok Fu sc_law_raw_comers fx (fit_of (cal := false) o (fun z => nomatch z) (fun z => nomatch z)) nc o.lm o.gd ck_law_raw_comers (by rw [o.Phy]; exact does_raw_comers rfl rfl)
  rw [o.x] at h
  exact h
theorem sc_law_comers : FnScope N_law_comers F_lcomers.ps (defScope (top 42)) := ⟨rfl, rfl, rfl, by decide +kernel, rfl, by decide +kernel, by decide +kernel⟩
theorem b_law_comers (Fu : FunD K x qual (defArgs (top 42)) (defBody (top 42)) (defScope (top 42)) [] [] f fd) : Binds K fd F_lcomers.ps [] := Fu.bindsN fun _ _ _ _ _ _ us hl => match us, hl with | [_, _], _ => rfl
theorem ok_law_comers (Fu : FunD K x qual (defArgs (top 42)) (defBody (top 42)) (defScope (top 42)) [] [] f fd) (fx : Q.Fx P w K mg base M) (o : PmOk M 40 40 0 false false false []) (nc : M.cal = false) : FnOk P w K mg base (L2.CX P w) (M.k + 1) f fd F_lcomers.ps (spD M F_lcomers) := by
  have h := def_ok Fu sc_law_comers fx (fit_of (cal := false) o (fun z => nomatch z) (fun z => nomatch z)) nc o.lm o.gd ck_law_comers (by rw [o.Phy]; exact does_lcomers rfl rfl rfl rfl)
  rw [o.x] at h
  exact h
theorem sc_law_rate_at : FnScope N_law_rate_at F_lrate_at.ps (defScope (top 43)) := ⟨rfl, rfl, rfl, by decide +kernel, rfl, by decide +kernel, by decide +kernel⟩
theorem b_law_rate_at (Fu : FunD K x qual (defArgs (top 43)) (defBody (top 43)) (defScope (top 43)) [] [] f fd) : Binds K fd F_lrate_at.ps [] := Fu.bindsN fun _ _ _ _ _ _ us hl => match us, hl with | [_, _], _ => rfl
theorem ok_law_rate_at (Fu : FunD K x qual (defArgs (top 43)) (defBody (top 43)) (defScope (top 43)) [] [] f fd) (fx : Q.Fx P w K mg base M) (o : PmOk M 41 41 0 false false false []) (nc : M.cal = false) : FnOk P w K mg base (L2.CX P w) (M.k + 1) f fd F_lrate_at.ps (spD M F_lrate_at) := by
  have h := def_ok Fu sc_law_rate_at fx (fit_of (cal := false) o (fun z => nomatch z) (fun z => nomatch z)) nc o.lm o.gd ck_law_rate_at (by rw [o.Phy]; exact does_lrate_at rfl)
  rw [o.x] at h
  exact h
theorem sc_law_tried : FnScope N_law_tried F_tried.ps (defScope (top 44)) := ⟨rfl, rfl, rfl, by decide +kernel, rfl, by decide +kernel, by decide +kernel⟩
theorem b_law_tried (Fu : FunD K x qual (defArgs (top 44)) (defBody (top 44)) (defScope (top 44)) [] [] f fd) : Binds K fd F_tried.ps [] := Fu.bindsN fun _ _ _ _ _ _ us hl => match us, hl with | [_], _ => rfl
theorem sc_law_come : FnScope N_law_come F_lcome.ps (defScope (top 45)) := ⟨rfl, rfl, rfl, by decide +kernel, rfl, by decide +kernel, by decide +kernel⟩
theorem b_law_come (Fu : FunD K x qual (defArgs (top 45)) (defBody (top 45)) (defScope (top 45)) [] [] f fd) : Binds K fd F_lcome.ps [] := Fu.bindsN fun _ _ _ _ _ _ us hl => match us, hl with | [_, _], _ => rfl
theorem ok_law_come (Fu : FunD K x qual (defArgs (top 45)) (defBody (top 45)) (defScope (top 45)) [] [] f fd) (fx : Q.Fx P w K mg base M) (o : PmOk M 43 43 0 false false false []) (nc : M.cal = false) : FnOk P w K mg base (L2.CX P w) (M.k + 1) f fd F_lcome.ps (spD M F_lcome) := by
  have h := def_ok Fu sc_law_come fx (fit_of (cal := false) o (fun z => nomatch z) (fun z => nomatch z)) nc o.lm o.gd ck_law_come (by rw [o.Phy]; exact does_lcome rfl rfl rfl rfl rfl)
  rw [o.x] at h
  exact h
theorem sc_law_split : FnScope N_law_split F_lsplit.ps (defScope (top 46)) := ⟨rfl, rfl, rfl, by decide +kernel, rfl, by decide +kernel, by decide +kernel⟩
theorem b_law_split (Fu : FunD K x qual (defArgs (top 46)) (defBody (top 46)) (defScope (top 46)) [] [] f fd) : Binds K fd F_lsplit.ps [] := Fu.bindsN fun _ _ _ _ _ _ us hl => match us, hl with | [_, _], _ => rfl
theorem ok_law_split (Fu : FunD K x qual (defArgs (top 46)) (defBody (top 46)) (defScope (top 46)) [] [] f fd) (fx : Q.Fx P w K mg base M) (o : PmOk M 44 44 0 false false false []) (nc : M.cal = false) : FnOk P w K mg base (L2.CX P w) (M.k + 1) f fd F_lsplit.ps (spD M F_lsplit) := by
  have h := def_ok Fu sc_law_split fx (fit_of (cal := false) o (fun z => nomatch z) (fun z => nomatch z)) nc o.lm o.gd ck_law_split (by rw [o.Phy]; exact does_lsplit rfl rfl rfl)
  rw [o.x] at h
  exact h
theorem sc_law_odds : FnScope N_law_odds F_lodds.ps (defScope (top 47)) := ⟨rfl, rfl, rfl, by decide +kernel, rfl, by decide +kernel, by decide +kernel⟩
theorem b_law_odds (Fu : FunD K x qual (defArgs (top 47)) (defBody (top 47)) (defScope (top 47)) [] [] f fd) : Binds K fd F_lodds.ps [] := Fu.bindsN fun _ _ _ _ _ _ us hl => match us, hl with | [_, _], _ => rfl
theorem ok_law_odds (Fu : FunD K x qual (defArgs (top 47)) (defBody (top 47)) (defScope (top 47)) [] [] f fd) (fx : Q.Fx P w K mg base M) (o : PmOk M 45 45 0 false false false []) (nc : M.cal = false) : FnOk P w K mg base (L2.CX P w) (M.k + 1) f fd F_lodds.ps (spD M F_lodds) := by
  have h := def_ok Fu sc_law_odds fx (fit_of (cal := false) o (fun z => nomatch z) (fun z => nomatch z)) nc o.lm o.gd ck_law_odds (by rw [o.Phy]; exact does_lodds rfl)
  rw [o.x] at h
  exact h
end
end LW
/-! k02_whole_comers: the defs that call what they are given. Printed by gl.py. -/
namespace LW
open PySem PySem.Spec L2 Q
section
variable {P : Program} {w : World} {K : PySem.W.Frag} {mg : Str → Option Value} {base : Heap} {M : Pm} {f : Addr} {fd : FuncData} {x qual : Str}
theorem fx_lam (fx : Q.Fx P w K mg base M) (hn : M.nf ≤ M.Phy.length) (hp : M.np ≤ M.Phy.length) (key : Q.Key) (L : DSp) : Q.Fx P w K mg base (M.lam key L) := by
  have t1 : (M.lam key L).Phy.take M.nf = M.Phy.take M.nf := List.take_append_of_le_length hn
  have t2 : (M.lam key L).Phy.take M.np = M.Phy.take M.np := List.take_append_of_le_length hp
  refine ⟨fx.KG, fx.bs, fun g F h => fx.fns g F (by rw [← t1]; exact h), fx.cls, fx.cnm, fx.exm, fx.xcn, fx.exc, fun g F h1 h2 => fx.hof g F h1 (by rw [← t2]; exact h2), fx.few, fun c g F h1 h2 h3 => fx.ini c g F h1 h2 (by rw [← t2]; exact h3), fun c m g F h1 h2 h3 => fx.mth c m g F h1 h2 (by rw [← t2]; exact h3), fx.mx, fun g F h => fx.fty g F (by rw [← t1]; exact h)⟩
theorem ok_law_tried {dV kV doc pm cdv ct oc : Value} {an od : Option Addr} {osl : Array (Option Value)} (hm : mg F_tried.name = some (.ref f)) (kp : PySem.W.keepIn K (.ref f) = true)
    (lk : K.lookup f = some ⟨oc, od, .func (PySem.W.fnOf x qual (defArgs (top 44)) (defBody (top 44)) (defScope (top 44)) dV kV doc pm an cdv ct), osl⟩) (hcd : PySem.W.codeIn K cdv qual = true)
    (hb : L2.Binds K (PySem.W.fnOf x qual (defArgs (top 44)) (defBody (top 44)) (defScope (top 44)) dV kV doc pm an cdv ct) F_tried.ps []) (fx : Q.Fx P w K mg base M) (o : PmOk M 42 42 0 false false false []) (hc : M.cal = true) : HofOk P w K mg base M.G M.k f F_tried := by
  have hl : M.Phy.length = 63 := by rw [o.Phy]; rfl
  have h := hof_ok (M := M) (N := N_law_tried) (cf := cf 42 42 0 true false false false) (s := s_law_tried) hm kp lk hcd sc_law_tried hb (fun F hF => ?_) o.lm o.gd (fun key L => fx_lam fx (by rw [o.nf, hl]; decide) (by rw [o.np, hl]; decide) key L) (fun key L => ?_) ck_law_tried (by rw [o.Phy]; exact does_tried)
  · rw [o.x] at h
    exact h
  · rw [o.Phy] at hF
    have h0 : (PHI ++ []).all (fun F => F.key.isNone) = true := rfl
    exact Option.isNone_iff_eq_none.mp (List.all_eq_true.mp h0 F hF)
  · have o' : PmOk (M.lam key L) 42 42 0 false false false [lamFn key L] := ⟨by show M.Phy ++ [lamFn key L] = _; rw [o.Phy, List.append_nil], o.bs, o.nf, o.np, o.hi, o.hj, o.cl, o.nm, o.cn, o.lm, o.gd, o.x, o.hf, o.ini, o.mth, o.xc, o.fr, o.mx⟩
    exact fit_of (cal := true) o' (fun _ => hc) (fun z => nomatch z)
end
end LW
/-! k02_whole_comers: the chain of the defs. Printed by gl.py. -/
namespace LW
open PySem PySem.Spec L2 Q
/-- the defs as they stand, entry by entry -/
def stms0 : List (Str × Stmt) := [("is_list", top 6), ("is_whole", top 7), ("is_positive", top 8), ("lowest", top 9), ("is_fraction", top 10), ("is_heap", top 11), ("told", top 12), ("checked_moment", top 13), ("plus", top 14), ("less", top 15), ("times", top 16), ("is_below", top 17), ("is_comer", top 19), ("bad_comers", top 20), ("checked_comers", top 21), ("rate_from", top 22), ("heap_by", top 23), ("rate_at", top 24), ("come_by", top 25), ("_law_draw", top 28), ("_law_pick", top 29), ("_law_same", top 30), ("_law_same", top 30), ("_law_same", top 30), ("_law_same", top 30), ("_law_same", top 30), ("_law_loose", top 31), ("_law_loose", top 31), ("_law_loose", top 31), ("_law_loose", top 31)]
def stms1 : List (Str × Stmt) := [("_law_common", top 32), ("_law_low", top 33), ("_law_plus", top 34), ("_law_less", top 35), ("_law_times", top 36), ("_law_is_below", top 37), ("_law_least", top 38), ("_law_total", top 39), ("_law_raw", top 40), ("_law_raw_comers", top 41), ("_law_comers", top 42), ("_law_rate_at", top 43), ("_law_tried", top 44), ("_law_come", top 45), ("_law_split", top 46), ("_law_odds", top 47)]
def stms : List (Str × Stmt) := stms0 ++ stms1
def np_ (i : Nat) : Nat := i
def kk (i : Nat) : Nat := i + 4
def frE (i : Nat) : Bool := ([] : List Nat).contains i
/-- the parameters of the i-th def -/
def Mi (G : Gb) (fd : Nat → FuncData) (i : Nat) : Pm := { G := G, Phy := PHI ++ [], k := kk i, bs := bs, fd := fd, nf := i, np := np_ i, cal := false, lm := false, gd := false, x := 0, hf := hofs, ini := fun _ => none, mth := fun _ _ => none, fr := frE i, mx := mx }
structure GOk (G : Gb) : Prop where
  cl : G.cl = []
  nm : G.nm = nm
  cn : G.cn = cn
  xc : G.xc = [1, 2]
theorem mi_ok {G : Gb} {fd : Nat → FuncData} (g : GOk G) {i : Nat} (hi : i ≤ 46) : PmOk (Mi G fd i) i (np_ i) 0 false false (frE i) [] := ⟨rfl, rfl, rfl, rfl, Nat.le_refl _, hi, g.cl, g.nm, g.cn, rfl, rfl, rfl, rfl, rfl, rfl, g.xc, rfl, rfl⟩
section
variable {P : Program} {w : World} {K : PySem.W.Frag} {mg : Str → Option Value} {base : Heap} {G : Gb} {fd : Nat → FuncData}
/-- a def's next -/
theorem step (g : GOk G) (hf : ∀ (i : Nat) (q : Str × Stmt), stms[i]? = some q → FunD K q.1 q.1 (defArgs q.2) (defBody q.2) (defScope q.2) [] [] (G.gam i) (fd i)) : ∀ i, i < 46 → Q.Fx P w K mg base (Mi G fd i) → ∀ F, ents[i]? = some F → FnOk P w K mg base (L2.CX P w) (kk i + 1) (G.gam i) (fd i) F.ps (spD (Mi G fd i) F)
  | 0, _, fx, F, e => by
    cases e
    exact ok_is_list (hf 0 _ rfl) fx (mi_ok g (by decide)) rfl
  | 1, _, fx, F, e => by
    cases e
    exact ok_is_whole (hf 1 _ rfl) fx (mi_ok g (by decide)) rfl
  | 2, _, fx, F, e => by
    cases e
    exact ok_is_positive (hf 2 _ rfl) fx (mi_ok g (by decide)) rfl
  | 3, _, fx, F, e => by
    cases e
    exact ok_lowest (hf 3 _ rfl) fx (mi_ok g (by decide)) rfl
  | 4, _, fx, F, e => by
    cases e
    exact ok_is_fraction (hf 4 _ rfl) fx (mi_ok g (by decide)) rfl
  | 5, _, fx, F, e => by
    cases e
    exact ok_is_heap (hf 5 _ rfl) fx (mi_ok g (by decide)) rfl
  | 6, _, fx, F, e => by
    cases e
    exact ok_told (hf 6 _ rfl) fx (mi_ok g (by decide)) rfl
  | 7, _, fx, F, e => by
    cases e
    exact ok_checked_moment (hf 7 _ rfl) fx (mi_ok g (by decide)) rfl
  | 8, _, fx, F, e => by
    cases e
    exact ok_plus (hf 8 _ rfl) fx (mi_ok g (by decide)) rfl
  | 9, _, fx, F, e => by
    cases e
    exact ok_less (hf 9 _ rfl) fx (mi_ok g (by decide)) rfl
  | 10, _, fx, F, e => by
    cases e
    exact ok_times (hf 10 _ rfl) fx (mi_ok g (by decide)) rfl
  | 11, _, fx, F, e => by
    cases e
    exact ok_is_below (hf 11 _ rfl) fx (mi_ok g (by decide)) rfl
  | 12, _, fx, F, e => by
    cases e
    exact ok_is_comer (hf 12 _ rfl) fx (mi_ok g (by decide)) rfl
  | 13, _, fx, F, e => by
    cases e
    exact ok_bad_comers (hf 13 _ rfl) fx (mi_ok g (by decide)) rfl
  | 14, _, fx, F, e => by
    cases e
    exact ok_checked_comers (hf 14 _ rfl) fx (mi_ok g (by decide)) rfl
  | 15, _, fx, F, e => by
    cases e
    exact ok_rate_from (hf 15 _ rfl) fx (mi_ok g (by decide)) rfl
  | 16, _, fx, F, e => by
    cases e
    exact ok_heap_by (hf 16 _ rfl) fx (mi_ok g (by decide)) rfl
  | 17, _, fx, F, e => by
    cases e
    exact ok_rate_at (hf 17 _ rfl) fx (mi_ok g (by decide)) rfl
  | 18, _, fx, F, e => by
    cases e
    exact ok_come_by (hf 18 _ rfl) fx (mi_ok g (by decide)) rfl
  | 19, _, fx, F, e => by
    cases e
    exact ok_law_draw (hf 19 _ rfl) fx (mi_ok g (by decide)) rfl
  | 20, _, fx, F, e => by
    cases e
    exact ok_law_pick (hf 20 _ rfl) fx (mi_ok g (by decide)) rfl
  | 21, _, fx, F, e => by
    cases e
    exact ok_law_same0 (hf 21 _ rfl) fx (mi_ok g (by decide)) rfl
  | 22, _, fx, F, e => by
    cases e
    exact ok_law_same1 (hf 22 _ rfl) fx (mi_ok g (by decide)) rfl
  | 23, _, fx, F, e => by
    cases e
    exact ok_law_same2 (hf 23 _ rfl) fx (mi_ok g (by decide)) rfl
  | 24, _, fx, F, e => by
    cases e
    exact ok_law_same3 (hf 24 _ rfl) fx (mi_ok g (by decide)) rfl
  | 25, _, fx, F, e => by
    cases e
    exact ok_law_same4 (hf 25 _ rfl) fx (mi_ok g (by decide)) rfl
  | 26, _, fx, F, e => by
    cases e
    exact ok_law_loose0 (hf 26 _ rfl) fx (mi_ok g (by decide)) rfl
  | 27, _, fx, F, e => by
    cases e
    exact ok_law_loose1 (hf 27 _ rfl) fx (mi_ok g (by decide)) rfl
  | 28, _, fx, F, e => by
    cases e
    exact ok_law_loose2 (hf 28 _ rfl) fx (mi_ok g (by decide)) rfl
  | 29, _, fx, F, e => by
    cases e
    exact ok_law_loose3 (hf 29 _ rfl) fx (mi_ok g (by decide)) rfl
  | 30, _, fx, F, e => by
    cases e
    exact ok_law_common (hf 30 _ rfl) fx (mi_ok g (by decide)) rfl
  | 31, _, fx, F, e => by
    cases e
    exact ok_law_low (hf 31 _ rfl) fx (mi_ok g (by decide)) rfl
  | 32, _, fx, F, e => by
    cases e
    exact ok_law_plus (hf 32 _ rfl) fx (mi_ok g (by decide)) rfl
  | 33, _, fx, F, e => by
    cases e
    exact ok_law_less (hf 33 _ rfl) fx (mi_ok g (by decide)) rfl
  | 34, _, fx, F, e => by
    cases e
    exact ok_law_times (hf 34 _ rfl) fx (mi_ok g (by decide)) rfl
  | 35, _, fx, F, e => by
    cases e
    exact ok_law_is_below (hf 35 _ rfl) fx (mi_ok g (by decide)) rfl
  | 36, _, fx, F, e => by
    cases e
    exact ok_law_least (hf 36 _ rfl) fx (mi_ok g (by decide)) rfl
  | 37, _, fx, F, e => by
    cases e
    exact ok_law_total (hf 37 _ rfl) fx (mi_ok g (by decide)) rfl
  | 38, _, fx, F, e => by
    cases e
    exact ok_law_raw (hf 38 _ rfl) fx (mi_ok g (by decide)) rfl
  | 39, _, fx, F, e => by
    cases e
    exact ok_law_raw_comers (hf 39 _ rfl) fx (mi_ok g (by decide)) rfl
  | 40, _, fx, F, e => by
    cases e
    exact ok_law_comers (hf 40 _ rfl) fx (mi_ok g (by decide)) rfl
  | 41, _, fx, F, e => by
    cases e
    exact ok_law_rate_at (hf 41 _ rfl) fx (mi_ok g (by decide)) rfl
  | 42, _, _, F, e => by
    cases e
    exact ⟨fun vs H Q E h => h.1, fun A outer s H args us vs Q E hr he hb hv h => by
      obtain ⟨_, _, _, _, _, _, _, _, _, _, _, _, z, _⟩ := h
      exact z.elim⟩
  | 43, _, fx, F, e => by
    cases e
    exact ok_law_come (hf 43 _ rfl) fx (mi_ok g (by decide)) rfl
  | 44, _, fx, F, e => by
    cases e
    exact ok_law_split (hf 44 _ rfl) fx (mi_ok g (by decide)) rfl
  | 45, _, fx, F, e => by
    cases e
    exact ok_law_odds (hf 45 _ rfl) fx (mi_ok g (by decide)) rfl
  | i + 46, h, _, _, _ => by omega
theorem binds_of (hf : ∀ (i : Nat) (q : Str × Stmt), stms[i]? = some q → FunD K q.1 q.1 (defArgs q.2) (defBody q.2) (defScope q.2) [] [] (G.gam i) (fd i)) : ∀ i, i < 46 → ∀ F, ents[i]? = some F → Binds K (fd i) F.ps []
  | 0, _, F, e => by
    cases e
    exact b_is_list (hf 0 _ rfl)
  | 1, _, F, e => by
    cases e
    exact b_is_whole (hf 1 _ rfl)
  | 2, _, F, e => by
    cases e
    exact b_is_positive (hf 2 _ rfl)
  | 3, _, F, e => by
    cases e
    exact b_lowest (hf 3 _ rfl)
  | 4, _, F, e => by
    cases e
    exact b_is_fraction (hf 4 _ rfl)
  | 5, _, F, e => by
    cases e
    exact b_is_heap (hf 5 _ rfl)
  | 6, _, F, e => by
    cases e
    exact b_told (hf 6 _ rfl)
  | 7, _, F, e => by
    cases e
    exact b_checked_moment (hf 7 _ rfl)
  | 8, _, F, e => by
    cases e
    exact b_plus (hf 8 _ rfl)
  | 9, _, F, e => by
    cases e
    exact b_less (hf 9 _ rfl)
  | 10, _, F, e => by
    cases e
    exact b_times (hf 10 _ rfl)
  | 11, _, F, e => by
    cases e
    exact b_is_below (hf 11 _ rfl)
  | 12, _, F, e => by
    cases e
    exact b_is_comer (hf 12 _ rfl)
  | 13, _, F, e => by
    cases e
    exact b_bad_comers (hf 13 _ rfl)
  | 14, _, F, e => by
    cases e
    exact b_checked_comers (hf 14 _ rfl)
  | 15, _, F, e => by
    cases e
    exact b_rate_from (hf 15 _ rfl)
  | 16, _, F, e => by
    cases e
    exact b_heap_by (hf 16 _ rfl)
  | 17, _, F, e => by
    cases e
    exact b_rate_at (hf 17 _ rfl)
  | 18, _, F, e => by
    cases e
    exact b_come_by (hf 18 _ rfl)
  | 19, _, F, e => by
    cases e
    exact b_law_draw (hf 19 _ rfl)
  | 20, _, F, e => by
    cases e
    exact b_law_pick (hf 20 _ rfl)
  | 21, _, F, e => by
    cases e
    exact b_law_same0 (hf 21 _ rfl)
  | 22, _, F, e => by
    cases e
    exact b_law_same1 (hf 22 _ rfl)
  | 23, _, F, e => by
    cases e
    exact b_law_same2 (hf 23 _ rfl)
  | 24, _, F, e => by
    cases e
    exact b_law_same3 (hf 24 _ rfl)
  | 25, _, F, e => by
    cases e
    exact b_law_same4 (hf 25 _ rfl)
  | 26, _, F, e => by
    cases e
    exact b_law_loose0 (hf 26 _ rfl)
  | 27, _, F, e => by
    cases e
    exact b_law_loose1 (hf 27 _ rfl)
  | 28, _, F, e => by
    cases e
    exact b_law_loose2 (hf 28 _ rfl)
  | 29, _, F, e => by
    cases e
    exact b_law_loose3 (hf 29 _ rfl)
  | 30, _, F, e => by
    cases e
    exact b_law_common (hf 30 _ rfl)
  | 31, _, F, e => by
    cases e
    exact b_law_low (hf 31 _ rfl)
  | 32, _, F, e => by
    cases e
    exact b_law_plus (hf 32 _ rfl)
  | 33, _, F, e => by
    cases e
    exact b_law_less (hf 33 _ rfl)
  | 34, _, F, e => by
    cases e
    exact b_law_times (hf 34 _ rfl)
  | 35, _, F, e => by
    cases e
    exact b_law_is_below (hf 35 _ rfl)
  | 36, _, F, e => by
    cases e
    exact b_law_least (hf 36 _ rfl)
  | 37, _, F, e => by
    cases e
    exact b_law_total (hf 37 _ rfl)
  | 38, _, F, e => by
    cases e
    exact b_law_raw (hf 38 _ rfl)
  | 39, _, F, e => by
    cases e
    exact b_law_raw_comers (hf 39 _ rfl)
  | 40, _, F, e => by
    cases e
    exact b_law_comers (hf 40 _ rfl)
  | 41, _, F, e => by
    cases e
    exact b_law_rate_at (hf 41 _ rfl)
  | 42, _, F, e => by
    cases e
    exact b_law_tried (hf 42 _ rfl)
  | 43, _, F, e => by
    cases e
    exact b_law_come (hf 43 _ rfl)
  | 44, _, F, e => by
    cases e
    exact b_law_split (hf 44 _ rfl)
  | 45, _, F, e => by
    cases e
    exact b_law_odds (hf 45 _ rfl)
  | i + 46, h, _, _ => by omega
theorem hof_step (g : GOk G) (hf : ∀ (i : Nat) (q : Str × Stmt), stms[i]? = some q → FunD K q.1 q.1 (defArgs q.2) (defBody q.2) (defScope q.2) [] [] (G.gam i) (fd i)) (hg : ∀ (i : Nat) (F : Fn), i < 46 → ents[i]? = some F → mg F.name = some (.ref (G.gam i))) : ∀ i F, hofs i = true → ents[i]? = some F → Q.Fx P w K mg base { Mi G fd i with cal := true } → HofOk P w K mg base G (kk i) (G.gam i) F := by
  intro i F hh e fx
  have hh : i = 42 := by simpa [hofs] using hh
  subst hh
  · cases e
    have hb := hf 42 _ rfl
    have hB := b_law_tried hb
    have kp := hb.kp
    obtain ⟨oc, od, dV, kV, doc, pm, an, cdv, ct, osl, e, lk, hcd, _, _⟩ := hb.ex
    rw [e] at lk hB
    exact ok_law_tried (hg 42 F_tried (by decide) rfl) kp lk hcd hB fx ⟨rfl, rfl, rfl, rfl, by decide, by decide, g.cl, g.nm, g.cn, rfl, rfl, rfl, rfl, rfl, rfl, g.xc, rfl, rfl⟩ rfl
end
end LW
/-! k02_whole_comers: what the top has left is enough for every def. Printed by gl.py. -/
namespace LW
open PySem PySem.Spec L2 Q
section
variable {P : Program} {w : World} {K : PySem.W.Frag} {mg : Str → Option Value} {base : Heap} {G : Gb} {fd : Nat → FuncData}
/-- what the top has left -/
structure Tp (P : Program) (w : World) (K : PySem.W.Frag) (mg : Str → Option Value) (base : Heap) (G : Gb) (fd : Nat → FuncData) : Prop where
  KG : K = G.K
  g : GOk G
  bs : ∀ s ∈ bs, mg s = none
  fn : ∀ (i : Nat) (q : Str × Stmt), stms[i]? = some q → FunD K q.1 q.1 (defArgs q.2) (defBody q.2) (defScope q.2) [] [] (G.gam i) (fd i)
  glo : ∀ (i : Nat) (F : Fn), i < 46 → ents[i]? = some F → mg F.name = some (.ref (G.gam i))
  exm : ∀ c ∈ G.xc, ∀ c' ∈ G.xc, PySem.W.exmOne K (.ref (G.kap c)) (.ref (G.kap c')) = some (decide (c = c'))
  xcn : ∀ c ∈ G.xc, mg (G.cn c) = some (.ref (G.kap c)) ∧ XfC K (G.kap c) ∧ (∀ f ∈ G.nm c, PySem.W.findIn K (.ref (G.kap c)) f = some none) ∧ (G.nm c).Nodup
  exc : ∀ c ∈ G.xc, ∀ f, G.nm c = [f] → XcF P w K mg base 4 (G.kap c) (G.cn c) f
  mx : ∀ q ∈ mx, mg q.1 = some (.builtin q.2)
  fty : ∀ i, i < 46 → PySem.W.typeIn K (.ref (G.gam i)) = some (.type "function")
theorem xcF_mono {k j : Nat} {C : Addr} {cn f : Str} (h : XcF P w K mg base k C cn f) (hk : k ≤ j) : XcF P w K mg base j C cn f := by
  obtain ⟨a, b, g, fd, par, i, c1, c2, c3, c4, c5⟩ := h
  exact ⟨a, b, g, fd, par, i, c1, c2, Nat.le_trans c3 hk, c4, c5⟩
/-- all but what hangs on the place in the chain -/
theorem fx_mk (T : Tp P w K mg base G fd) {M : Pm} (hG : M.G = G) (hb : M.bs = bs) (hPhy : M.Phy = PHI ++ []) (hfd : M.fd = fd) (hn : M.nf ≤ 46) (hnp : M.np ≤ 46) (hk : 4 ≤ M.k) (hh : M.hf = hofs) (hi : M.ini = fun _ => none) (hm : M.mth = fun _ _ => none) (hmx : M.mx = mx)
    (fns : ∀ g F, g < M.nf → ents[g]? = some F → FnOk P w K mg base (L2.CX P w) M.k (G.gam g) (fd g) F.ps (spD M F))
    (hof : ∀ h F, hofs h = true → h < M.np → ents[h]? = some F → ∃ j, j + 1 ≤ M.k ∧ HofOk P w K mg base G j (G.gam h) F) : Q.Fx P w K mg base M := by
  have at1 : ∀ {g n : Nat} {F : Fn}, n ≤ 46 → (M.Phy.take n)[g]? = some F → g < n ∧ ents[g]? = some F := fun {g n F} h31 h => by
    rw [hPhy, List.getElem?_take] at h
    split at h
    · rename_i hg
      refine ⟨hg, ?_⟩
      unfold PHI at h
      rw [List.append_assoc, List.getElem?_append_left (show g < ents.length from Nat.lt_of_lt_of_le hg h31)] at h
      exact h
    · cases h
  subst hG
  have nocl : ∀ c, c ∉ M.G.cl := fun c hc => by rw [T.g.cl] at hc; cases hc
  refine ⟨T.KG, fun s hs => T.bs s (by rw [← hb]; exact hs), fun g F h => ?_, fun c hc => absurd hc (nocl c), fun c hc => absurd hc (nocl c), T.exm, T.xcn, fun c hc f h => xcF_mono (T.exc c hc f h) hk, fun g F hg h => ?_, fun c hc => absurd hc (nocl c), fun c g F hc => absurd hc (nocl c), fun c m g F hc => absurd hc (nocl c), fun q hq => T.mx q (by rw [← hmx]; exact hq), fun g F h => T.fty g (Nat.lt_of_lt_of_le (at1 hn h).1 hn)⟩
  · obtain ⟨h1, h2⟩ := at1 hn h
    have h30 : g < 46 := Nat.lt_of_lt_of_le h1 hn
    have hs : ∃ q, stms[g]? = some q := ⟨stms[g]'(show g < stms.length from h30), List.getElem?_eq_getElem (show g < stms.length from h30)⟩
    obtain ⟨q, hq⟩ := hs
    rw [hfd]
    exact ⟨fns g F h1 h2, T.glo g F h30 h2, (T.fn g q hq).kp, binds_of T.fn g h30 F h2⟩
  · rw [hh] at hg
    obtain ⟨h1, h2⟩ := at1 hnp h
    exact hof g F hg h1 h2
/-- every def of the claim keeps its promise -/
theorem chain2 (T : Tp P w K mg base G fd) : ∀ i, i ≤ 46 → Q.Fx P w K mg base (Mi G fd i) ∧ ∀ F, hofs i = true → ents[i]? = some F → HofOk P w K mg base G (kk i) (G.gam i) F := by
  intro i
  induction i using Nat.strongRecOn with
  | _ i ih =>
    intro hi
    have k4 : 4 ≤ kk i := by unfold kk; omega
    have f : ∀ g F, g < i → ents[g]? = some F → FnOk P w K mg base (L2.CX P w) (kk i) (G.gam g) (fd g) F.ps (spD (Mi G fd i) F) := fun g F hg h =>
      (step T.g T.fn g (by omega) (ih g hg (by omega)).1 F h).mono (by show kk g + 1 ≤ kk i; unfold kk; omega)
    have hf : ∀ h F, hofs h = true → h < i → ents[h]? = some F → ∃ j, j + 1 ≤ kk i ∧ HofOk P w K mg base G j (G.gam h) F := fun h F e hg eF => ⟨kk h, by unfold kk; omega, (ih h hg (by omega)).2 F e eF⟩
    refine ⟨fx_mk T rfl rfl rfl rfl hi hi k4 rfl rfl rfl rfl f hf, fun F e eF => ?_⟩
    have fx : Q.Fx P w K mg base { Mi G fd i with cal := true } := fx_mk T rfl rfl rfl rfl hi hi k4 rfl rfl rfl rfl f hf
    exact hof_step T.g T.fn T.glo i F e eF fx
theorem chain (T : Tp P w K mg base G fd) : ∀ i, i ≤ 46 → Q.Fx P w K mg base (Mi G fd i) := fun i hi => (chain2 T i hi).1
end
end LW
/-! k02_whole_comers: _law_stream, by hand. Printed by gl.py. -/
namespace LW
open PySem PySem.Spec L2 Q
def N_stream : List Str := ["_law_script"]
theorem sc_stream : FnScope N_stream N_stream (defScope (top 27)) := ⟨rfl, rfl, rfl, by decide +kernel, rfl, by decide +kernel, by decide +kernel⟩
/-- what _law_stream makes: two new lists -/
def spStream (K : PySem.W.Frag) : Sp := fun vs H Q _ => ∃ (a : Addr) (ns : List Int), vs = [.ref a] ∧ SqL K H a (ns.map V.int) ∧ ns.length ≤ sizeLine ∧ ∀ inn st, H inn = none → upd H inn (.lst (ns.map V.int)) st = none →
  Q (.ref st) (upd (upd H inn (.lst (ns.map V.int))) st (.lst [.ref inn, .int 0, .int 0, .int 17]))
section
variable {P : Program} {w : World} {K : PySem.W.Frag} {mg : Str → Option Value} {base : Heap} {f : Addr} {fd : FuncData} {x qual : Str}
theorem ok_stream (Fu : FunD K x qual (defArgs (top 27)) (defBody (top 27)) (defScope (top 27)) [] [] f fd) (hl : mg "list" = none) : FnOk P w K mg base (L2.CX P w) 1 f fd N_stream (spStream K) := by
  refine Fu.ok sc_stream (fun vs H Q E ⟨_, _, e, _⟩ => by rw [e]; rfl) fun cdv A outer s0 H vs Q E hr ⟨a, ns, e, hs, hz, q⟩ => ?_
  refine ⟨_, pss_one (ps_ret (pe_lst (pa_cons (pe_callTy call_list_of rfl hl (by decide +kernel) (pa_cons (pe_var (i := 0) rfl (.inl rfl)) pa_nil)) (pa_cons pe_int (pa_cons pe_int (pa_cons pe_int pa_nil)))))), ?_⟩
  subst e
  exact ⟨_, rfl, a, _, rfl, .inl hs, fun inn hi => ⟨by show 4 ≤ sizeLine; rw [sizeLine_eq]; omega, fun st hst => q inn st hi hst⟩⟩
/-- the law's parameters -/
def Ml (G : Gb) (fd : Nat → FuncData) : Pm := { Mi G fd 46 with gd := true, lm := true, x := 2 }
theorem ml_ok {G : Gb} {fd : Nat → FuncData} (g : GOk G) : PmOk (Ml G fd) 46 46 2 true true false [] := ⟨rfl, rfl, rfl, rfl, by decide, by decide, g.cl, g.nm, g.cn, rfl, rfl, rfl, rfl, rfl, rfl, g.xc, rfl, rfl⟩
theorem fx_law {G : Gb} {fd : Nat → FuncData} (h : Q.Fx P w K mg base (Mi G fd 46)) : Q.Fx P w K mg base (Ml G fd) := ⟨h.KG, h.bs, h.fns, h.cls, h.cnm, h.exm, h.xcn, h.exc, h.hof, h.few, h.ini, h.mth, h.mx, h.fty⟩
end
end LW
/-! k02_whole_comers: the law's own body. Printed by gl.py. -/
namespace LW
open PySem PySem.Spec L2 Q
abbrev Gs (G : Gb) (st inn : Addr) : Gb := { G with st := st, inn := inn }
section
variable {c : Cx} {Wx : WX} {G : Gb} {fd : Nat → FuncData} {fS : Addr} {fdS : FuncData}
def t_law (K : PySem.W.Frag) (G : Gb) (fd : Nat → FuncData) (Wx : WX) : TS := tSeq (tAsg (tCall (spStream K) [] E0 (tCons (tVar 0) tNil)) (gName 1)) fun D σ H => ∃ st inn, rdS (Ml (Gs G st inn) fd) Wx s_law D σ H
theorem law_ps (gg : GOk G) (n : c.N = N_law) (hs : c.env.scope = defScope (top 48)) (gs : ∀ st inn, GoodS c (Ml (Gs G st inn) fd) Wx) (hB : KwOk (Ml G fd) 46)
    (F : FnOk c.prog c.w c.K c.mg c.base (L2.CX c.prog c.w) 1 fS fdS N_stream (spStream c.K)) (hr : Room 1 c.A) (hm : c.mg "_law_stream" = some (.ref fS)) (hk : PySem.W.keepIn c.K (.ref fS) = true) (hb : Binds c.K fdS N_stream []) : PSs c (defBody (top 48)) (t_law c.K G fd Wx) := by
  have rest : ∀ st inn, PSs c ((defBody (top 48)).drop 1) (rdS (Ml (Gs G st inn) fd) Wx s_law) := fun st inn =>
    ckSs_ok (fit_of (cal := false) (ml_ok (G := Gs G st inn) ⟨gg.cl, gg.nm, gg.cn, gg.xc⟩) (fun z => nomatch z) fun _ => hB) s_law c Wx (gs st inn) n _ (by rw [hs]; exact ck_law)
  have ex : PSs c ((defBody (top 48)).drop 1) (fun D σ H => ∃ st inn, rdS (Ml (Gs G st inn) fd) Wx s_law D σ H) := ⟨fun pins s σ H D I ⟨st, inn, h⟩ => (rest st inn).run pins s σ H D I h⟩
  have sto : StoB c (defScope (top 48)) := by rw [← hs]; exact (gs 0 0).sto
  have v0 : ∀ {p : Pos}, PE c (.Name "_law_script" p) (tVar 0) := fun {p} => nm_pe n (by rw [hs]; decide +kernel)
  have g1 : ∀ {p : Pos}, PG c (.Name "_law_stream_here" p) (gName 1) := fun {p} => pg_name (gs 0 0).nd (by rw [n]; rfl) (sto "_law_stream_here" (by first | exact .inl (by decide +kernel) | exact .inr (by decide +kernel))).1 (sto "_law_stream_here" (by first | exact .inl (by decide +kernel) | exact .inr (by decide +kernel))).2
  exact pss_cons (ps_asg (pe_call F hr (gl_ok (by rw [hs]; decide +kernel)).1 hm hk hb .nil pass_no (pa_cons v0 pa_nil)) g1) ex
end
end LW
/-! k02_whole_comers: the law's body answers True. Printed by gl.py. -/
namespace LW
open PySem PySem.Spec L2 Q
section
variable {K : PySem.W.Frag} {G : Gb} {fd : Nat → FuncData} {Wx : WX}
def slB : Sl := (List.replicate 21 Slot.un).set 1 (.val .stm)
theorem slB_get {i : Nat} {z : Slot} (e : slB[i]? = some z) : (i = 1 ∧ z = .val .stm) ∨ z = .un := by
  unfold slB at e
  rw [List.getElem?_set] at e
  by_cases h : 1 = i
  · rw [if_pos h, if_pos (by decide)] at e
    exact .inl ⟨h.symm, (Option.some.inj e).symm⟩
  · rw [if_neg h, List.getElem?_replicate] at e
    split at e
    · exact .inr (Option.some.inj e).symm
    · cases e
theorem law_rep {H : Hp} {ns : List Int} {inn st a : Addr} (hn : ns.length ≤ sizeMax) (hi : H inn = none) (hs : upd H inn (.lst (ns.map V.int)) st = none) (t : LamX.Tabs G.T H) :
    Rep (Gs G st inn) (fun b => b = st ∨ b = inn) ⟨[], upd (upd H inn (.lst (ns.map V.int))) st (.lst [.ref inn, .int 0, .int 0, .int 17])⟩ (fun b => b = st ∨ b = inn) ((start N_law [.ref a]).set 1 (some (.ref st))) ⟨[], upd (upd H inn (.lst (ns.map V.int))) st (.lst [.ref inn, .int 0, .int 0, .int 17])⟩ ⟨slB, 0⟩ := by
  have ne : inn ≠ st := fun z => by
    rw [z, upd_same] at hs
    cases hs
  have e1 : upd (upd H inn (.lst (ns.map V.int))) st (.lst [.ref inn, .int 0, .int 0, .int 17]) inn = some (.lst (ns.map V.int)) := by rw [upd_ne ne, upd_same]
  have hain : ∀ b, (b = st ∨ b = inn) → ∃ o, upd (upd H inn (.lst (ns.map V.int))) st (.lst [.ref inn, .int 0, .int 0, .int 17]) b = some o ∧ NTbl o := fun b hb => by
    rcases hb with rfl | rfl
    · exact ⟨_, upd_same, fun _ z => nomatch z⟩
    · exact ⟨_, e1, fun _ z => nomatch z⟩
  refine ⟨⟨.inl rfl, .inr rfl, hain, fun k b e => by cases e⟩, rfl, ⟨ns, 0, 17, 0, Nat.le_refl _, by decide, by decide, by decide, hn, upd_same, e1, ne.symm⟩, (LamX.Tabs.ext t (ext_new hi)).ext (ext_new hs), hain, fun _ h => h, fun _ h => .inl h, .refl, rfl, fun i d e => ?_, fun i xs e => ?_, fun i j b xs ys e _ _ _ => ?_, fun i g k e => ?_, fun i z p e hz => ?_⟩
  · rcases slB_get e with ⟨rfl, h⟩ | h
    · cases h
      exact ⟨_, rfl, .stm⟩
    · cases h
  · rcases slB_get e with ⟨_, h⟩ | h <;> cases h
  · rcases slB_get e with ⟨_, h⟩ | h <;> cases h
  · rcases slB_get e with ⟨_, h⟩ | h <;> cases h
  · rcases slB_get e with ⟨_, h⟩ | h <;> (subst h; cases hz)
theorem law_run {H : Hp} {ns : List Int} {a : Addr} {D : Ends} (hn : ns.length ≤ sizeMax) (hs : SqL K H a (ns.map V.int)) (t : LamX.Tabs G.T H) (hQ : ∀ H', D.rt (.bl true) H') : t_law K G fd Wx D (start N_law [.ref a]) H := by
  refine ⟨_, rfl, a, ns, rfl, hs, Nat.le_trans hn smax, fun inn st hi hst => ?_⟩
  refine ⟨st, inn, fun b => b = st ∨ b = inn, _, fun b => b = st ∨ b = inn, _, ⟨slB, 0⟩, fun _ _ => False, { nx := fun _ => False, rt := fun d _ => d = .bl true }, rfl, law_rep hn hi hst t, fun _ _ _ _ _ _ _ _ _ z => z.elim, ?_, ?_⟩
  · exact law_true phi_ok ⟨rfl, rfl, rfl⟩ fun n => rfl
  · refine ⟨fun _ _ _ _ _ _ z => z.elim, fun _ _ _ _ _ _ z => z.elim, fun _ _ _ _ _ _ z => z.elim, fun v d A' σ' W' sl' n' R x _ q => ?_⟩
    have q : d = .bl true := q
    subst q
    cases x
    exact hQ _
end
end LW
/-! k02_whole_comers: what the top leaves. Printed by gl.py. -/
namespace LW
open PySem PySem.Spec PyProof.Rows L2 Q
def lay : Lay where
  cl := []
  xc := [1, 2]
  nm := nm
  cn := cn
  pl := fun i => (((stms[i]?).map Prod.fst).getD "", none)
  lam := [(("law", none), "law.<locals>.<lambda>")]
def dX (c : Str) (st : Stmt) : He.DefD := ⟨(c, some "__init__"), "__init__", c ++ (".__init__" : Str), defArgs st, defBody st, defScope st, [], []⟩
def dT (q : Str × Stmt) : He.DefD := ⟨(q.1, none), q.1, q.1, defArgs q.2, defBody q.2, defScope q.2, [], []⟩
def dS : He.DefD := dT ("_law_stream", top 27)
def dLaw : He.DefD := dT ("law", top 48)
def dfs : List He.DefD := stms.map dT ++ [dX (cn 1) (meth 3 0), dX (cn 2) (meth 4 0), dS, dLaw]
def facts : List He.Fa := bs.map .free ++ ((stms.map fun q => .glo q.1) ++ [.glo "law", .glo "_law_stream", .glo (cn 1), .glo (cn 2)])
/-- and module-level built-ins -/
def exZ (K : PySem.W.Frag) : Bool := exL lay K && ((mx.all fun q => He.eqO (PySem.W.nsIn K mainGlobals q.1) (some (some (.builtin q.2)))) && (List.range 46).all fun i => decide (PySem.W.typeIn K (.ref ((gOf lay K).gam i)) = some (.type "function")))
def tabs : List He.Defn := lay.lam.map Prod.fst
section
variable {P : Program} {w : World} {K : PySem.W.Frag} {mg : Str → Option Value} {h base : Heap}
theorem xc_cases {c : Nat} (hc : c ∈ lay.xc) : c = 1 ∨ c = 2 := by
  have hc : c ∈ ([1, 2] : List Nat) := hc
  simpa using hc
theorem glo_xc (S : He.SaysX facts dfs [] tabs exZ w h K) (X : K.In h) (N : h.Ns mainGlobals mg) {c : Nat} (hc : c ∈ lay.xc) : mg (cn c) = some (.ref (He.ga K (cn c))) := by
  rcases xc_cases hc with rfl | rfl
  · exact He.glo_ok X N (S.t.d.fact 68 rfl)
  · exact He.glo_ok X N (S.t.d.fact 69 rfl)
/-- an error's __init__ -/
theorem exc_of (S : He.SaysX facts dfs [] tabs exZ w h K) (X : K.In h) (N : h.Ns mainGlobals mg) {c : Nat} (hc : c ∈ lay.xc) {i : Nat} {f par : Str} {st : Stmt} {p1 p2 p3 p4 : Pos} (hd : dfs[i]? = some (dX (cn c) st))
    (hb : defBody st = [.Assign [.Attribute (.Name "self" p1) f p2] (.Name par p3) p4]) (Sc : FnScope ["self", par] ["self", par] (defScope st)) (hf : f ∈ nm c) (l1 : (defScope st).names.lookup ("self" : Str) = some .local) (l2 : (defScope st).names.lookup par = some .local)
    (d1 : (par == ("__debug__" : Str)) = false) (d2 : (par == ("__classdict__" : Str)) = false) (bi : ∀ fd, FunD K "__init__" (cn c ++ (".__init__" : Str)) (defArgs st) (defBody st) (defScope st) [] [] (He.fAd K (cn c, some "__init__")) fd → Binds K fd ["self", par] []) : XcF P w K mg base 4 (He.ga K (cn c)) (cn c) f := by
  obtain ⟨fd, F⟩ := S.t.d.def_ i hd
  have t := exL_xc (He.ba S.more).1 hc
  have F' : FunD K "__init__" (cn c ++ (".__init__" : Str)) (defArgs st) (defBody st) (defScope st) [] [] (He.fAd K (cn c, some "__init__")) fd := F
  refine ⟨t.oex, glo_xc S X N hc, _, fd, par, 1, t.ini, t.typ, by decide, ?_, bi fd F'⟩
  rw [hb] at F'
  exact exI_ok F' Sc t.oex (t.no f hf) l1 l2 d1 d2
def fdOf (K : PySem.W.Frag) (fd0 : FuncData) (i : Nat) : FuncData := fdAt K fd0 (He.fAd K (lay.pl i))
theorem names_st : stms.map (·.1) = fns.take 46 := by decide +kernel
theorem pl_at {i : Nat} {q : Str × Stmt} (hq : stms[i]? = some q) : lay.pl i = (q.1, none) := by
  have hi : i < stms.length := (List.getElem?_eq_some_iff.mp hq).1
  have h30 : stms.length = 46 := rfl
  show ((((stms[i]?).map Prod.fst).getD "", none) : He.Defn) = _
  rw [hq]
  rfl
theorem fn_at (fd0 : FuncData) (S : He.SaysX facts dfs [] tabs exZ w h K) {i : Nat} {q : Str × Stmt} (hq : stms[i]? = some q) : FunD K q.1 q.1 (defArgs q.2) (defBody q.2) (defScope q.2) [] [] ((gOf lay K).gam i) (fdOf K fd0 i) := by
  have mem : dT q ∈ dfs := List.mem_append_left _ (List.mem_map_of_mem (List.mem_of_getElem? hq))
  obtain ⟨fd, F⟩ := S.t.d.defs mem
  have F' : FunD K q.1 q.1 (defArgs q.2) (defBody q.2) (defScope q.2) [] [] (He.fAd K (q.1, none)) (fdAt K fd0 (He.fAd K (q.1, none))) := fdAt_eq F
  show FunD K q.1 q.1 _ _ _ [] [] (He.fAd K (lay.pl i)) (fdAt K fd0 (He.fAd K (lay.pl i)))
  rw [pl_at hq]
  exact F'
theorem free_at (S : He.SaysX facts dfs [] tabs exZ w h K) (X : K.In h) (N : h.Ns mainGlobals mg) {s : Str} (hs : s ∈ bs) : mg s = none :=
  He.free_ok X N (S.t.d.facts (List.mem_append_left _ (List.mem_map_of_mem hs)))
theorem tp_of (fd0 : FuncData) (S : He.SaysX facts dfs [] tabs exZ w h K) (X : K.In h) (N : h.Ns mainGlobals mg) (st inn : Addr) : Tp P w K mg base (Gs (gOf lay K) st inn) (fdOf K fd0) := by
  refine ⟨rfl, ⟨rfl, rfl, rfl, rfl⟩, fun s hs => free_at S X N hs, fun i q hq => fn_at fd0 S hq, fun i F hi hF => ?_, fun c hc c' hc' => (exL_xc (He.ba S.more).1 hc).exm c' hc', fun c hc => ?_, fun c hc f hf => ?_, fun q hq => PySem.W.mg_of X N (He.eqO_ok (List.all_eq_true.mp (He.ba (He.ba S.more).2).1 q hq)), fun i hi => of_decide_eq_true (List.all_eq_true.mp (He.ba (He.ba S.more).2).2 i (List.mem_range.mpr hi))⟩
  · have hs : ∃ q, stms[i]? = some q := ⟨_, List.getElem?_eq_getElem (show i < stms.length from hi)⟩
    obtain ⟨q, hq⟩ := hs
    have e : F.name = q.1 := by
      have e1 : (ents.map (·.name))[i]? = some F.name := by rw [List.getElem?_map, hF]; rfl
      have e2 : (stms.map (·.1))[i]? = some q.1 := by rw [List.getElem?_map, hq]; rfl
      rw [names_ok] at e1
      rw [names_st, List.getElem?_take, if_pos hi, e1] at e2
      exact Option.some.inj e2
    show mg F.name = some (.ref (He.fAd K (lay.pl i)))
    rw [pl_at hq, e]
    exact He.glo_ok X N (S.t.d.facts (List.mem_append_right _ (List.mem_append_left _ (List.mem_map.mpr ⟨q, List.mem_of_getElem? hq, rfl⟩))))
  · have t := exL_xc (He.ba S.more).1 hc
    exact ⟨glo_xc S X N hc, t.xf, t.no, t.nd⟩
  · rcases xc_cases hc with rfl | rfl
    · cases hf
      exact exc_of S X N (c := 1) hc (i := 46) (par := "thing") rfl rfl ⟨rfl, rfl, rfl, by decide +kernel, rfl, by decide +kernel, by decide +kernel⟩ (by decide) rfl rfl rfl rfl fun fd F => F.bindsN fun _ _ _ _ _ _ us hl => match us, hl with | [_, _], _ => rfl
    · cases hf
      exact exc_of S X N (c := 2) hc (i := 47) (par := "index") rfl rfl ⟨rfl, rfl, rfl, by decide +kernel, rfl, by decide +kernel, by decide +kernel⟩ (by decide) rfl rfl rfl rfl fun fd F => F.bindsN fun _ _ _ _ _ _ us hl => match us, hl with | [_, _], _ => rfl
end
end LW
/-! k02_whole_comers: the law's run at the caller. Printed by gl.py. -/
namespace LW
open PySem PySem.Spec PyProof.Rows L2 Q
section
variable {P : Program} {w : World} {K : PySem.W.Frag} {mg : Str → Option Value} {h base : Heap}
theorem sc_law : FnScope N_law ["_law_script"] (defScope (top 48)) := ⟨rfl, rfl, rfl, by decide +kernel, rfl, by decide +kernel, by decide +kernel⟩
theorem kb_rate_at0 {fd : FuncData} {f : Addr} (F : FunD K "rate_at" "rate_at" (defArgs (top 24)) (defBody (top 24)) (defScope (top 24)) [] [] f fd) : KBn K fd F_rate_at.ps 0 [Str.ofString "moment", Str.ofString "comers"] (fun _ ws => ws.reverse) (fun _ ws => ws.reverse) := by
  obtain ⟨oc, od, dV, kV, doc, pm, an, cdv, ct, osl, rfl, lk, hcd, hD, _⟩ := F.ex
  rcases hD with ⟨_, rfl⟩ | ⟨e, _⟩
  · exact ⟨fun s us ws _ l1 l2 => .of_eq (match us, ws, l1, l2 with | [], [_, _], _, _ => rfl), fun _ r => r.reverse⟩
  · exact absurd rfl e
theorem kb_come_by1 {fd : FuncData} {f : Addr} (F : FunD K "come_by" "come_by" (defArgs (top 25)) (defBody (top 25)) (defScope (top 25)) [] [] f fd) : KBn K fd F_come_by.ps 0 [Str.ofString "moment", Str.ofString "comers"] (fun _ ws => ws.reverse) (fun _ ws => ws.reverse) := by
  obtain ⟨oc, od, dV, kV, doc, pm, an, cdv, ct, osl, rfl, lk, hcd, hD, _⟩ := F.ex
  rcases hD with ⟨_, rfl⟩ | ⟨e, _⟩
  · exact ⟨fun s us ws _ l1 l2 => .of_eq (match us, ws, l1, l2 with | [], [_, _], _, _ => rfl), fun _ r => r.reverse⟩
  · exact absurd rfl e
theorem law_go {s1 : Shared} {H : Hp} {a fa : Addr} {ns : List Int} (S : He.SaysX facts dfs [] tabs exZ w h K) (X : K.In h) (N : h.Ns mainGlobals mg) (hfa : mg ("law" : Str) = some (.ref fa)) (TB : ∀ q ∈ tabs.map (He.cT K), LamX.TabB base mg q.1 q.2)
    (hT : ∀ q ∈ tabs.map (He.cT K), H q.2 = some (.tbl #[])) (hs : SqL K H a (ns.map V.int)) (hn : ns.length ≤ 63) (e0 : Env0 P w K mg base callerA [] s1 H) :
    codeAny (model P w) callerA (.call (.ref fa) ⟨[.ref a], []⟩) (CR (L2.CX P w) [] P w H s1 (fun v _ => v = .bl true) fun _ _ _ => False) s1 := by
  obtain ⟨fdL, FL⟩ := S.t.d.def_ 49 (d := dLaw) rfl
  have FL : FunD K "law" "law" (defArgs (top 48)) (defBody (top 48)) (defScope (top 48)) [] [] (He.ga K "law") fdL := FL
  have ef : fa = He.ga K "law" := by
    have := He.glo_ok X N (S.t.d.fact 66 (f := .glo "law") rfl)
    rw [hfa] at this
    cases this
    rfl
  subst ef
  obtain ⟨fdS, FS⟩ := S.t.d.def_ 48 (d := dS) rfl
  have FS : FunD K "_law_stream" "_law_stream" (defArgs (top 27)) (defBody (top 27)) (defScope (top 27)) [] [] (He.ga K "_law_stream") fdS := FS
  have T : ∀ st inn, Tp P w K mg base (Gs (gOf lay K) st inn) (fdOf K fdL) := fun st inn => tp_of fdL S X N st inn
  have fx : ∀ st inn, Q.Fx P w K mg base (Ml (Gs (gOf lay K) st inn) (fdOf K fdL)) := fun st inn => fx_law (chain (T st inn) 46 (by decide))
  have rm : Room 53 callerA := ⟨rfl, by decide, by decide⟩
  have bd : BindsTo s1 fdL ⟨[.ref a], []⟩ ((["_law_script"] : List Str).zip [.ref a]) := FL.bindsA (fun _ _ _ _ _ _ us hl => match us, hl with | [_], _ => rfl) s1 [.ref a] rfl
  obtain ⟨oc, od, dV, kV, doc, pm, an, cdv, ct, osl, e, lk, hcd, _, _⟩ := FL.ex
  obtain ⟨c0, rfl⟩ := He.codeIn_ref hcd
  rw [e] at lk bd
  refine run_atC (k := 52) (us := [.ref a]) (vs := [.ref a]) lk hcd sc_law rm e0 bd (.cons rfl .nil) rfl fun hr => ?_
  have gs : ∀ st inn, GoodS (cxOf (L2.CX P w) P w K mg base N_law "law" (defScope (top 48)) (He.ga K "law") (.ref c0) callerA [] s1 H fun _ _ _ => False) (Ml (Gs (gOf lay K) st inn) (fdOf K fdL)) (fun _ _ _ _ => False) := fun st inn =>
    ⟨⟨fx st inn, rfl, sc_law.nd, hr, takes_of rfl rfl rfl rfl, (fun z => nomatch z), (fun _ => ⟨c0, (He.cT K ("law", none)).2, rfl, (by have t := TB (He.cT K ("law", none)) (List.mem_singleton.mpr rfl); have ec : He.codeOf K ("law", none) = c0 := He.codeOf_eq lk rfl; rw [← ec]; exact t), List.mem_singleton.mpr rfl, fun p hp _ => by rw [show p = _ from List.mem_singleton.mp hp]; rfl⟩), fun _ => rfl⟩, passes_of rfl, fun s z => ⟨z, .inl rfl⟩, sc_law.kind, rfl, rfl⟩
  refine ⟨_, law_ps (G := gOf lay K) (fd := fdOf K fdL) ⟨rfl, rfl, rfl, rfl⟩ rfl rfl gs ⟨⟨by decide, kb_rate_at0 (fn_at fdL S (i := 17) rfl)⟩, ⟨by decide, kb_come_by1 (fn_at fdL S (i := 18) rfl)⟩, trivial⟩ (ok_stream FS (free_at S X N (by decide +kernel))) (hr.mono (by decide)) (He.glo_ok X N (S.t.d.fact 67 rfl)) FS.kp (FS.bindsN fun _ _ _ _ _ _ us hl => match us, hl with | [_], _ => rfl), ?_⟩
  refine law_run (Nat.le_trans hn (by decide)) hs (fun p hp => ?_) fun _ => rfl
  obtain ⟨q, hq, rfl⟩ := List.mem_map.mp (show p ∈ lay.lam.map fun p => ((He.cT K p.1).2, p.2) from hp)
  exact LamX.TabS.nil (hT _ (List.mem_map_of_mem (List.mem_map_of_mem hq)))
end
end LW
/-! k02_whole_comers: the head is run once. Printed by gl.py. -/
namespace LW
open PySem PySem.W PySem.Calls PyProof.Rows
abbrev RwO : PySem.W.OpenRow := PySem.W.OpenLaw.row PySem.Challenge.rw_quickbythen_k02_whole_comers
def loo0 : List PySem.Str := ["QuickError", "BadMoment", "BadComers", "is_list", "is_whole", "is_positive", "lowest", "is_fraction", "is_heap", "told", "checked_moment", "plus", "less", "times", "is_below", "is_comer", "bad_comers", "checked_comers", "rate_from", "heap_by", "rate_at", "come_by", "_law_stream", "_law_draw", "_law_pick", "_law_same", "_law_loose", "_law_common", "_law_low", "_law_plus"]
def loo1 : List PySem.Str := ["_law_less", "_law_times", "_law_is_below", "_law_least", "_law_total", "_law_raw", "_law_raw_comers", "_law_comers", "_law_rate_at", "_law_tried", "_law_come", "_law_split", "_law_odds"]
abbrev loo : List PySem.Str := loo0 ++ loo1
abbrev hook : PySem.W.Hook := He.hookX 6 facts dfs [] tabs exZ
def ob (s : PySem.W.SharedT) : He.AlX := He.obsX 6 facts dfs [] tabs exZ (HandSHeadRun.getT s)
theorem ob_eq (s : PySem.W.SharedT) : ob s = hook.obs s.abs := He.obsX_eq (HandSHeadRun.getT_eq s)
theorem run (w : World) : HandSHeadRun.RunEqI RwO (PySem.W.view RwO.prog [0, 48]) hook ob 6000 loo w := by
  unfold HandSHeadRun.RunEqI
  kernel_rfl
end LW
/-! k02_whole_comers: the end. Printed by gl.py. -/
open PySem PySem.W PySem.Calls PyProof.Rows
theorem PySem.Challenge.cw_quickbythen_k02_whole_comers_holds : PySem.Challenge.rw_quickbythen_k02_whole_comers.Holds := by
  w_on; o_law
  refine HandSHeadRun.head_imp (r := OpenLaw.row PySem.Challenge.rw_quickbythen_k02_whole_comers) (q := view (OpenLaw.row PySem.Challenge.rw_quickbythen_k02_whole_comers).prog [0, 48]) (H := LW.hook) (ob := LW.ob) (M := 6000) (loose := LW.loo) (d := HandSHeadRun.topDef (OpenLaw.row PySem.Challenge.rw_quickbythen_k02_whole_comers).prog 48) (kwd := []) LW.ob_eq
    LW.run (by kernel_rfl) (by kernel_rfl) (by kernel_rfl) (by rfl) (by first | assumption | decide +kernel) (by decide +kernel) ⟨rfl, rfl, rfl, rfl, rfl, by decide +kernel⟩ ?hw ?hc
  case hw => w_witness2
  case hc =>
    refine Att.attach_callB (l := PySem.Challenge.rw_quickbythen_k02_whole_comers) (n := 63) rfl (by kernel_rfl) fun w s0 s1 mg mb fa o pm cd doc a vs ns Gr Y ho hd hcd hmg hobj hints hlen hbits hg => ?_
    obtain ⟨K, kin, S⟩ := Y
    have hmg : mg ("law" : PySem.Str) = some (.ref fa) := by
      have e : (HandSHeadRun.topDef (OpenLaw.row PySem.Challenge.rw_quickbythen_k02_whole_comers).prog 48).name = ("law" : PySem.Str) := by kernel_rfl
      rw [← e]
      exact hmg
    refine Q.end_run (T := LW.tabs.map (He.cT K)) kin Gr.T.g Gr.T.b Gr.T.builtins Gr.T.nolimit hg (fun q hq => ?_) (fun q hq => ?_) (fun q hq => ?_) Gr.T.bmain hobj hints (Nat.le_trans hlen (by decide)) fun base H kb nb tb hT hs e0 => LW.law_go S kin Gr.T.g hmg tb hT hs hlen e0
    · obtain ⟨p, hp, rfl⟩ := List.mem_map.mp hq
      exact S.empty _ hp
    · obtain ⟨p, hp, rfl⟩ := List.mem_map.mp hq
      exact S.out _ hp
    · obtain ⟨p, hp, rfl⟩ := List.mem_map.mp hq
      exact PySem.W.codeHd_of_K kin (S.hd _ hp)
