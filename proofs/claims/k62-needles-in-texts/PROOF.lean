import PyProof.Rows.All
import Wide.All
import OpenK.AllK
import Wide.FinOn
import HandS.ForMost
import HandS.Wide
import HandS.Style
import HandS.Lambda
import HandS.Exc
import HandS.ExcValue
import HandS.RaiseMore
import HandS.Conv
import HandS.Property
import HandS.MakeKwOnly
import KE.KExcSuper
import KE.KExcIs
import HandS.ExcOwn
import HandS.ExcField
import HandS.TryOnly
import HandS.WordsExc
import HandS.ExcIs
import HandS.CallLocal
import HandS.Star
import HandS.Zip
import HandS.Iter
import PyProof.LongRange
import PyProof.ListRange
import HandS.Dict
import HandS.More
import HandS.Deep
import HandS.IsInst
import HandS.OwnEq
import KE.GoesMore
import HandS.Text
import HandS.Flow
import HandS.FStr
import HandS.ReplaceLit
import HandS.ReplaceDef
import HandS.ListEq
import HandS.ExcCtx
import HandS.SuiteRaise
import HandS.RaiseFrom
import PySem.Challenge.RW_slowneedles_k62_needles_in_texts
set_option Elab.async false
set_option linter.all false
set_option maxRecDepth 100000
set_option maxHeartbeats 4000000
/-! VL, part a: plain data for what a law's values are, and how the abstract heap bears them. -/
namespace VL
open PySem PySem.Spec PyProof.Rows L2

/-- a dict: int keys that all bear True; int keys that bear ints; keys that are tuples of ints, all bear True -/
inductive Dc where
  | b (ks : List Int) | i (kvs : List (Int × Int)) | t (ks : List (List Int))
def dcO : Dc → HO
  | .b ks => .dK (ks.map fun k => (.inl k, .bl true))
  | .i kvs => .dK (kvs.map fun p => (.inl p.1, .int p.2))
  | .t ks => .dT (ks.map fun k => (k.map .inl, .bl true))
/-- plain data: what a value is, with no address in it -/
inductive D where
  | non | bl (b : Bool) | int (i : Int) | str (x : Str) | lst (xs : List D) | tup (xs : List D) | ndl (s p m : Int) | pool | opq (a : Addr)
  | err (a d : Addr) (v : D) | chn (xs : List D) | fnc (k : Nat) | exo (k : Nat) (v : D) (env : List (Option D)) | dct (x : Dc)
  | exv (a d : Addr) (k : Nat) (v : D) | gag (a C dx : Addr) (lim : Option (Int × Int)) (xs : List D)
/-- an exception of the class cls that stands at a, its attributes at d, not raised -/
def ExD (cls : Value) (d a : Addr) : HO := .ext fun h => ∃ (oe : Obj) (vs : Array Value), h.get? a = some oe ∧ Zc cls (some d) oe ∧ oe.data = .fields vs ∧ vs[1]? = some .none
/-- a gauge's attributes -/
def gF (lim : Option (Int × Int)) (vs : List V) : List (Str × V) := (match lim with
  | none => []
  | some (l, h) => [(("least_shown" : Str), V.int l), (("greatest_shown" : Str), V.int h)]) ++ ([("present_needle" : Str), ("present_value" : Str), ("calls" : Str), ("past" : Str)].zip vs)
def gK (lim : Option (Int × Int)) : Nat := match lim with
  | none => 900
  | some _ => 901

/-- where the classes stand: the needles', the chains', those of the errors; the defs that are handed on -/
structure Kl where
  nd : Addr
  ch : Addr
  xc : Nat → Addr
  fn : Nat → Addr
  /-- the tables of code objects that may grow, and the names that they tell -/
  tabs : List (Addr × Str)
def Kl.tb (C : Kl) : Bool := !C.tabs.isEmpty
theorem Kl.tabs_nil {C : Kl} (h : C.tb = false) : C.tabs = [] := by
  unfold Kl.tb at h
  cases e : C.tabs with
  | nil => rfl
  | cons a l =>
    rw [e] at h
    cases h
/-- the classes; where the law's pool stands, if there is one -/
structure Gm where
  C : Kl
  pa : Option Addr

def fg (s p : Int) : Int := (Int.gcd s p : Int)

mutual
/-- v bears d in H, all its addresses within S -/
inductive Rep (g : Gm) (S : Addr → Prop) (H : Hp) : V → D → Prop
  | non : Rep g S H .non .non
  | bl (b : Bool) : Rep g S H (.bl b) (.bl b)
  | int (i : Int) : Rep g S H (.int i) (.int i)
  | str (x : Str) : Rep g S H (.str x) (.str x)
  | lst {a : Addr} {vs : List V} {ds : List D} : S a → H a = some (.lst vs) → RepL g S H vs ds → Rep g S H (.ref a) (.lst ds)
  | tup {a : Addr} {vs : List V} {ds : List D} : S a → H a = some (.tup vs) → RepL g S H vs ds → Rep g S H (.ref a) (.tup ds)
  | ndl {a dx t1 t2 : Addr} {s p m : Int} : S a → S t1 → S t2 → H a = some (.ins g.C.nd dx [("passed", .ref t1), ("form", .ref t2)]) → H t1 = some (.tup [.int s, .int p, .int m]) →
      H t2 = some (.tup [.int (s / fg s p), .int (p / fg s p), .int (m / fg s p)]) → Rep g S H (.ref a) (.ndl s p m)
  | pool {a : Addr} : g.pa = some a → Rep g S H (.ref a) .pool
  | opq (a : Addr) : Rep g S H (.ref a) (.opq a)
  | err {a d : Addr} {u : V} {v : D} : S d → H d = some (.xd [("value", u)]) → Rep g S H u v → Rep g S H (.ref a) (.err a d v)
  | chn {a dx t : Addr} {vs : List V} {ds : List D} : S a → S t → H a = some (.ins g.C.ch dx [("links", .ref t)]) → H t = some (.tup vs) → RepL g S H vs ds → Rep g S H (.ref a) (.chn ds)
  | fnc (k : Nat) : Rep g S H (.ref (g.C.fn k)) (.fnc k)
  | dct {a : Addr} {x : Dc} : S a → H a = some (dcO x) → Rep g S H (.ref a) (.dct x)
  | exv {a d : Addr} {k : Nat} {u : V} {v : D} : S a → S d → H a = some (ExD (.ref (g.C.xc k)) d a) → H d = some (.xd [("value", u)]) → Rep g S H u v → Rep g S H (.ref a) (.exv a d k v)
  | gag {a C dx : Addr} {lim : Option (Int × Int)} {vs : List V} {xs : List D} : S a → (C = g.C.fn (gK lim) ∧ C ≠ g.C.nd ∧ C ≠ g.C.ch) → H a = some (.ins C dx (gF lim vs)) → RepL g S H vs xs → Rep g S H (.ref a) (.gag a C dx lim xs)
inductive RepL (g : Gm) (S : Addr → Prop) (H : Hp) : List V → List D → Prop
  | nil : RepL g S H [] []
  | cons {v : V} {vs : List V} {d : D} {ds : List D} : Rep g S H v d → RepL g S H vs ds → RepL g S H (v :: vs) (d :: ds)
end

/-- not a table of code objects -/
class NT (o : HO) : Prop where
  out : ∀ ps, o ≠ .tbl ps
instance (xs : List V) : NT (.lst xs) := ⟨fun _ z => nomatch z⟩
instance (xs : List V) : NT (.tup xs) := ⟨fun _ z => nomatch z⟩
instance (xs : List (Key × V)) : NT (.dK xs) := ⟨fun _ z => nomatch z⟩
instance (xs : List (List Key × V)) : NT (.dT xs) := ⟨fun _ z => nomatch z⟩
instance (S : Int → Bool) (n : Nat) : NT (.set S n) := ⟨fun _ z => nomatch z⟩
instance (C d : Addr) (fs : List (Str × V)) : NT (.ins C d fs) := ⟨fun _ z => nomatch z⟩
instance (x : Addr) : NT (.own x) := ⟨fun _ z => nomatch z⟩
instance (fs : List (Str × V)) : NT (.xd fs) := ⟨fun _ z => nomatch z⟩
instance (f x : Addr) : NT (.met f x) := ⟨fun _ z => nomatch z⟩
instance (a b : Int) : NT (.rng a b) := ⟨fun _ z => nomatch z⟩
instance (o : Obj) (u : HO) : NT (.frz o u) := ⟨fun _ z => nomatch z⟩
instance (φ : Heap → Prop) : NT (.ext φ) := ⟨fun _ z => nomatch z⟩
instance (x : Dc) : NT (dcO x) := ⟨fun _ z => by cases x <;> cases z⟩
instance (c : Value) (d a : Addr) : NT (ExD c d a) := ⟨fun _ z => nomatch z⟩
section
variable {g : Gm} {S T : Addr → Prop} {H H' : Hp}
mutual
theorem Rep.goN (k : ∀ a o, S a → H a = some o → [NT o] → T a ∧ H' a = some o) : ∀ {d : D} {v : V}, Rep g S H v d → Rep g T H' v d
  | .non, _, h => by cases h; exact .non
  | .bl _, _, h => by cases h; exact .bl _
  | .int _, _, h => by cases h; exact .int _
  | .str _, _, h => by cases h; exact .str _
  | .lst ds, _, h => by
    cases h with
    | lst s e r => exact .lst (k _ _ s e).1 (k _ _ s e).2 (RepL.goN k r)
  | .tup ds, _, h => by
    cases h with
    | tup s e r => exact .tup (k _ _ s e).1 (k _ _ s e).2 (RepL.goN k r)
  | .ndl _ _ _, _, h => by
    cases h with
    | ndl s s1 s2 e e1 e2 => exact .ndl (k _ _ s e).1 (k _ _ s1 e1).1 (k _ _ s2 e2).1 (k _ _ s e).2 (k _ _ s1 e1).2 (k _ _ s2 e2).2
  | .pool, _, h => by
    cases h with
    | pool e => exact .pool e
  | .opq _, _, h => by cases h; exact .opq _
  | .err _ _ x, _, h => by
    cases h with
    | err s e r => exact .err (k _ _ s e).1 (k _ _ s e).2 (Rep.goN k r)
  | .chn ds, _, h => by
    cases h with
    | chn s s1 e e1 r => exact .chn (k _ _ s e).1 (k _ _ s1 e1).1 (k _ _ s e).2 (k _ _ s1 e1).2 (RepL.goN k r)
  | .fnc _, _, h => by cases h; exact .fnc _
  | .exo _ _ _, _, h => by cases h
  | .dct _, _, h => by
    cases h with
    | dct s e => exact .dct (k _ _ s e).1 (k _ _ s e).2
  | .exv _ _ _ x, _, h => by
    cases h with
    | exv s s1 e e1 r => exact .exv (k _ _ s e).1 (k _ _ s1 e1).1 (k _ _ s e).2 (k _ _ s1 e1).2 (Rep.goN k r)
  | .gag _ _ _ _ xs, _, h => by
    cases h with
    | gag s c e r => exact .gag (k _ _ s e).1 c (k _ _ s e).2 (RepL.goN k r)
theorem RepL.goN (k : ∀ a o, S a → H a = some o → [NT o] → T a ∧ H' a = some o) : ∀ {ds : List D} {vs : List V}, RepL g S H vs ds → RepL g T H' vs ds
  | [], _, h => by cases h; exact .nil
  | d :: ds, _, h => by
    cases h with
    | cons a b => exact .cons (Rep.goN k a) (RepL.goN k b)
end
theorem Rep.go (k : ∀ a o, S a → H a = some o → T a ∧ H' a = some o) {d : D} {v : V} (r : Rep g S H v d) : Rep g T H' v d := r.goN fun a o s e => k a o s e
theorem RepL.go (k : ∀ a o, S a → H a = some o → T a ∧ H' a = some o) {ds : List D} {vs : List V} (r : RepL g S H vs ds) : RepL g T H' vs ds := r.goN fun a o s e => k a o s e
theorem RepL.length : ∀ {ds : List D} {vs : List V}, RepL g S H vs ds → vs.length = ds.length
  | [], _, h => by cases h; rfl
  | d :: ds, _, h => by
    cases h with
    | cons a b => simp [RepL.length b]
theorem RepL.get : ∀ {ds : List D} {vs : List V} {i : Nat} {d : D}, RepL g S H vs ds → ds[i]? = some d → ∃ v, vs[i]? = some v ∧ Rep g S H v d
  | [], _, _, _, h, e => by simp at e
  | d :: ds, _, 0, _, h, e => by
    cases h with
    | cons a b => simp at e; subst e; exact ⟨_, rfl, a⟩
  | d :: ds, _, i + 1, _, h, e => by
    cases h with
    | cons a b =>
      obtain ⟨v, h1, h2⟩ := RepL.get (i := i) b (by simpa using e)
      exact ⟨v, by simpa using h1, h2⟩
theorem RepL.of : ∀ {ds : List D} {vs : List V}, vs.length = ds.length → (∀ (i : Nat) v d, vs[i]? = some v → ds[i]? = some d → Rep g S H v d) → RepL g S H vs ds
  | [], [], _, _ => .nil
  | [], _ :: _, h, _ => by simp at h
  | _ :: _, [], h, _ => by simp at h
  | d :: ds, v :: vs, h, k => .cons (k 0 v d rfl rfl) (RepL.of (by simpa using h) fun i v d h1 h2 => k (i + 1) v d (by simpa using h1) (by simpa using h2))
theorem RepL.get2 {ds : List D} {vs : List V} {i : Nat} {v : V} {d : D} (h : RepL g S H vs ds) (e : vs[i]? = some v) (e' : ds[i]? = some d) : Rep g S H v d := by
  obtain ⟨u, h1, h2⟩ := h.get e'
  rw [e] at h1
  cases h1
  exact h2
theorem RepL.append : ∀ {ds es : List D} {vs us : List V}, RepL g S H vs ds → RepL g S H us es → RepL g S H (vs ++ us) (ds ++ es)
  | [], _, _, _, h, k => by cases h; exact k
  | d :: ds, _, _, _, h, k => by
    cases h with
    | cons a b => exact .cons a (RepL.append b k)
theorem RepL.take : ∀ {ds : List D} {vs : List V} (n : Nat), RepL g S H vs ds → RepL g S H (vs.take n) (ds.take n)
  | [], _, n, h => by cases h; simp; exact .nil
  | d :: ds, _, 0, h => by simp; exact .nil
  | d :: ds, _, n + 1, h => by
    cases h with
    | cons a b => exact .cons a (RepL.take n b)
theorem RepL.drop : ∀ {ds : List D} {vs : List V} (n : Nat), RepL g S H vs ds → RepL g S H (vs.drop n) (ds.drop n)
  | [], _, n, h => by cases h; simp; exact .nil
  | d :: ds, _, 0, h => h
  | d :: ds, _, n + 1, h => by
    cases h with
    | cons a b => exact RepL.drop n b
theorem RepL.set : ∀ {ds : List D} {vs : List V} {v : V} {d : D} (n : Nat), RepL g S H vs ds → Rep g S H v d → RepL g S H (vs.set n v) (ds.set n d)
  | [], _, _, _, n, h, _ => by cases h; exact .nil
  | d :: ds, _, _, _, 0, h, r => by
    cases h with
    | cons a b => exact .cons r b
  | d :: ds, _, _, _, n + 1, h, r => by
    cases h with
    | cons a b => exact .cons a (RepL.set n b r)
theorem RepL.rep {ds : List D} {vs : List V} (h : RepL g S H vs ds) : ∀ n : Nat, RepL g S H (List.replicate n vs).flatten (List.replicate n ds).flatten
  | 0 => .nil
  | n + 1 => by
    rw [List.replicate_succ, List.flatten_cons, List.replicate_succ, List.flatten_cons]
    exact h.append (RepL.rep h n)
theorem RepL.mono (h : ∀ a, S a → T a) {ds : List D} {vs : List V} (r : RepL g S H vs ds) : RepL g T H vs ds := r.goN fun a o s e => ⟨h a s, e⟩
theorem Rep.mono (h : ∀ a, S a → T a) {d : D} {v : V} (r : Rep g S H v d) : Rep g T H v d := r.goN fun a o s e => ⟨h a s, e⟩
end

/-- the pool is the one object that an expression may change -/
structure Fr (g : Gm) (H H' : Hp) : Prop where
  keep : ∀ a o, some a ≠ g.pa → H a = some o → [NT o] → H' a = some o
  dom : ∀ a, some a ≠ g.pa → H a ≠ none → H' a ≠ none
  all : g.C.tb = false → ∀ a o, some a ≠ g.pa → H a = some o → H' a = some o
instance {g : Gm} {H H' : Hp} : CoeFun (Fr g H H') (fun _ => ∀ a o, some a ≠ g.pa → H a = some o → [NT o] → H' a = some o) := ⟨Fr.keep⟩
theorem Fr.refl {g : Gm} {H : Hp} : Fr g H H := ⟨fun _ _ _ h => h, fun _ _ h => h, fun _ _ _ _ h => h⟩
theorem Fr.trans {g : Gm} {H H1 H2 : Hp} (a : Fr g H H1) (b : Fr g H1 H2) : Fr g H H2 := ⟨fun x o n h => b x o n (a x o n h), fun x n h => b.dom x n (a.dom x n h), fun t x o n h => b.all t x o n (a.all t x o n h)⟩
theorem Fr.mk0 {g : Gm} {H H' : Hp} (h : ∀ a o, some a ≠ g.pa → H a = some o → H' a = some o) : Fr g H H' := ⟨fun a o n e => h a o n e, fun a n q z => by
  obtain ⟨o, e⟩ := Option.ne_none_iff_exists'.mp q
  rw [h a o n e] at z
  exact (nomatch z), fun _ => h⟩
theorem Fr.of {g : Gm} {H H' : Hp} (h : Same H H') : Fr g H H' := .mk0 fun a o _ e => h a o e
theorem Fr.back {g : Gm} {H H' : Hp} {a : Addr} (f : Fr g H H') (n : some a ≠ g.pa) (e : H' a = none) : H a = none :=
  Classical.byContradiction fun q => f.dom a n q e
theorem Fr.put {g : Gm} {H H' : Hp} {p : Addr} (o : HO) (f : Fr g H H') (hp : H p = none) : Fr g H (upd H' p o) := ⟨fun a u n e => by
  intro _
  have na : a ≠ p := fun q => by
    rw [q, hp] at e
    cases e
  rw [upd_ne na]
  exact f a u n e, fun a n q => by
  by_cases c : a = p
  · rw [c, upd_same]
    exact (fun z => nomatch z)
  · rw [upd_ne c]
    exact f.dom a n q, fun t a u n e => by
  rw [upd_ne (ne_of_none e hp)]
  exact f.all t a u n e⟩
/-- neither a table nor a code object -/
class NX (o : HO) : Prop where
  tb : ∀ ps, o ≠ .tbl ps
  ex : ∀ φ, o ≠ .ext φ
instance (xs : List V) : NX (.lst xs) := ⟨fun _ z => (nomatch z), fun _ z => (nomatch z)⟩
instance (xs : List V) : NX (.tup xs) := ⟨fun _ z => (nomatch z), fun _ z => (nomatch z)⟩
instance (xs : List (Key × V)) : NX (.dK xs) := ⟨fun _ z => (nomatch z), fun _ z => (nomatch z)⟩
instance (xs : List (List Key × V)) : NX (.dT xs) := ⟨fun _ z => (nomatch z), fun _ z => (nomatch z)⟩
instance (o : Obj) (u : HO) : NX (.frz o u) := ⟨fun _ z => (nomatch z), fun _ z => (nomatch z)⟩
instance (C d : Addr) (fs : List (Str × V)) : NX (.ins C d fs) := ⟨fun _ z => (nomatch z), fun _ z => (nomatch z)⟩
instance (x : Dc) : NX (dcO x) := ⟨fun _ z => (by cases x <;> cases z), fun _ z => (by cases x <;> cases z)⟩
theorem tabs_put {T : List (Addr × Str)} {H : Hp} {A : Addr} {o : HO} (t : LamX.Tabs T H) (hA : ∀ u, H A = some u → NX u) : LamX.Tabs T (upd H A o) := fun p hp => by
  obtain ⟨ps, h1, h2, h3⟩ := t p hp
  refine ⟨ps, ?_, h2, fun pos cv hc => ?_⟩
  · rw [upd_ne (fun z : p.1 = A => (hA _ (by rw [← z]; exact h1)).tb ps rfl)]
    exact h1
  · obtain ⟨c, e1, e2⟩ := h3 pos cv hc
    refine ⟨c, e1, ?_⟩
    rw [upd_ne (fun z : c = A => (hA _ (by rw [← z]; exact e2)).ex _ rfl)]
    exact e2
/-- the pool holds three ints; the last counts what was mixed, at most B; the tables are in order -/
structure PB (g : Gm) (B : Nat) (H : Hp) : Prop where
  pool : ∀ a, g.pa = some a → ∃ p0 p1 p2 : Int, H a = some (.lst [.int p0, .int p1, .int p2]) ∧ p1.natAbs < 2 ^ 100 ∧ 0 ≤ p2 ∧ p2 ≤ (B : Int)
  tab : LamX.Tabs g.C.tabs H
instance {g : Gm} {B : Nat} {H : Hp} : CoeFun (PB g B H) (fun _ => ∀ a, g.pa = some a → ∃ p0 p1 p2 : Int, H a = some (.lst [.int p0, .int p1, .int p2]) ∧ p1.natAbs < 2 ^ 100 ∧ 0 ≤ p2 ∧ p2 ≤ (B : Int)) := ⟨PB.pool⟩
theorem PB.mono {g : Gm} {B B' : Nat} {H : Hp} (h : PB g B H) (l : B ≤ B') : PB g B' H := ⟨fun a e => by
  obtain ⟨p0, p1, p2, h1, h2, h3, h4⟩ := h a e
  exact ⟨p0, p1, p2, h1, h2, h3, by omega⟩, h.tab⟩
theorem PB.same {g : Gm} {B : Nat} {H H' : Hp} (h : PB g B H) (s : Same H H') : PB g B H' := ⟨fun a e => by
  obtain ⟨p0, p1, p2, h1, h2⟩ := h a e
  exact ⟨p0, p1, p2, s _ _ h1, h2⟩, h.tab.ext s⟩
theorem PB.not {g : Gm} {B : Nat} {H : Hp} (h : PB g B H) {a : Addr} (e : H a = none) : some a ≠ g.pa := fun q => by
  obtain ⟨p0, p1, p2, h1, _⟩ := h a q.symm
  rw [e] at h1
  cases h1
theorem PB.pool_put {g : Gm} {B : Nat} {H : Hp} {A : Addr} {o : HO} (h : PB g B H) (nA : some A ≠ g.pa) : ∀ a, g.pa = some a → ∃ p0 p1 p2 : Int, upd H A o a = some (.lst [.int p0, .int p1, .int p2]) ∧ p1.natAbs < 2 ^ 100 ∧ 0 ≤ p2 ∧ p2 ≤ (B : Int) := fun a e => by
  obtain ⟨p0, p1, p2, q, z⟩ := h a e
  exact ⟨p0, p1, p2, by rw [upd_ne (fun w => nA (by rw [← w, e]))]; exact q, z⟩
/-- one that is no table is written -/
theorem PB.put {g : Gm} {B : Nat} {H : Hp} {A : Addr} {o : HO} (h : PB g B H) (nA : some A ≠ g.pa) (hA : ∀ u, H A = some u → NX u) : PB g B (upd H A o) := ⟨h.pool_put nA, tabs_put h.tab hA⟩
theorem PB.put1 {g : Gm} {B : Nat} {H : Hp} {A : Addr} {o u : HO} [n : NX u] (h : PB g B H) (nA : some A ≠ g.pa) (hA : H A = some u) : PB g B (upd H A o) := h.put nA fun v e => by
  rw [hA] at e
  cases e
  exact n
theorem PB.new {g : Gm} {B : Nat} {H : Hp} {A : Addr} {o : HO} (h : PB g B H) (hA : H A = none) : PB g B (upd H A o) := h.put (h.not hA) fun v e => by
  rw [hA] at e
  cases e
theorem PB.put0 {g : Gm} {B : Nat} {H : Hp} {A : Addr} {o : HO} (h : PB g B H) (nA : some A ≠ g.pa) (tb : g.C.tb = false) : PB g B (upd H A o) := ⟨h.pool_put nA, fun p hp => by
  rw [Kl.tabs_nil tb] at hp
  cases hp⟩
theorem PB.no0 {C : Kl} {B : Nat} {H : Hp} (tb : C.tb = false) : PB ⟨C, none⟩ B H := ⟨fun _ z => (nomatch z), fun p hp => by
  have hp : p ∈ C.tabs := hp
  rw [Kl.tabs_nil tb] at hp
  cases hp⟩
theorem PB.none {C : Kl} {pa : Option Addr} {B : Nat} {H : Hp} (h : PB ⟨C, pa⟩ B H) : PB ⟨C, none⟩ B H := ⟨fun _ z => (nomatch z), h.tab⟩
/-- so much may be mixed in all -/
def Bmax : Nat := 2 ^ 100000

abbrev Env := List (Option D)
abbrev ME := Env → (D → Prop) → Prop
abbrev MT := Env → (Bool → Prop) → Prop
abbrev MA := Env → (List D → Prop) → Prop
abbrev SS := Nat → Addr → Prop

/-- the slots bear the environment, slot i within S i -/
structure Rl (g : Gm) (σ : L2.St) (H : Hp) (env : Env) (S : SS) : Prop where
  len : σ.length = env.length
  rep : ∀ (i : Nat) d, env[i]? = some (some d) → ∃ v, σ[i]? = some (some v) ∧ Rep g (S i) H v d
  dom : ∀ i a, S i a → H a ≠ none ∧ some a ≠ g.pa
theorem Rl.fr {g : Gm} {σ : L2.St} {H H' : Hp} {env : Env} {S : SS} (r : Rl g σ H env S) (f : Fr g H H') : Rl g σ H' env S where
  len := r.len
  rep := fun i d e => by
    obtain ⟨v, h1, h2⟩ := r.rep i d e
    exact ⟨v, h1, h2.goN fun a o s q => ⟨s, f a o (r.dom i a s).2 q⟩⟩
  dom := fun i a s => ⟨fun q => (r.dom i a s).1 (f.back (r.dom i a s).2 q), (r.dom i a s).2⟩

/-- what a value's addresses may be: made since H, or those of the slots in R -/
def Sr (g : Gm) (R : List Nat) (S : SS) (H H' : Hp) : Addr → Prop := fun a => (H a = none ∨ ∃ i, i ∈ R ∧ S i a) ∧ H' a ≠ none ∧ some a ≠ g.pa
theorem Sr.fwd {g : Gm} {R R' : List Nat} {S : SS} {H H1 H2 : Hp} (hR : ∀ i, i ∈ R → i ∈ R') (f : Fr g H1 H2) {a : Addr} (h : Sr g R S H H1 a) : Sr g R' S H H2 a :=
  ⟨h.1.imp id fun ⟨i, m, s⟩ => ⟨i, hR i m, s⟩, fun q => h.2.1 (f.back h.2.2 q), h.2.2⟩
theorem Sr.aft {g : Gm} {R R' : List Nat} {S : SS} {H H1 H2 : Hp} (hR : ∀ i, i ∈ R → i ∈ R') (f : Fr g H H1) {a : Addr} (h : Sr g R S H1 H2 a) : Sr g R' S H H2 a :=
  ⟨h.1.imp (fun q => f.back h.2.2 q) fun ⟨i, m, s⟩ => ⟨i, hR i m, s⟩, h.2⟩

/-- what may be owned and changed in place: a list, a dict, a gauge -/
inductive Kx where
  | l (xs : List D) | d (x : Dc) | g (a C dx : Addr) (lim : Option (Int × Int)) (xs : List D)
def mkD : Kx → D
  | .l xs => .lst xs
  | .d x => .dct x
  | .g a C dx lim xs => .gag a C dx lim xs
def its : Kx → List D
  | .l xs => xs
  | .d _ => []
  | .g _ _ _ _ xs => xs
def mkO : Kx → List V → HO
  | .l _, vs => .lst vs
  | .d x, _ => dcO x
  | .g _ C dx lim _, vs => .ins C dx (gF lim vs)
instance (y : Kx) (vs : List V) : NT (mkO y vs) := ⟨fun _ z => by
  cases y with
  | l xs => cases z
  | d x => cases x <;> cases z
  | g a C dx lim xs => cases z⟩
instance (y : Kx) (vs : List V) : NX (mkO y vs) := ⟨fun _ z => (by
  cases y with
  | l xs => cases z
  | d x => cases x <;> cases z
  | g a C dx lim xs => cases z), fun _ z => (by
  cases y with
  | l xs => cases z
  | d x => cases x <;> cases z
  | g a C dx lim xs => cases z)⟩
theorem mkD_inj : ∀ {x y : Kx}, mkD x = mkD y → x = y
  | .l _, .l _, e => by cases e; rfl
  | .l _, .d _, e => by cases e
  | .d _, .l _, e => by cases e
  | .d _, .d _, e => by cases e; rfl
  | .l _, .g _ _ _ _ _, e => by cases e
  | .d _, .g _ _ _ _ _, e => by cases e
  | .g _ _ _ _ _, .l _, e => by cases e
  | .g _ _ _ _ _, .d _, e => by cases e
  | .g _ _ _ _ _, .g _ _ _ _ _, e => by cases e; rfl
theorem kx_lst {xs : List D} {y : Kx} (e : D.lst xs = mkD y) : y = .l xs := (mkD_inj (x := .l xs) e).symm
theorem kx_gag {a C dx : Addr} {lim : Option (Int × Int)} {xs : List D} {y : Kx} (e : D.gag a C dx lim xs = mkD y) : y = .g a C dx lim xs := (mkD_inj (x := .g a C dx lim xs) e).symm
theorem kx_dct {x : Dc} {y : Kx} (e : D.dct x = mkD y) : y = .d x := (mkD_inj (x := .d x) e).symm
/-- a list that was made since H: no other value leads to it, nor do its own items -/
def Fsh (g : Gm) (U : Addr → Prop) (H H' : Hp) (v : V) (d : D) : Prop := ∀ xs, d = mkD xs → ∃ l vs, ∃ T : Addr → Prop, v = .ref l ∧ H' l = some (mkO xs vs) ∧ H l = none ∧ RepL g T H' vs (its xs) ∧ ¬ T l ∧ ∀ a, T a → U a
structure Aft (g : Gm) (f : Bool) (R : List Nat) (S : SS) (H H' : Hp) (B c : Nat) (v : V) (d : D) : Prop where
  fr : Fr g H H'
  pb : PB g (B + c) H'
  rep : Rep g (Sr g R S H H') H' v d
  fsh : f = true → Fsh g (Sr g R S H H') H H' v d
structure AftL (g : Gm) (R : List Nat) (S : SS) (H H' : Hp) (B c : Nat) (vs : List V) (ds : List D) : Prop where
  fr : Fr g H H'
  pb : PB g (B + c) H'
  rep : RepL g (Sr g R S H H') H' vs ds

/-- an expression: m says which data it may give -/
def VE (g : Gm) (X : Cx) (e : Expr) (m : ME) (R : List Nat) (c : Nat) (f : Bool) : Prop := ∃ t, PE X e t ∧ ∀ (σ : L2.St) (H : Hp) (env : Env) (S : SS) (B : Nat) (Qd : D → Prop) (Q : VK),
  Rl g σ H env S → PB g B H → B + c ≤ Bmax → m env Qd → (∀ v H' d, Aft g f R S H H' B c v d → Qd d → Q v H') → t σ H Q
def VT (g : Gm) (X : Cx) (e : Expr) (m : MT) (c : Nat) : Prop := ∃ t, PT X e t ∧ ∀ (σ : L2.St) (H : Hp) (env : Env) (S : SS) (B : Nat) (Qd : Bool → Prop) (Q : Bool → Hp → Prop),
  Rl g σ H env S → PB g B H → B + c ≤ Bmax → m env Qd → (∀ b H', Fr g H H' → PB g (B + c) H' → Qd b → Q b H') → t σ H Q
def VW (g : Gm) (X : Cx) (e : Expr) (m : MT) (c : Nat) : Prop := ∃ t, PW X e t ∧ ∀ (σ : L2.St) (H : Hp) (env : Env) (S : SS) (B : Nat) (Qd : Bool → Prop) (Q : Bool → Hp → Prop),
  Rl g σ H env S → PB g B H → B + c ≤ Bmax → m env Qd → (∀ b H', Fr g H H' → PB g (B + c) H' → Qd b → Q b H') → t σ H Q
def VA (g : Gm) (X : Cx) (es : List Expr) (m : MA) (R : List Nat) (c : Nat) : Prop := ∃ t, PA X es t ∧ ∀ (σ : L2.St) (H : Hp) (env : Env) (S : SS) (B : Nat) (Qd : List D → Prop) (Q : List V → Hp → Prop),
  Rl g σ H env S → PB g B H → B + c ≤ Bmax → m env Qd → (∀ vs H' ds, AftL g R S H H' B c vs ds → Qd ds → Q vs H') → t σ H Q

/-! ### names, constants -/
def mVar (i : Nat) : ME := fun env Q => match env[i]? with
  | some (some d) => Q d
  | _ => False
def mC (d : D) : ME := fun _ Q => Q d
section
variable {g : Gm} {f fa fb : Bool} {X : Cx} {a b e : Expr} {es : List Expr} {ma mb m : ME} {R Ra Rb : List Nat} {c ca cb : Nat} {pos : Pos}
theorem ve_var (i : Nat) {x : Str} (h : PE X (.Name x pos) (tVar i)) : VE g X (.Name x pos) (mVar i) [i] 0 false := by
  refine ⟨_, h, fun σ H env S B Qd Q r pb _ hm k => ?_⟩
  unfold mVar at hm
  split at hm
  · rename_i d e
    obtain ⟨v, h1, h2⟩ := r.rep i d e
    refine ⟨v, h1, k v H d ⟨Fr.refl, pb, ?_, fun q => nomatch q⟩ hm⟩
    exact h2.mono fun a s => ⟨.inr ⟨i, by simp, s⟩, r.dom i a s⟩
  · exact hm.elim
theorem ve_c {v : V} {d : D} (h : PE X e (tC v)) (hd : ∀ S H, Rep g S H v d) : VE g X e (mC d) [] 0 false :=
  ⟨_, h, fun σ H env S B Qd Q r pb _ hm k => k v H d ⟨Fr.refl, pb, hd _ _, fun q => nomatch q⟩ hm⟩
theorem ve_int {i : Int} {j} : VE g X (.Constant (.int i) j pos) (mC (.int i)) [] 0 false := ve_c pe_int fun _ _ => .int i
theorem ve_bl {i : Bool} {j} : VE g X (.Constant (.bool i) j pos) (mC (.bl i)) [] 0 false := ve_c pe_bl fun _ _ => .bl i
theorem ve_non {j} : VE g X (.Constant .none j pos) (mC .non) [] 0 false := ve_c pe_non fun _ _ => .non
theorem ve_str {x : Str} {j} : VE g X (.Constant (.str x) j pos) (mC (.str x)) [] 0 false := ve_c pe_str fun _ _ => .str x
theorem VE.cost (h : VE g X e m R c f) {c' : Nat} (l : c ≤ c') : VE g X e m R c' f := by
  obtain ⟨t, p, k⟩ := h
  exact ⟨t, p, fun σ H env S B Qd Q r pb hb hm q => k σ H env S B Qd Q r pb (by omega) hm fun v H' d A z => q v H' d ⟨A.fr, A.pb.mono (by omega), A.rep, A.fsh⟩ z⟩
theorem VE.any (h : VE g X e m R c f) : VE g X e m R c false := by
  obtain ⟨t, p, k⟩ := h
  exact ⟨t, p, fun σ H env S B Qd Q r pb hb hm q => k σ H env S B Qd Q r pb hb hm fun v H' d A z => q v H' d ⟨A.fr, A.pb, A.rep, fun q => nomatch q⟩ z⟩

/-! ### operations on two values, on one, on a list of values -/
/-- r does on values what o does on data; new objects may be made -/
def Res (g : Gm) (S : Addr → Prop) (H H' : Hp) (a : Addr) : Prop := (H a = none ∨ S a) ∧ H' a ≠ none ∧ some a ≠ g.pa
def Sim2 (g : Gm) (f : Bool) (r : R2) (o : D → D → (D → Prop) → Prop) : Prop := ∀ (S : Addr → Prop) (H : Hp) (B : Nat) (x y : V) (dx dy : D) (Qd : D → Prop) (Q : VK), (∀ a, S a → H a ≠ none ∧ some a ≠ g.pa) → PB g B H → Rep g S H x dx → Rep g S H y dy →
  o dx dy Qd → (∀ v H' d, Same H H' → Rep g (Res g S H H') H' v d → (f = true → Fsh g (Res g S H H') H H' v d) → Qd d → Q v H') → r x y H Q
def Sim1 (g : Gm) (f : Bool) (r : V → Hp → VK → Prop) (o : D → (D → Prop) → Prop) : Prop := ∀ (S : Addr → Prop) (H : Hp) (B : Nat) (x : V) (dx : D) (Qd : D → Prop) (Q : VK), (∀ a, S a → H a ≠ none ∧ some a ≠ g.pa) → PB g B H → Rep g S H x dx →
  o dx Qd → (∀ v H' d, Same H H' → Rep g (Res g S H H') H' v d → (f = true → Fsh g (Res g S H H') H H' v d) → Qd d → Q v H') → r x H Q
def SimA (g : Gm) (f : Bool) (r : List V → Hp → VK → Prop) (o : List D → (D → Prop) → Prop) : Prop := ∀ (S : Addr → Prop) (H : Hp) (B : Nat) (xs : List V) (ds : List D) (Qd : D → Prop) (Q : VK), (∀ a, S a → H a ≠ none ∧ some a ≠ g.pa) → PB g B H → RepL g S H xs ds →
  o ds Qd → (∀ v H' d, Same H H' → Rep g (Res g S H H') H' v d → (f = true → Fsh g (Res g S H H') H H' v d) → Qd d → Q v H') → r xs H Q
def m2 (o : D → D → (D → Prop) → Prop) (ma mb : ME) : ME := fun env Q => ma env fun x => mb env fun y => o x y Q
def m1 (o : D → (D → Prop) → Prop) (ma : ME) : ME := fun env Q => ma env fun x => o x Q
def mCall (o : List D → (D → Prop) → Prop) (ma : MA) : ME := fun env Q => ma env fun ds => o ds Q

theorem fsh_up {U U' : Addr → Prop} {H H1 H' : Hp} {B : Nat} {v : V} {d : D} (hb : ∀ a, some a ≠ g.pa → H1 a = none → H a = none) (pb : PB g B H1) (hU : ∀ a, U a → U' a) (h : Fsh g U H1 H' v d) : Fsh g U' H H' v d := fun xs e => by
  obtain ⟨l, vs, T, h1, h2, h3, h4, h5, h6⟩ := h xs e
  exact ⟨l, vs, T, h1, h2, hb l (pb.not h3) h3, h4, h5, fun a t => hU a (h6 a t)⟩
theorem two_ok {r : R2} {o : D → D → (D → Prop) → Prop} {ta tb : TE} (hs : Sim2 g f r o)
    (ka : ∀ (σ : L2.St) (H : Hp) (env : Env) (S : SS) (B : Nat) (Qd : D → Prop) (Q : VK), Rl g σ H env S → PB g B H → B + ca ≤ Bmax → ma env Qd → (∀ v H' d, Aft g fa Ra S H H' B ca v d → Qd d → Q v H') → ta σ H Q)
    (kb : ∀ (σ : L2.St) (H : Hp) (env : Env) (S : SS) (B : Nat) (Qd : D → Prop) (Q : VK), Rl g σ H env S → PB g B H → B + cb ≤ Bmax → mb env Qd → (∀ v H' d, Aft g fb Rb S H H' B cb v d → Qd d → Q v H') → tb σ H Q) :
    ∀ (σ : L2.St) (H : Hp) (env : Env) (S : SS) (B : Nat) (Qd : D → Prop) (Q : VK), Rl g σ H env S → PB g B H → B + (ca + cb) ≤ Bmax → m2 o ma mb env Qd → (∀ v H' d, Aft g f (Ra ++ Rb) S H H' B (ca + cb) v d → Qd d → Q v H') → tOp r ta tb σ H Q := by
  intro σ H env S B Qd Q rl pb hb hm k
  refine ka σ H env S B _ _ rl pb (by omega) hm fun x H1 dx A1 hm1 => ?_
  refine kb σ H1 env S (B + ca) _ _ (rl.fr A1.fr) A1.pb (by omega) hm1 fun y H2 dy A2 hm2 => ?_
  have F2 := A1.fr.trans A2.fr
  refine hs (Sr g (Ra ++ Rb) S H H2) H2 (B + ca + cb) x y dx dy Qd Q (fun a s => s.2) A2.pb ?_ ?_ hm2 fun v H3 d sm rp fs q => ?_
  · exact A1.rep.goN fun a o s e => ⟨s.fwd (fun i h => List.mem_append_left _ h) A2.fr, A2.fr a o s.2.2 e⟩
  · exact A2.rep.mono fun a s => s.aft (fun i h => List.mem_append_right _ h) A1.fr
  · have F3 := F2.trans (Fr.of sm)
    have up : ∀ a, Res g (Sr g (Ra ++ Rb) S H H2) H2 H3 a → Sr g (Ra ++ Rb) S H H3 a := fun a s => ⟨s.1.elim (fun n => .inl (F2.back s.2.2 n)) fun s1 => s1.1, s.2⟩
    exact k v H3 d ⟨F3, (A2.pb.same sm).mono (by omega), rp.mono up, fun z => fsh_up (fun a n e => F2.back n e) A2.pb up (fs z)⟩ q
theorem ve_op2 {op : Operator} {r : R2} {o : D → D → (D → Prop) → Prop} (ho : OpR X (binaryOp op) r) (hs : Sim2 g f r o) (ha : VE g X a ma Ra ca fa) (hb : VE g X b mb Rb cb fb) : VE g X (.BinOp a op b pos) (m2 o ma mb) (Ra ++ Rb) (ca + cb) f := by
  obtain ⟨ta, pa, ka⟩ := ha
  obtain ⟨tb, pb, kb⟩ := hb
  exact ⟨_, pe_op ho pa pb, two_ok hs ka kb⟩
theorem ve_cmp {op : CmpOp} {r : R2} {o : D → D → (D → Prop) → Prop} (ho : OpR X (compareOp op) r) (hs : Sim2 g f r o) (ha : VE g X a ma Ra ca fa) (hb : VE g X b mb Rb cb fb) (hm : behindInMarks op b = false) : VE g X (.Compare a [op] [b] pos) (m2 o ma mb) (Ra ++ Rb) (ca + cb) f := by
  obtain ⟨ta, pa, ka⟩ := ha
  obtain ⟨tb, pb, kb⟩ := hb
  exact ⟨_, pe_cmpR ho pa pb hm, two_ok hs ka kb⟩
theorem ve_ix {r : R2} {o : D → D → (D → Prop) → Prop} (ho : IxR X r) (hs : Sim2 g f r o) (ha : VE g X a ma Ra ca fa) (hb : VE g X b mb Rb cb fb) (hp : PlainIx b) : VE g X (.Subscript a b pos) (m2 o ma mb) (Ra ++ Rb) (ca + cb) f := by
  obtain ⟨ta, pa, ka⟩ := ha
  obtain ⟨tb, pb, kb⟩ := hb
  exact ⟨_, pe_ix ho pa pb hp, two_ok hs ka kb⟩
theorem ve_un {op : UnaryOp} {r : V → Hp → VK → Prop} {o : D → (D → Prop) → Prop} (ho : UnR X (unaryOp op) r) (hs : Sim1 g f r o) (hn : ∀ {t : TE}, PE X a t → PE X (.UnaryOp op a pos) (tUn r t)) (ha : VE g X a ma Ra ca fa) : VE g X (.UnaryOp op a pos) (m1 o ma) Ra ca f := by
  obtain ⟨ta, pa, ka⟩ := ha
  refine ⟨_, hn pa, fun σ H env S B Qd Q rl pb hb hm k => ?_⟩
  refine ka σ H env S B _ _ rl pb hb hm fun x H1 dx A1 hm1 => ?_
  refine hs (Sr g Ra S H H1) H1 (B + ca) x dx Qd Q (fun a s => s.2) A1.pb A1.rep hm1 fun v H3 d sm rp fs q => ?_
  have up : ∀ a, Res g (Sr g Ra S H H1) H1 H3 a → Sr g Ra S H H3 a := fun a s => ⟨s.1.elim (fun n => .inl (A1.fr.back s.2.2 n)) fun s1 => s1.1, s.2⟩
  exact k v H3 d ⟨A1.fr.trans (Fr.of sm), A1.pb.same sm, rp.mono up, fun z => fsh_up (fun a n e => A1.fr.back n e) A1.pb up (fs z)⟩ q

/-! ### lists of arguments, displays, calls by values -/
def mNil : MA := fun _ Q => Q []
def mCons (ma : ME) (mr : MA) : MA := fun env Q => ma env fun d => mr env fun ds => Q (d :: ds)
theorem va_nil : VA g X [] mNil [] 0 := ⟨_, pa_nil, fun σ H env S B Qd Q rl pb hb hm k => k [] H [] ⟨Fr.refl, pb, .nil⟩ hm⟩
theorem va_cons {mr : MA} (ha : VE g X e ma Ra ca fa) (hr : VA g X es mr Rb cb) (hs : starEach (e :: es) X.env = (false, eval e X.env) :: starEach es X.env := by rfl) : VA g X (e :: es) (mCons ma mr) (Ra ++ Rb) (ca + cb) := by
  obtain ⟨ta, pa, ka⟩ := ha
  obtain ⟨tb, pb, kb⟩ := hr
  refine ⟨_, pa_cons pa pb hs, fun σ H env S B Qd Q rl pb hb hm k => ?_⟩
  refine ka σ H env S B _ _ rl pb (by omega) hm fun x H1 dx A1 hm1 => ?_
  refine kb σ H1 env S (B + ca) _ _ (rl.fr A1.fr) A1.pb (by omega) hm1 fun ys H2 dys A2 hm2 => ?_
  refine k (x :: ys) H2 (dx :: dys) ⟨A1.fr.trans A2.fr, A2.pb.mono (by omega), .cons ?_ ?_⟩ hm2
  · exact A1.rep.goN fun a o s e => ⟨s.fwd (fun i h => List.mem_append_left _ h) A2.fr, A2.fr a o s.2.2 e⟩
  · exact A2.rep.mono fun a s => s.aft (fun i h => List.mem_append_right _ h) A1.fr
/-- a list of values handed to r -/
theorem args_ok {r : List V → Hp → VK → Prop} {o : List D → (D → Prop) → Prop} {ta : TA} {ma : MA} (hs : SimA g f r o)
    (ka : ∀ (σ : L2.St) (H : Hp) (env : Env) (S : SS) (B : Nat) (Qd : List D → Prop) (Q : List V → Hp → Prop), Rl g σ H env S → PB g B H → B + ca ≤ Bmax → ma env Qd → (∀ vs H' ds, AftL g Ra S H H' B ca vs ds → Qd ds → Q vs H') → ta σ H Q) :
    ∀ (σ : L2.St) (H : Hp) (env : Env) (S : SS) (B : Nat) (Qd : D → Prop) (Q : VK), Rl g σ H env S → PB g B H → B + ca ≤ Bmax → mCall o ma env Qd → (∀ v H' d, Aft g f Ra S H H' B ca v d → Qd d → Q v H') → tCB r ta σ H Q := by
  intro σ H env S B Qd Q rl pb hb hm k
  refine ka σ H env S B _ _ rl pb hb hm fun xs H1 dxs A1 hm1 => ?_
  refine hs (Sr g Ra S H H1) H1 (B + ca) xs dxs Qd Q (fun a s => s.2) A1.pb A1.rep hm1 fun v H3 d sm rp fs q => ?_
  have up : ∀ a, Res g (Sr g Ra S H H1) H1 H3 a → Sr g Ra S H H3 a := fun a s => ⟨s.1.elim (fun n => .inl (A1.fr.back s.2.2 n)) fun s1 => s1.1, s.2⟩
  exact k v H3 d ⟨A1.fr.trans (Fr.of sm), A1.pb.same sm, rp.mono up, fun z => fsh_up (fun a n e => A1.fr.back n e) A1.pb up (fs z)⟩ q
def oTup : List D → (D → Prop) → Prop := fun ds Q => ds.length ≤ 100000 ∧ Q (.tup ds)
def oLst : List D → (D → Prop) → Prop := fun ds Q => ds.length ≤ 100000 ∧ Q (.lst ds)
theorem line_of {n : Nat} (h : n ≤ 100000) : n ≤ sizeLine := Nat.le_trans h (by decide)
/-- a new object at p -/
theorem res_new {S : Addr → Prop} {H : Hp} {B : Nat} {p : Addr} {o : HO} (pb : PB g B H) (hd : ∀ a, S a → H a ≠ none ∧ some a ≠ g.pa) (hp : H p = none) : Res g S H (upd H p o) p ∧ ∀ a u, S a → H a = some u → Res g S H (upd H p o) a ∧ upd H p o a = some u := by
  refine ⟨⟨.inl hp, ?_, pb.not hp⟩, fun a u s e => ?_⟩
  · rw [upd_same]
    exact fun q => nomatch q
  · have e2 : upd H p o a = some u := by
      rw [upd_ne (ne_of_none e hp)]
      exact e
    refine ⟨⟨.inr s, ?_, (hd a s).2⟩, e2⟩
    rw [e2]
    exact fun q => nomatch q
theorem same_new {H : Hp} {p : Addr} {o : HO} (hp : H p = none) : Same H (upd H p o) := fun b u e => by
  rw [upd_ne (ne_of_none e hp)]
  exact e
/-- .. a new list is fresh -/
theorem fsh_new {S : Addr → Prop} {H : Hp} {B : Nat} {p : Addr} {xs : List V} {ds : List D} (pb : PB g B H) (hd : ∀ a, S a → H a ≠ none ∧ some a ≠ g.pa) (hp : H p = none) (r : RepL g S H xs ds) : Fsh g (Res g S H (upd H p (.lst xs))) H (upd H p (.lst xs)) (.ref p) (.lst ds) := fun ys e => by
  obtain rfl := kx_lst e
  have z := res_new (o := .lst xs) pb hd hp
  refine ⟨p, xs, S, rfl, upd_same, hp, r.goN fun a u s e => ⟨s, (z.2 a u s e).2⟩, fun s => (hd p s).1 hp, fun a s => ?_⟩
  cases e : H a with
  | none => exact absurd e (hd a s).1
  | some u => exact (z.2 a u s e).1
theorem sim_tup : SimA g true (fun xs H Q => xs.length ≤ sizeLine ∧ ∀ p, H p = none → Q (.ref p) (upd H p (.tup xs))) oTup := by
  intro S H B xs ds Qd Q hd pb r hm k
  refine ⟨by rw [r.length]; exact line_of hm.1, fun p hp => ?_⟩
  have z := res_new (o := .tup xs) pb hd hp
  exact k _ _ _ (same_new hp) (.tup z.1 upd_same (r.go z.2)) (fun _ ys e => (by cases ys <;> cases e)) hm.2
theorem sim_lst : SimA g true (fun xs H Q => xs.length ≤ sizeLine ∧ ∀ p, H p = none → Q (.ref p) (upd H p (.lst xs))) oLst := by
  intro S H B xs ds Qd Q hd pb r hm k
  refine ⟨by rw [r.length]; exact line_of hm.1, fun p hp => ?_⟩
  have z := res_new (o := .lst xs) pb hd hp
  exact k _ _ _ (same_new hp) (.lst z.1 upd_same (r.go z.2)) (fun _ => fsh_new pb hd hp r) hm.2
theorem ve_tup {ma : MA} {x1} (h : VA g X es ma Ra ca) : VE g X (.Tuple es x1 pos) (mCall oTup ma) Ra ca true := by
  obtain ⟨ta, pa, ka⟩ := h
  exact ⟨_, pe_tup pa, args_ok sim_tup ka⟩
theorem ve_lst {ma : MA} (h : VA g X es ma Ra ca) : VE g X (.List es pos) (mCall oLst ma) Ra ca true := by
  obtain ⟨ta, pa, ka⟩ := h
  exact ⟨_, pe_lst pa, args_ok sim_lst ka⟩
end
end VL

set_option Elab.async false
set_option linter.all false
set_option maxRecDepth 100000
set_option maxHeartbeats 4000000
/-! VL, part b: operators, comparisons, built-ins over plain data. -/
namespace VL
open PySem PySem.Spec PyProof.Rows L2

/-! ### plain data as the library's own -/
mutual
def py : D → PyData
  | .non => .none
  | .bl b => .bool b
  | .int i => .int i
  | .str x => .str x
  | .lst xs => .list (pyAll xs)
  | .tup xs => .tuple (pyAll xs)
  | .ndl _ _ _ => .none
  | .pool => .none
  | .opq _ => .none
  | .err _ _ _ => .none
  | .chn _ => .none
  | .fnc _ => .none
  | .exo _ _ _ => .none
  | .dct _ => .none
  | .exv _ _ _ _ => .none
  | .gag _ _ _ _ _ => .none
def pyAll : List D → List PyData
  | [] => []
  | x :: xs => py x :: pyAll xs
end
mutual
/-- no object within, the depth at most n, the texts' signs are signs -/
def pl : Nat → D → Bool
  | _, .non => true
  | _, .bl _ => true
  | _, .int _ => true
  | _, .str x => PyData.strOk x
  | n, .lst xs => match n with
    | 0 => false
    | k + 1 => plAll k xs
  | n, .tup xs => match n with
    | 0 => false
    | k + 1 => plAll k xs
  | _, .ndl _ _ _ => false
  | _, .pool => false
  | _, .opq _ => false
  | _, .err _ _ _ => false
  | _, .chn _ => false
  | _, .fnc _ => false
  | _, .exo _ _ _ => false
  | _, .dct _ => false
  | _, .exv _ _ _ _ => false
  | _, .gag _ _ _ _ _ => false
def plAll : Nat → List D → Bool
  | _, [] => true
  | n, x :: xs => pl n x && plAll n xs
end
mutual
def sm : D → Prop
  | .int i => i.natAbs < 10 ^ 200
  | .lst xs => smAll xs
  | .tup xs => smAll xs
  | _ => True
def smAll : List D → Prop
  | [] => True
  | x :: xs => sm x ∧ smAll xs
end
mutual
def sz : D → Nat
  | .str x => x.length
  | .lst xs => szAll xs
  | .tup xs => szAll xs
  | _ => 0
def szAll : List D → Nat
  | [] => 0
  | x :: xs => sz x + 1 + szAll xs
end

section
variable {g : Gm} {S : Addr → Prop} {H : Hp} {K : PySem.W.Frag}
mutual
theorem dp_of : ∀ {n : Nat} {d : D} {v : V}, Rep g S H v d → pl n d = true → Dp K H v (py d)
  | _, .non, _, h, _ => by cases h; simp only [py]; exact .non
  | _, .bl _, _, h, _ => by cases h; simp only [py]; exact .bl _
  | _, .int _, _, h, _ => by cases h; simp only [py]; exact .int _
  | _, .str _, _, h, _ => by cases h; simp only [py]; exact .str _
  | 0, .lst ds, _, h, p => by simp [pl] at p
  | n + 1, .lst ds, _, h, p => by
    simp only [pl] at p
    simp only [py]
    cases h with
    | lst s e r => exact .lst (SqL.of e) (dpAll_of r p)
  | 0, .tup ds, _, h, p => by simp [pl] at p
  | n + 1, .tup ds, _, h, p => by
    simp only [pl] at p
    simp only [py]
    cases h with
    | tup s e r => exact .tup (SqT.of e) (dpAll_of r p)
  | _, .ndl _ _ _, _, h, p => by simp [pl] at p
  | _, .pool, _, h, p => by simp [pl] at p
  | _, .opq _, _, h, p => by simp [pl] at p
  | _, .err _ _ _, _, h, p => by simp [pl] at p
  | _, .chn _, _, h, p => by simp [pl] at p
  | _, .fnc _, _, h, p => by simp [pl] at p
  | _, .exo _ _ _, _, h, p => by simp [pl] at p
  | _, .dct _, _, h, p => by simp [pl] at p
  | _, .exv _ _ _ _, _, h, p => by simp [pl] at p
  | _, .gag _ _ _ _ _, _, h, p => by simp [pl] at p
theorem dpAll_of : ∀ {n : Nat} {ds : List D} {vs : List V}, RepL g S H vs ds → plAll n ds = true → DpAll K H vs (pyAll ds)
  | _, [], _, h, _ => by cases h; simp only [pyAll]; exact .nil
  | n, d :: ds, _, h, p => by
    simp only [plAll, Bool.and_eq_true] at p
    simp only [pyAll]
    cases h with
    | cons a b => exact .cons (dp_of a p.1) (dpAll_of b p.2)
end
end
mutual
theorem canLay_py : ∀ (n : Nat) (d : D), pl n d = true → (py d).canLay0 = true ∧ (py d).depth ≤ n
  | _, .non, _ => by simp [py, PyData.canLay0, PyData.depth]
  | _, .bl _, _ => by simp [py, PyData.canLay0, PyData.depth]
  | _, .int _, _ => by simp [py, PyData.canLay0, PyData.depth]
  | _, .str x, p => by simpa [py, PyData.canLay0, PyData.depth, pl] using p
  | 0, .lst ds, p => by simp [pl] at p
  | n + 1, .lst ds, p => by
    simp only [pl] at p
    have h := canLay_pyAll n ds p
    simp only [py, PyData.canLay0, PyData.depth]
    exact ⟨h.1, by omega⟩
  | 0, .tup ds, p => by simp [pl] at p
  | n + 1, .tup ds, p => by
    simp only [pl] at p
    have h := canLay_pyAll n ds p
    simp only [py, PyData.canLay0, PyData.depth]
    exact ⟨h.1, by omega⟩
  | _, .ndl _ _ _, p => by simp [pl] at p
  | _, .pool, p => by simp [pl] at p
  | _, .opq _, p => by simp [pl] at p
  | _, .err _ _ _, p => by simp [pl] at p
  | _, .chn _, p => by simp [pl] at p
  | _, .fnc _, p => by simp [pl] at p
  | _, .exo _ _ _, p => by simp [pl] at p
  | _, .dct _, p => by simp [pl] at p
  | _, .exv _ _ _ _, p => by simp [pl] at p
  | _, .gag _ _ _ _ _, p => by simp [pl] at p
theorem canLay_pyAll : ∀ (n : Nat) (ds : List D), plAll n ds = true → PyData.canLayAll0 (pyAll ds) = true ∧ PyData.depthAll (pyAll ds) ≤ n
  | _, [], _ => by simp [pyAll, PyData.canLayAll0, PyData.depthAll]
  | n, d :: ds, p => by
    simp only [plAll, Bool.and_eq_true] at p
    have h1 := canLay_py n d p.1
    have h2 := canLay_pyAll n ds p.2
    simp only [pyAll, PyData.canLayAll0, PyData.depthAll, Bool.and_eq_true]
    exact ⟨⟨h1.1, h2.1⟩, by omega⟩
end
theorem shaped_py {n : Nat} {d : D} (hn : n ≤ 64) (p : pl n d = true) : SeqAt.shaped (py d) = true := by
  have h := canLay_py n d p
  unfold SeqAt.shaped
  rw [h.1, Bool.true_and]
  exact decide_eq_true (by omega)
theorem log2_lt {n k : Nat} (h : n < 2 ^ k) (hk : 0 < k) : n.log2 < k := by
  by_cases z : n = 0
  · subst z
    simpa using hk
  · exact (Nat.log2_lt z).mpr h
theorem int_sm {i : Int} (h : i.natAbs < 10 ^ 200) : i.natAbs.log2 < 1920 ∧ (PyData.shown (.int i)).length ≤ 201 := by
  constructor
  · refine Nat.lt_of_lt_of_le (log2_lt (k := 700) (Nat.lt_of_lt_of_le h (by decide +kernel)) (by decide)) (by decide)
  · have e := int_text_length_le10 (k := 200) (by decide) h
    show (Str.ofString (toString i)).length ≤ 201
    rw [PySem.ofString_length]
    exact e
mutual
theorem show_py : ∀ (n : Nat) (d : D), pl n d = true → sm d → (py d).showable = true ∧ (py d).leavesShort 201 = true ∧ (py d).bulk ≤ sz d
  | _, .non, _, _ => by simp [py, PyData.showable, PyData.leavesShort, PyData.bulk]
  | _, .bl _, _, _ => by simp [py, PyData.showable, PyData.leavesShort, PyData.bulk]
  | _, .int i, _, h => by
    simp only [sm] at h
    have q := int_sm h
    simp only [py, PyData.showable, PyData.leavesShort, PyData.bulk, decide_eq_true_eq]
    exact ⟨q.1, q.2, Nat.zero_le _⟩
  | _, .str x, p, _ => by
    simp only [pl, PyData.strOk] at p
    simp only [py, PyData.showable, PyData.leavesShort, PyData.bulk, sz]
    refine ⟨trivial, ?_, Nat.le_refl _⟩
    rw [List.all_eq_true]
    intro c hc
    rw [← Array.all_toList, List.all_eq_true] at p
    have z := p c hc
    simp only [decide_eq_true_eq] at z ⊢
    exact Nat.lt_of_lt_of_le z (by decide)
  | 0, .lst ds, p, _ => by simp [pl] at p
  | n + 1, .lst ds, p, h => by
    simp only [pl] at p
    simp only [sm] at h
    have q := show_pyAll n ds p h
    simp only [py, PyData.showable, PyData.leavesShort, PyData.bulk, sz]
    exact q
  | 0, .tup ds, p, _ => by simp [pl] at p
  | n + 1, .tup ds, p, h => by
    simp only [pl] at p
    simp only [sm] at h
    have q := show_pyAll n ds p h
    simp only [py, PyData.showable, PyData.leavesShort, PyData.bulk, sz]
    exact q
  | _, .ndl _ _ _, p, _ => by simp [pl] at p
  | _, .pool, p, _ => by simp [pl] at p
  | _, .opq _, p, _ => by simp [pl] at p
  | _, .err _ _ _, p, _ => by simp [pl] at p
  | _, .chn _, p, _ => by simp [pl] at p
  | _, .fnc _, p, _ => by simp [pl] at p
  | _, .exo _ _ _, p, _ => by simp [pl] at p
  | _, .dct _, p, _ => by simp [pl] at p
  | _, .exv _ _ _ _, p, _ => by simp [pl] at p
  | _, .gag _ _ _ _ _, p, _ => by simp [pl] at p
theorem show_pyAll : ∀ (n : Nat) (ds : List D), plAll n ds = true → smAll ds → PyData.showableAll (pyAll ds) = true ∧ PyData.leavesShortAll 201 (pyAll ds) = true ∧ PyData.bulkAll (pyAll ds) ≤ szAll ds
  | _, [], _, _ => by simp [pyAll, PyData.showableAll, PyData.leavesShortAll, PyData.bulkAll]
  | n, d :: ds, p, h => by
    simp only [plAll, Bool.and_eq_true] at p
    simp only [smAll] at h
    have h1 := show_py n d p.1 h.1
    have h2 := show_pyAll n ds p.2 h.2
    simp only [pyAll, PyData.showableAll, PyData.leavesShortAll, PyData.bulkAll, szAll, Bool.and_eq_true]
    exact ⟨⟨h1.1, h2.1⟩, ⟨h1.2.1, h2.2.1⟩, by omega⟩
end
/-- repr can be asked -/
def RepOk (d : D) : Prop := pl 40 d = true ∧ sm d ∧ sz d ≤ 20000
theorem RepOk.fits {d : D} (h : RepOk d) : (py d).showable = true ∧ (py d).hasDict = false ∧ (py d).depth ≤ 40 ∧ (py d).shown.length ≤ sizeLine := by
  have a := canLay_py 40 d h.1
  have b := show_py 40 d h.1 h.2.1
  have c := PyData.shown_le_bulk 201 (by decide) _ b.2.1
  refine ⟨b.1, PyData.hasDict_of_canLay _ a.1, a.2, ?_⟩
  have e : (201 + 2) * (py d).bulk ≤ 203 * 20000 := Nat.mul_le_mul_left 203 (Nat.le_trans b.2.2 h.2.2)
  rw [sizeLine_eq]
  omega

/-! ### either of two rules -/
theorem op_or2 {X : Cx} {f : Value → Value → Sem Value} {r r' : R2} (h : OpR X f r) (h' : OpR X f r') : OpR X f (fun x y H Q => r x y H Q ∨ r' x y H Q) :=
  fun pins s σ H x y v u Q I rx ry z => z.elim (h pins s σ H x y v u Q I rx ry) (h' pins s σ H x y v u Q I rx ry)
theorem un_or2 {X : Cx} {f : Value → Sem Value} {r r' : V → Hp → VK → Prop} (h : UnR X f r) (h' : UnR X f r') : UnR X f (fun x H Q => r x H Q ∨ r' x H Q) :=
  fun pins s σ H x v Q I rx z => z.elim (h pins s σ H x v Q I rx) (h' pins s σ H x v Q I rx)
theorem call_or2 {X : Cx} {f : Value} {r r' : List V → Hp → VK → Prop} (h : CallR X f r) (h' : CallR X f r') : CallR X f (fun x H Q => r x H Q ∨ r' x H Q) :=
  fun pins s σ H x v Q I rx z => z.elim (h pins s σ H x v Q I rx) (h' pins s σ H x v Q I rx)

/-! ### arithmetic -/
def oAdd : D → D → (D → Prop) → Prop
  | .int i, .int j, Q => Q (.int (i + j))
  | .lst xs, .lst ys, Q => xs.length + ys.length ≤ 100000 ∧ Q (.lst (xs ++ ys))
  | .str x, .str y, Q => x.length + y.length ≤ 100000 ∧ Q (.str (x ++ y))
  | _, _, _ => False
def oSub : D → D → (D → Prop) → Prop
  | .int i, .int j, Q => Q (.int (i - j))
  | _, _, _ => False
def MOk (i j : Int) : Prop := CMul i j ∨ CMulW i j
def oMul : D → D → (D → Prop) → Prop
  | .int i, .int j, Q => MOk i j ∧ Q (.int (i * j))
  | .lst xs, .int k, Q => (-(2 ^ 63) ≤ k ∧ k < 2 ^ 63 ∧ xs.length * k.toNat ≤ 100000) ∧ Q (.lst (List.replicate k.toNat xs).flatten)
  | _, _, _ => False
def DOk (j : Int) : Prop := 0 < j ∧ j.natAbs.log2 < 9000
def oDiv : D → D → (D → Prop) → Prop
  | .int i, .int j, Q => DOk j ∧ Q (.int (i / j))
  | _, _, _ => False
def oMod : D → D → (D → Prop) → Prop
  | .int i, .int j, Q => 0 < j ∧ Q (.int (i % j))
  | _, _, _ => False
def POk (i j : Int) : Prop := 0 ≤ j ∧ (Builtin.Int.intBits i : Int) * j ≤ 2 ^ 27
def oPow : D → D → (D → Prop) → Prop
  | .int i, .int j, Q => POk i j ∧ Q (.int (i ^ j.toNat))
  | _, _, _ => False
def oNeg : D → (D → Prop) → Prop
  | .int i, Q => Q (.int (-i))
  | _, _ => False
theorem op_powW {X : Cx} : OpR X (binaryOp .Pow) (rI POk fun i j => .int (i ^ j.toNat)) := opI fun _ _ _ _ _ _ _ hc q => pow_int hc.1 hc.2 q
section
variable {g : Gm}
/-- a new list is handed on -/
theorem give_lst {S : Addr → Prop} {H : Hp} {B : Nat} {p : Addr} {xs : List V} {ds : List D} {Qd : D → Prop} {Q : VK} {f : Bool} (pb : PB g B H) (hd : ∀ a, S a → H a ≠ none ∧ some a ≠ g.pa) (hp : H p = none) (r : RepL g S H xs ds)
    (k : ∀ v H' d, Same H H' → Rep g (Res g S H H') H' v d → (f = true → Fsh g (Res g S H H') H H' v d) → Qd d → Q v H') (q : Qd (.lst ds)) : Q (.ref p) (upd H p (.lst xs)) := by
  have z := res_new (o := .lst xs) pb hd hp
  exact k _ _ _ (same_new hp) (.lst z.1 upd_same (r.go z.2)) (fun _ => fsh_new pb hd hp r) q
theorem give_tup {S : Addr → Prop} {H : Hp} {B : Nat} {p : Addr} {xs : List V} {ds : List D} {Qd : D → Prop} {Q : VK} {f : Bool} (pb : PB g B H) (hd : ∀ a, S a → H a ≠ none ∧ some a ≠ g.pa) (hp : H p = none) (r : RepL g S H xs ds)
    (k : ∀ v H' d, Same H H' → Rep g (Res g S H H') H' v d → (f = true → Fsh g (Res g S H H') H H' v d) → Qd d → Q v H') (q : Qd (.tup ds)) : Q (.ref p) (upd H p (.tup xs)) := by
  have z := res_new (o := .tup xs) pb hd hp
  exact k _ _ _ (same_new hp) (.tup z.1 upd_same (r.go z.2)) (fun _ ys e => (by cases ys <;> cases e)) q
/-- the value is scalar, the heap stays -/
theorem sim_i {f : Bool} {r : R2} {o : D → D → (D → Prop) → Prop} (h : ∀ (H : Hp) (x y : V) (dx dy : D) (S : Addr → Prop) (Qd : D → Prop) (Q : VK), Rep g S H x dx → Rep g S H y dy → o dx dy Qd → (∀ v d, (∀ S', Rep g S' H v d) → Qd d → (∀ xs, d ≠ mkD xs) → Q v H) → r x y H Q) : Sim2 g f r o := by
  intro S H B x y dx dy Qd Q hd pb rx ry hm k
  exact h H x y dx dy S Qd Q rx ry hm fun v d r q n => k v H d (Same.refl H) (r _) (fun _ xs e => absurd e (n xs)) q
theorem sim_add : Sim2 g true (fun x y H Q => (rI0 (fun i j => .int (i + j)) x y H Q ∨ rCat x y H Q) ∨ (∃ a b, x = .str a ∧ y = .str b ∧ a.length + b.length ≤ sizeLine ∧ Q (.str (a ++ b)) H)) oAdd := by
  intro S H B x y dx dy Qd Q hd pb rx ry hm k
  unfold oAdd at hm
  split at hm
  · cases rx; cases ry
    exact .inl (.inl ⟨_, _, rfl, rfl, k _ H _ (Same.refl H) (.int _) (fun _ xs e => (by cases xs <;> cases e)) hm⟩)
  · cases rx with
    | lst s1 e1 r1 =>
      cases ry with
      | lst s2 e2 r2 =>
        refine .inl (.inr ⟨_, _, _, _, rfl, rfl, e1, e2, by rw [r1.length, r2.length]; exact line_of hm.1, fun p hp => ?_⟩)
        exact give_lst pb hd hp (r1.append r2) k hm.2
  · cases rx; cases ry
    exact .inr ⟨_, _, rfl, rfl, line_of hm.1, k _ H _ (Same.refl H) (.str _) (fun _ xs e => (by cases xs <;> cases e)) hm.2⟩
  · exact hm.elim
theorem sim_sub {f : Bool} : Sim2 g f (rI0 fun i j => .int (i - j)) oSub := sim_i fun H x y dx dy S Qd Q rx ry hm k => by
  unfold oSub at hm
  split at hm
  · cases rx; cases ry
    exact ⟨_, _, rfl, rfl, k _ _ (fun _ => .int _) hm fun x e => (by cases x <;> cases e)⟩
  · exact hm.elim
theorem sim_mul : Sim2 g true (fun x y H Q => (rI CMul (fun i j => .int (i * j)) x y H Q ∨ rI CMulW (fun i j => .int (i * j)) x y H Q) ∨ rRep x y H Q) oMul := by
  intro S H B x y dx dy Qd Q hd pb rx ry hm k
  unfold oMul at hm
  split at hm
  · cases rx; cases ry
    rcases hm.1 with c | c
    · exact .inl (.inl ⟨_, _, rfl, rfl, c, k _ H _ (Same.refl H) (.int _) (fun _ xs e => (by cases xs <;> cases e)) hm.2⟩)
    · exact .inl (.inr ⟨_, _, rfl, rfl, c, k _ H _ (Same.refl H) (.int _) (fun _ xs e => (by cases xs <;> cases e)) hm.2⟩)
  · cases ry
    cases rx with
    | lst s1 e1 r1 =>
      refine .inr ⟨_, _, _, rfl, rfl, e1, hm.1.1, hm.1.2.1, by rw [r1.length]; exact line_of hm.1.2.2, fun p hp => ?_⟩
      exact give_lst pb hd hp (r1.rep _) k hm.2
  · exact hm.elim
theorem sim_div {f : Bool} : Sim2 g f (rI CDivW fun i j => .int (i / j)) oDiv := sim_i fun H x y dx dy S Qd Q rx ry hm k => by
  unfold oDiv at hm
  split at hm
  · cases rx; cases ry
    exact ⟨_, _, rfl, rfl, hm.1, k _ _ (fun _ => .int _) hm.2 fun x e => (by cases x <;> cases e)⟩
  · exact hm.elim
theorem sim_mod {f : Bool} : Sim2 g f (rI (fun _ j => 0 < j) fun i j => .int (i % j)) oMod := sim_i fun H x y dx dy S Qd Q rx ry hm k => by
  unfold oMod at hm
  split at hm
  · cases rx; cases ry
    exact ⟨_, _, rfl, rfl, hm.1, k _ _ (fun _ => .int _) hm.2 fun x e => (by cases x <;> cases e)⟩
  · exact hm.elim
theorem sim_pow {f : Bool} : Sim2 g f (rI POk fun i j => .int (i ^ j.toNat)) oPow := sim_i fun H x y dx dy S Qd Q rx ry hm k => by
  unfold oPow at hm
  split at hm
  · cases rx; cases ry
    exact ⟨_, _, rfl, rfl, hm.1, k _ _ (fun _ => .int _) hm.2 fun x e => (by cases x <;> cases e)⟩
  · exact hm.elim
theorem sim_neg {f : Bool} : Sim1 g f (rU fun i => .int (-i)) oNeg := by
  intro S H B x dx Qd Q hd pb rx hm k
  unfold oNeg at hm
  split at hm
  · cases rx
    exact ⟨_, rfl, k _ H _ (Same.refl H) (.int _) (fun _ xs e => (by cases xs <;> cases e)) hm⟩
  · exact hm.elim

/-! ### comparisons -/
def oCmp (p : Int → Int → Bool) : D → D → (D → Prop) → Prop
  | .int i, .int j, Q => Q (.bl (p i j))
  | _, _, _ => False
theorem sim_cmp {f : Bool} {p : Int → Int → Bool} : Sim2 g f (rI0 fun i j => .bl (p i j)) (oCmp p) := sim_i fun H x y dx dy S Qd Q rx ry hm k => by
  unfold oCmp at hm
  split at hm
  · cases rx; cases ry
    exact ⟨_, _, rfl, rfl, k _ _ (fun _ => .bl _) hm fun x e => (by cases x <;> cases e)⟩
  · exact hm.elim
/-- == of plain data -/
def eqD (x y : D) : Bool := PyData.eqv (py x) (py y)
def oEq (x y : D) (Q : D → Prop) : Prop := pl 60 x = true ∧ pl 60 y = true ∧ Q (.bl (eqD x y))
def oNe (x y : D) (Q : D → Prop) : Prop := pl 60 x = true ∧ pl 60 y = true ∧ Q (.bl (!eqD x y))
theorem sim_eq {f : Bool} {K : PySem.W.Frag} : Sim2 g f (rEqD K) oEq := sim_i fun H x y dx dy S Qd Q rx ry hm k =>
  ⟨_, _, dp_of rx hm.1, dp_of ry hm.2.1, shaped_py (by decide) hm.1, shaped_py (by decide) hm.2.1, k _ _ (fun _ => .bl _) hm.2.2 fun x e => (by cases x <;> cases e)⟩
theorem sim_ne {f : Bool} {K : PySem.W.Frag} : Sim2 g f (rNeD K) oNe := sim_i fun H x y dx dy S Qd Q rx ry hm k =>
  ⟨_, _, dp_of rx hm.1, dp_of ry hm.2.1, shaped_py (by decide) hm.1, shaped_py (by decide) hm.2.1, k _ _ (fun _ => .bl _) hm.2.2 fun x e => (by cases x <;> cases e)⟩
def oIsN (neg : Bool) : D → D → (D → Prop) → Prop := fun x _ Q => Q (.bl (match x with | .non => !neg | _ => neg))
end
end VL

set_option Elab.async false
set_option linter.all false
set_option maxRecDepth 100000
set_option maxHeartbeats 4000000
/-! VL, part c: tests, indices, slices. -/
namespace VL
open PySem PySem.Spec PyProof.Rows L2

section
variable {g : Gm} {f fa fb : Bool} {X : Cx} {a b e : Expr} {es : List Expr} {ma mb m : ME} {R Ra Rb : List Nat} {c ca cb cc : Nat} {pos : Pos}
/-! ### tests -/
def isB : D → (Bool → Prop) → Prop
  | .bl b, Q => Q b
  | _, _ => False
def mB (m : ME) : MT := fun env Q => m env fun d => isB d Q
theorem bool_of {S : Addr → Prop} {H : Hp} {v : V} {d : D} {Q : Bool → Prop} (r : Rep g S H v d) (h : isB d Q) : ∃ k, v = .bl k ∧ Q k := by
  unfold isB at h
  split at h
  · cases r
    exact ⟨_, rfl, h⟩
  · exact h.elim
theorem vt_val (h : VE g X e m R c f) (he : ∀ {t : TE}, PE X e t → PT X e (tB t)) : VT g X e (mB m) c := by
  obtain ⟨t, p, k⟩ := h
  refine ⟨_, he p, fun σ H env S B Qd Q rl pb hb hm q => ?_⟩
  refine k σ H env S B _ _ rl pb hb hm fun v H' d A z => ?_
  obtain ⟨b, rfl, hz⟩ := bool_of A.rep z
  exact ⟨b, rfl, q b H' A.fr A.pb hz⟩
theorem vt_cmp {op : CmpOp} {r : R2} {o : D → D → (D → Prop) → Prop} (ho : OpR X (compareOp op) r) (hs : Sim2 g f r o) (ha : VE g X a ma Ra ca fa) (hb : VE g X b mb Rb cb fb) (hm : behindInMarks op b = false) : VT g X (.Compare a [op] [b] pos) (mB (m2 o ma mb)) (ca + cb) := by
  obtain ⟨ta, pa, ka⟩ := ha
  obtain ⟨tb, pb, kb⟩ := hb
  refine ⟨_, pt_cmpR ho pa pb hm, fun σ H env S B Qd Q rl pb hb hm q => ?_⟩
  refine two_ok hs ka kb σ H env S B _ _ rl pb hb hm fun v H' d A z => ?_
  obtain ⟨b, rfl, hz⟩ := bool_of A.rep z
  exact ⟨b, rfl, q b H' A.fr A.pb hz⟩
def mNot (m : MT) : MT := fun env Q => m env fun b => Q (!b)
def mAnd (m m' : MT) : MT := fun env Q => m env fun b => if b = true then m' env Q else Q false
def mOr (m m' : MT) : MT := fun env Q => m env fun b => if b = true then Q true else m' env Q
theorem vt_not {m : MT} (h : VT g X a m c) : VT g X (.UnaryOp .Not a pos) (mNot m) c := by
  obtain ⟨t, p, k⟩ := h
  exact ⟨_, pt_not p, fun σ H env S B Qd Q rl pb hb hm q => k σ H env S B _ _ rl pb hb hm fun b H' fr pb' z => q (!b) H' fr pb' z⟩
theorem vw_pt {m : MT} (h : VW g X e m c) : VT g X e m c := by
  obtain ⟨t, p, k⟩ := h
  exact ⟨t, p.pt, k⟩
theorem vw_and1 {m : MT} (h : VT g X a m c) : VW g X (.BoolOp .And [a] pos) m c := by
  obtain ⟨t, p, k⟩ := h
  exact ⟨_, pw_and1 p, k⟩
theorem vw_or1 {m : MT} (h : VT g X a m c) : VW g X (.BoolOp .Or [a] pos) m c := by
  obtain ⟨t, p, k⟩ := h
  exact ⟨_, pw_or1 p, k⟩
theorem vw_and {m m' : MT} {rest : List Expr} (h : VT g X a m ca) (h' : VW g X (.BoolOp .And (b :: rest) pos) m' cb) : VW g X (.BoolOp .And (a :: b :: rest) pos) (mAnd m m') (ca + cb) := by
  obtain ⟨t, p, k⟩ := h
  obtain ⟨t', p', k'⟩ := h'
  refine ⟨_, pw_and p p', fun σ H env S B Qd Q rl pb hb hm q => ?_⟩
  refine k σ H env S B _ _ rl pb (by omega) hm fun b H1 fr pb1 z => ?_
  cases b with
  | true => exact k' σ H1 env S (B + ca) _ _ (rl.fr fr) pb1 (by omega) z fun b H2 fr2 pb2 z2 => q b H2 (fr.trans fr2) (pb2.mono (by omega)) z2
  | false => exact q false H1 fr (pb1.mono (by omega)) z
theorem vw_or {m m' : MT} {rest : List Expr} (h : VT g X a m ca) (h' : VW g X (.BoolOp .Or (b :: rest) pos) m' cb) : VW g X (.BoolOp .Or (a :: b :: rest) pos) (mOr m m') (ca + cb) := by
  obtain ⟨t, p, k⟩ := h
  obtain ⟨t', p', k'⟩ := h'
  refine ⟨_, pw_or p p', fun σ H env S B Qd Q rl pb hb hm q => ?_⟩
  refine k σ H env S B _ _ rl pb (by omega) hm fun b H1 fr pb1 z => ?_
  cases b with
  | true => exact q true H1 fr (pb1.mono (by omega)) z
  | false => exact k' σ H1 env S (B + ca) _ _ (rl.fr fr) pb1 (by omega) z fun b H2 fr2 pb2 z2 => q b H2 (fr.trans fr2) (pb2.mono (by omega)) z2
/-! ### the same as values -/
def mAndV (m m' : ME) : ME := fun env Q => m env fun d => match d with
  | .bl true => m' env Q
  | .bl false => Q (.bl false)
  | _ => False
def mOrV (m m' : ME) : ME := fun env Q => m env fun d => match d with
  | .bl true => Q (.bl true)
  | .bl false => m' env Q
  | _ => False
def mNotV (m : ME) : ME := fun env Q => m env fun d => match d with
  | .bl b => Q (.bl (!b))
  | _ => False
theorem ve_one {op} (h : VE g X a m R c f) : VE g X (.BoolOp op [a] pos) m R c f := by
  obtain ⟨t, p, k⟩ := h
  exact ⟨_, pe_one p, k⟩
theorem aft_left {S : SS} {H H' : Hp} {B : Nat} {v : V} {d : D} (A : Aft g fa Ra S H H' B ca v d) : Aft g false (Ra ++ Rb) S H H' B (ca + cb) v d :=
  ⟨A.fr, A.pb.mono (by omega), A.rep.mono fun a s => s.fwd (fun i h => List.mem_append_left _ h) Fr.refl, fun q => nomatch q⟩
theorem aft_sc {S : SS} {H H' : Hp} {B : Nat} {v : V} {d : D} (fr : Fr g H H') (pb : PB g (B + c) H') (r : ∀ S', Rep g S' H' v d) (n : ∀ xs, d ≠ mkD xs) : Aft g f R S H H' B c v d := ⟨fr, pb, r _, fun _ xs e => absurd e (n xs)⟩
theorem aft_after {S : SS} {H H1 H' : Hp} {B : Nat} {v : V} {d : D} (fr : Fr g H H1) (pb : PB g (B + ca) H1) (A : Aft g fb Rb S H1 H' (B + ca) cb v d) : Aft g fb (Ra ++ Rb) S H H' B (ca + cb) v d :=
  ⟨fr.trans A.fr, A.pb.mono (by omega), A.rep.mono fun a s => s.aft (fun i h => List.mem_append_right _ h) fr, fun z => fsh_up (fun a n e => fr.back n e) pb (fun a s => s.aft (fun i h => List.mem_append_right _ h) fr) (A.fsh z)⟩
theorem aft_afterL {S : SS} {H H1 H' : Hp} {B : Nat} {v : V} {d : D} (fr : Fr g H H1) (pb : PB g (B + ca) H1) (A : Aft g fa Ra S H1 H' (B + ca) cb v d) : Aft g fa (Ra ++ Rb) S H H' B (ca + cb) v d :=
  ⟨fr.trans A.fr, A.pb.mono (by omega), A.rep.mono fun a s => s.aft (fun i h => List.mem_append_left _ h) fr, fun z => fsh_up (fun a n e => fr.back n e) pb (fun a s => s.aft (fun i h => List.mem_append_left _ h) fr) (A.fsh z)⟩
theorem Aft.any {S : SS} {H H' : Hp} {B : Nat} {v : V} {d : D} (A : Aft g f R S H H' B c v d) : Aft g false R S H H' B c v d := ⟨A.fr, A.pb, A.rep, fun q => nomatch q⟩
theorem ve_and {rest : List Expr} (h : VE g X a ma Ra ca fa) (h' : VE g X (.BoolOp .And (b :: rest) pos) mb Rb cb fb) : VE g X (.BoolOp .And (a :: b :: rest) pos) (mAndV ma mb) (Ra ++ Rb) (ca + cb) false := by
  obtain ⟨t, p, k⟩ := h
  obtain ⟨t', p', k'⟩ := h'
  refine ⟨_, pe_and p p', fun σ H env S B Qd Q rl pb hb hm q => ?_⟩
  refine k σ H env S B _ _ rl pb (by omega) hm fun v H1 d A z => ?_
  have r := A.rep
  split at z
  · cases r
    exact ⟨true, rfl, k' σ H1 env S (B + ca) _ _ (rl.fr A.fr) A.pb (by omega) z fun v H2 d A2 z2 => q v H2 d (aft_after A.fr A.pb A2).any z2⟩
  · cases r
    exact ⟨false, rfl, q _ H1 _ (aft_left A) z⟩
  · exact z.elim
theorem ve_or {rest : List Expr} (h : VE g X a ma Ra ca fa) (h' : VE g X (.BoolOp .Or (b :: rest) pos) mb Rb cb fb) : VE g X (.BoolOp .Or (a :: b :: rest) pos) (mOrV ma mb) (Ra ++ Rb) (ca + cb) false := by
  obtain ⟨t, p, k⟩ := h
  obtain ⟨t', p', k'⟩ := h'
  refine ⟨_, pe_or p p', fun σ H env S B Qd Q rl pb hb hm q => ?_⟩
  refine k σ H env S B _ _ rl pb (by omega) hm fun v H1 d A z => ?_
  have r := A.rep
  split at z
  · cases r
    exact ⟨true, rfl, q _ H1 _ (aft_left A) z⟩
  · cases r
    exact ⟨false, rfl, k' σ H1 env S (B + ca) _ _ (rl.fr A.fr) A.pb (by omega) z fun v H2 d A2 z2 => q v H2 d (aft_after A.fr A.pb A2).any z2⟩
  · exact z.elim
theorem ve_not (h : VE g X a m R c f) : VE g X (.UnaryOp .Not a pos) (mNotV m) [] c false := by
  obtain ⟨t, p, k⟩ := h
  refine ⟨_, pe_not p, fun σ H env S B Qd Q rl pb hb hm q => ?_⟩
  refine k σ H env S B _ _ rl pb hb hm fun v H1 d A z => ?_
  have r := A.rep
  split at z
  · cases r
    exact ⟨_, rfl, q _ H1 _ (aft_sc A.fr A.pb (fun _ => .bl _) fun x e => (by cases x <;> cases e)) z⟩
  · exact z.elim
def mIf (mt : MT) (ma mb : ME) : ME := fun env Q => mt env fun b => if b = true then ma env Q else mb env Q
theorem ve_if {mt : MT} {c : Expr} (hc : VT g X c mt cc) (h : VE g X a ma Ra ca fa) (h' : VE g X b mb Rb cb fb) : VE g X (.IfExp c a b pos) (mIf mt ma mb) (Ra ++ Rb) (cc + (ca + cb)) (fa && fb) := by
  obtain ⟨t0, p0, k0⟩ := hc
  obtain ⟨t, p, k⟩ := h
  obtain ⟨t', p', k'⟩ := h'
  refine ⟨_, pe_ifExp p0 p p', fun σ H env S B Qd Q rl pb hb hm q => ?_⟩
  refine k0 σ H env S B _ _ rl pb (by omega) hm fun b H1 fr pb1 z => ?_
  cases b with
  | true => exact k σ H1 env S (B + cc) _ _ (rl.fr fr) pb1 (by omega) z fun v H2 d A2 z2 => q v H2 d ⟨fr.trans A2.fr, A2.pb.mono (by omega), (aft_afterL (Rb := Rb) fr pb1 A2).rep, fun z => (aft_afterL (Rb := Rb) fr pb1 A2).fsh (Bool.and_eq_true_iff.mp z).1⟩ z2
  | false => exact k' σ H1 env S (B + cc) _ _ (rl.fr fr) pb1 (by omega) z fun v H2 d A2 z2 => q v H2 d ⟨fr.trans A2.fr, A2.pb.mono (by omega), (aft_after (Ra := Ra) fr pb1 A2).rep, fun z => (aft_after (Ra := Ra) fr pb1 A2).fsh (Bool.and_eq_true_iff.mp z).2⟩ z2
/-! ### x < y < z -/
def mChain (o o' : D → D → (D → Prop) → Prop) (ma mb mc : ME) : ME := fun env Q => ma env fun x => mb env fun y => o x y fun z => match z with
  | .bl true => mc env fun w => o' y w Q
  | .bl false => Q (.bl false)
  | _ => False
end
/-- ints are compared -/
def cmpI (p : Int → Int → Bool) : R2 := rI0 fun i j => .bl (p i j)
section
variable {g : Gm} {f fa fb fc : Bool} {X : Cx} {a b c e : Expr} {es : List Expr} {ma mb mc m : ME} {R Ra Rb Rc : List Nat} {ca cb cc : Nat} {pos : Pos}
theorem chain_ok {p p' : Int → Int → Bool} {ta tb tc : TE}
    (ka : ∀ (σ : L2.St) (H : Hp) (env : Env) (S : SS) (B : Nat) (Qd : D → Prop) (Q : VK), Rl g σ H env S → PB g B H → B + ca ≤ Bmax → ma env Qd → (∀ v H' d, Aft g fa Ra S H H' B ca v d → Qd d → Q v H') → ta σ H Q)
    (kb : ∀ (σ : L2.St) (H : Hp) (env : Env) (S : SS) (B : Nat) (Qd : D → Prop) (Q : VK), Rl g σ H env S → PB g B H → B + cb ≤ Bmax → mb env Qd → (∀ v H' d, Aft g fb Rb S H H' B cb v d → Qd d → Q v H') → tb σ H Q)
    (kc : ∀ (σ : L2.St) (H : Hp) (env : Env) (S : SS) (B : Nat) (Qd : D → Prop) (Q : VK), Rl g σ H env S → PB g B H → B + cc ≤ Bmax → mc env Qd → (∀ v H' d, Aft g fc Rc S H H' B cc v d → Qd d → Q v H') → tc σ H Q) :
    ∀ (σ : L2.St) (H : Hp) (env : Env) (S : SS) (B : Nat) (Qd : D → Prop) (Q : VK), Rl g σ H env S → PB g B H → B + (ca + cb + cc) ≤ Bmax → mChain (oCmp p) (oCmp p') ma mb mc env Qd → (∀ v H' d, Aft g false [] S H H' B (ca + cb + cc) v d → Qd d → Q v H') →
      tChain (cmpI p) (cmpI p') ta tb tc σ H Q := by
  intro σ H env S B Qd Q rl pb hb hm k
  refine ka σ H env S B _ _ rl pb (by omega) hm fun x H1 dx A1 hm1 => ?_
  refine kb σ H1 env S (B + ca) _ _ (rl.fr A1.fr) A1.pb (by omega) hm1 fun y H2 dy A2 hm2 => ?_
  have r1 := A1.rep
  have r2 := A2.rep
  unfold oCmp at hm2
  split at hm2
  · rename_i i j
    cases r1
    cases r2
    refine ⟨_, _, rfl, rfl, p i j, rfl, ?_⟩
    cases e : p i j with
    | true =>
      simp only [e] at hm2
      rw [if_pos rfl]
      refine kc σ H2 env S (B + ca + cb) _ _ ((rl.fr A1.fr).fr A2.fr) A2.pb (by omega) hm2 fun w H3 dw A3 hm3 => ?_
      have r3 := A3.rep
      split at hm3
      · cases r3
        rename_i e1
        cases e1
        exact ⟨_, _, rfl, rfl, k _ _ _ (aft_sc ((A1.fr.trans A2.fr).trans A3.fr) (A3.pb.mono (by omega)) (fun _ => .bl _) fun x e => (by cases x <;> cases e)) hm3⟩
      · exact hm3.elim
    | false =>
      simp only [e] at hm2
      rw [if_neg Bool.false_ne_true]
      exact k _ _ _ (aft_sc (A1.fr.trans A2.fr) (A2.pb.mono (by omega)) (fun _ => .bl _) fun x e => (by cases x <;> cases e)) hm2
  · exact hm2.elim
theorem ve_chain {op op' : CmpOp} {p p' : Int → Int → Bool} (ho : OpR X (compareOp op) (cmpI p)) (ho' : OpR X (compareOp op') (cmpI p')) (ha : VE g X a ma Ra ca fa) (hb : VE g X b mb Rb cb fb) (hc : VE g X c mc Rc cc fc)
    (hm : lastMarks [op, op'] [b, c] = false) : VE g X (.Compare a [op, op'] [b, c] pos) (mChain (oCmp p) (oCmp p') ma mb mc) [] (ca + cb + cc) false := by
  obtain ⟨ta, pa, ka⟩ := ha
  obtain ⟨tb, pb, kb⟩ := hb
  obtain ⟨tc, pc, kc⟩ := hc
  exact ⟨_, pe_chain ho ho' pa pb pc hm, chain_ok ka kb kc⟩
theorem vt_chain {op op' : CmpOp} {p p' : Int → Int → Bool} (ho : OpR X (compareOp op) (cmpI p)) (ho' : OpR X (compareOp op') (cmpI p')) (ha : VE g X a ma Ra ca fa) (hb : VE g X b mb Rb cb fb) (hc : VE g X c mc Rc cc fc)
    (hm : lastMarks [op, op'] [b, c] = false) : VT g X (.Compare a [op, op'] [b, c] pos) (mB (mChain (oCmp p) (oCmp p') ma mb mc)) (ca + cb + cc) := by
  obtain ⟨ta, pa, ka⟩ := ha
  obtain ⟨tb, pb, kb⟩ := hb
  obtain ⟨tc, pc, kc⟩ := hc
  refine ⟨_, pt_chain ho ho' pa pb pc hm, fun σ H env S B Qd Q rl pb hb hm q => ?_⟩
  refine chain_ok ka kb kc σ H env S B _ _ rl pb hb hm fun v H' d A z => ?_
  obtain ⟨b, rfl, hz⟩ := bool_of A.rep z
  exact ⟨b, rfl, q b H' A.fr A.pb hz⟩

/-! ### is None, in -/
def isNon : D → Bool
  | .non => true
  | _ => false
def oIs (neg : Bool) : D → D → (D → Prop) → Prop := fun x y Q => match y with
  | .non => Q (.bl (if neg then !isNon x else isNon x))
  | _ => False
theorem non_of {S : Addr → Prop} {H : Hp} {v : V} {d : D} (r : Rep g S H v d) : decide (v = .non) = isNon d := by
  cases r <;> rfl
theorem sim_isN : Sim2 g f (fun x y H Q => y = .non ∧ Q (.bl (decide (x = .non))) H) (oIs false) := sim_i fun H x y dx dy S Qd Q rx ry hm k => by
  unfold oIs at hm
  split at hm
  · cases ry
    refine ⟨rfl, k _ _ (fun _ => ?_) hm fun x e => (by cases x <;> cases e)⟩
    rw [non_of rx]
    exact .bl _
  · exact hm.elim
theorem sim_notN : Sim2 g f (fun x y H Q => y = .non ∧ Q (.bl (!decide (x = .non))) H) (oIs true) := sim_i fun H x y dx dy S Qd Q rx ry hm k => by
  unfold oIs at hm
  split at hm
  · cases ry
    refine ⟨rfl, k _ _ (fun _ => ?_) hm fun x e => (by cases x <;> cases e)⟩
    rw [non_of rx]
    exact .bl _
  · exact hm.elim
def flatD : D → Bool
  | .non => true
  | .bl _ => true
  | .int _ => true
  | .str _ => true
  | _ => false
def vOf : D → V
  | .bl b => .bl b
  | .int i => .int i
  | .str x => .str x
  | _ => .non
theorem flat_of {S : Addr → Prop} {H : Hp} {v : V} {d : D} (r : Rep g S H v d) (h : flatD d = true) : v = vOf d ∧ flatV v = true := by
  cases r <;> first | exact ⟨rfl, rfl⟩ | exact absurd h Bool.false_ne_true
theorem flats_of {S : Addr → Prop} {H : Hp} : ∀ {ds : List D} {vs : List V}, RepL g S H vs ds → ds.all flatD = true → vs = ds.map vOf ∧ vs.all flatV = true
  | [], _, h, _ => by cases h; exact ⟨rfl, rfl⟩
  | d :: ds, _, h, p => by
    cases h with
    | cons x y =>
      rw [List.all_cons, Bool.and_eq_true] at p
      have h1 := flat_of x p.1
      have h2 := flats_of y p.2
      refine ⟨by rw [h1.1, h2.1]; rfl, ?_⟩
      rw [List.all_cons, h1.2, h2.2]
      rfl
def inD (x : D) (ys : List D) : Bool := inV (vOf x) (ys.map vOf)
def oIn (neg : Bool) : D → D → (D → Prop) → Prop := fun x y Q => match y with
  | .lst ys => (flatD x = true ∧ ys.all flatD = true) ∧ Q (.bl (if neg then !inD x ys else inD x ys))
  | .tup ys => (flatD x = true ∧ ys.all flatD = true) ∧ Q (.bl (if neg then !inD x ys else inD x ys))
  | _ => False
theorem sim_in {K : PySem.W.Frag} {neg : Bool} : Sim2 g f (rIn K neg) (oIn neg) := sim_i fun H x y dx dy S Qd Q rx ry hm k => by
  unfold oIn at hm
  split at hm
  · cases ry with
    | lst s1 e1 r1 =>
      have h1 := flat_of rx hm.1.1
      have h2 := flats_of r1 hm.1.2
      refine ⟨_, _, rfl, .inl (SqL.of e1), h1.2, h2.2, k _ _ (fun _ => ?_) hm.2 fun x e => (by cases x <;> cases e)⟩
      rw [h1.1, h2.1]
      exact .bl _
  · cases ry with
    | tup s1 e1 r1 =>
      have h1 := flat_of rx hm.1.1
      have h2 := flats_of r1 hm.1.2
      refine ⟨_, _, rfl, .inr (SqT.of e1), h1.2, h2.2, k _ _ (fun _ => ?_) hm.2 fun x e => (by cases x <;> cases e)⟩
      rw [h1.1, h2.1]
      exact .bl _
  · exact hm.elim

/-! ### x[i] -/
def oIx : D → D → (D → Prop) → Prop := fun x y Q => match x, y with
  | .lst xs, .int i => match atI xs i with
    | some d => Q d
    | none => False
  | .tup xs, .int i => match atI xs i with
    | some d => Q d
    | none => False
  | .str x, .int i => x.length ≤ 100000 ∧ match atI x.cps.toList i with
    | some c => Q (.str ⟨#[c]⟩)
    | none => False
  | _, _ => False
theorem at_of {S : Addr → Prop} {H : Hp} {ds : List D} {vs : List V} {i : Int} {d : D} (r : RepL g S H vs ds) (h : atI ds i = some d) : ∃ v, atI vs i = some v ∧ Rep g S H v d := by
  unfold atI at h ⊢
  rw [r.length]
  cases e : ixN ds.length i with
  | none => rw [e] at h; cases h
  | some j =>
    rw [e] at h
    exact r.get h
theorem rep_same {S : Addr → Prop} {H : Hp} {v : V} {d : D} (hd : ∀ a, S a → H a ≠ none ∧ some a ≠ g.pa) (r : Rep g S H v d) : Rep g (Res g S H H) H v d := r.mono fun a s => ⟨.inr s, hd a s⟩
theorem sim_ix {K : PySem.W.Frag} : Sim2 g false (rIx K) oIx := by
  intro S H B x y dx dy Qd Q hd pb rx ry hm k
  unfold oIx at hm
  split at hm
  · cases ry
    cases rx with
    | lst s1 e1 r1 =>
      split at hm
      · rename_i d e
        obtain ⟨v, h1, h2⟩ := at_of r1 e
        exact .inl ⟨_, _, _, v, rfl, rfl, SqL.of e1, h1, k v H d (Same.refl H) (rep_same hd h2) (fun q => nomatch q) hm⟩
      · exact hm.elim
  · cases ry
    cases rx with
    | tup s1 e1 r1 =>
      split at hm
      · rename_i d e
        obtain ⟨v, h1, h2⟩ := at_of r1 e
        exact .inr (.inl ⟨_, _, _, v, rfl, rfl, SqT.of e1, h1, k v H d (Same.refl H) (rep_same hd h2) (fun q => nomatch q) hm⟩)
      · exact hm.elim
  · cases ry
    cases rx
    obtain ⟨hl, hm⟩ := hm
    split at hm
    · rename_i c e
      exact .inr (.inr ⟨_, _, c, rfl, rfl, line_of hl, e, k _ H _ (Same.refl H) (.str _) (fun q => nomatch q) hm⟩)
    · exact hm.elim
  · exact hm.elim

/-! ### x[i:j] -/
abbrev MO := Env → (Option Int → Prop) → Prop
def VO (g : Gm) (X : Cx) (e : Option Expr) (m : MO) (c : Nat) : Prop := ∃ t, PO X e t ∧ ∀ (σ : L2.St) (H : Hp) (env : Env) (S : SS) (B : Nat) (Qd : Option Int → Prop) (Q : Option Int → Hp → Prop),
  Rl g σ H env S → PB g B H → B + c ≤ Bmax → m env Qd → (∀ b H', Fr g H H' → PB g (B + c) H' → Qd b → Q b H') → t σ H Q
def mNo : MO := fun _ Q => Q none
def mPart (m : ME) : MO := fun env Q => m env fun d => match d with
  | .int i => Q (some i)
  | _ => False
theorem vo_none : VO g X none mNo 0 := ⟨_, po_none, fun σ H env S B Qd Q rl pb hb hm k => k none H Fr.refl pb hm⟩
theorem vo_some (h : VE g X e m R ca f) : VO g X (some e) (mPart m) ca := by
  obtain ⟨t, p, k⟩ := h
  refine ⟨_, po_some p, fun σ H env S B Qd Q rl pb hb hm q => k σ H env S B _ _ rl pb hb hm fun v H' d A z => ?_⟩
  have r := A.rep
  split at z
  · cases r
    exact ⟨_, rfl, q _ H' A.fr A.pb z⟩
  · exact z.elim
def cutD (xs : List D) (lo hi : Option Int) : List D := (xs.drop (HT.sIx xs.length 0 lo)).take (HT.sIx xs.length xs.length hi - HT.sIx xs.length 0 lo)
def oSl : D → Option Int → Option Int → (D → Prop) → Prop := fun x lo hi Q => match x with
  | .lst xs => Q (.lst (cutD xs lo hi))
  | .tup xs => ¬ (HT.sIx xs.length 0 lo = 0 ∧ HT.sIx xs.length xs.length hi = xs.length) ∧ Q (.tup (cutD xs lo hi))
  | _ => False
def mSl (m : ME) (ml mh : MO) : ME := fun env Q => m env fun x => ml env fun lo => mh env fun hi => oSl x lo hi Q
theorem cut_rep {S : Addr → Prop} {H : Hp} {ds : List D} {vs : List V} {lo hi : Option Int} (r : RepL g S H vs ds) : RepL g S H (cutV vs lo hi) (cutD ds lo hi) := by
  unfold cutV cutD
  rw [r.length]
  exact (r.drop _).take _
theorem SlR.or {r r' : V → Option Int → Option Int → Hp → VK → Prop} (h : SlR X r) (h' : SlR X r') : SlR X (fun x lo hi H Q => r x lo hi H Q ∨ r' x lo hi H Q) := by
  intro pins s σ H x v vl vu lo hi sl Q I rx hs pl pu q
  rcases q with q | q
  · exact h pins s σ H x v vl vu lo hi sl Q I rx hs pl pu q
  · exact h' pins s σ H x v vl vu lo hi sl Q I rx hs pl pu q
theorem ve_slice {lo hi : Option Expr} {p2 : Pos} {ml mh : MO} (h : VE g X e m R ca f) (hl : VO g X lo ml cb) (hh : VO g X hi mh cc) : VE g X (.Subscript e (.Slice lo hi none p2) pos) (mSl m ml mh) R (ca + cb + cc) true := by
  obtain ⟨t, p, k⟩ := h
  obtain ⟨t1, p1, k1⟩ := hl
  obtain ⟨t2, p2, k2⟩ := hh
  refine ⟨_, pe_slice (SlR.or sl_list sl_tup) p p1 p2, fun σ H env S B Qd Q rl pb hb hm q => ?_⟩
  refine k σ H env S B _ _ rl pb (by omega) hm fun x H1 dx A1 hm1 => ?_
  refine k1 σ H1 env S (B + ca) _ _ (rl.fr A1.fr) A1.pb (by omega) hm1 fun lo H2 fr2 pb2 hm2 => ?_
  refine k2 σ H2 env S (B + ca + cb) _ _ ((rl.fr A1.fr).fr fr2) pb2 (by omega) hm2 fun hi H3 fr3 pb3 hm3 => ?_
  have F := fr2.trans fr3
  have rx : Rep g (Sr g R S H H3) H3 x dx := A1.rep.goN fun a o s e => ⟨s.fwd (fun i h => h) F, F a o s.2.2 e⟩
  have hd : ∀ a, Sr g R S H H3 a → H3 a ≠ none ∧ some a ≠ g.pa := fun a s => s.2
  have FA := A1.fr.trans F
  have up : ∀ H4 a, Res g (Sr g R S H H3) H3 H4 a → Sr g R S H H4 a := fun H4 a s => ⟨s.1.elim (fun n => .inl (FA.back s.2.2 n)) fun s1 => s1.1, s.2⟩
  have fin : ∀ v H' d, Same H3 H' → Rep g (Res g (Sr g R S H H3) H3 H') H' v d → (true = true → Fsh g (Res g (Sr g R S H H3) H3 H') H3 H' v d) → Qd d → Q v H' := fun v H' d sm rp fs z =>
    q v H' d ⟨FA.trans (Fr.of sm), (pb3.same sm).mono (by omega), rp.mono (up H'), fun z => fsh_up (fun a n e => FA.back n e) pb3 (up H') (fs z)⟩ z
  unfold oSl at hm3
  split at hm3
  · cases rx with
    | lst s1 e1 r1 => exact .inl ⟨_, _, rfl, SqL.of e1, fun p hp => give_lst pb3 hd hp (cut_rep r1) fin hm3⟩
  · cases rx with
    | tup s1 e1 r1 => exact .inr ⟨_, _, rfl, SqT.of e1, by rw [r1.length]; exact hm3.1, fun p hp => give_tup pb3 hd hp (cut_rep r1) fin hm3.2⟩
  · exact hm3.elim
end
end VL

set_option Elab.async false
set_option linter.all false
set_option maxRecDepth 100000
set_option maxHeartbeats 4000000
/-! VL, part d: calls of built-ins. -/
namespace VL
open PySem PySem.Spec PyProof.Rows L2

section
variable {g : Gm} {f : Bool} {X : Cx} {e : Expr} {es : List Expr} {ma : MA} {R : List Nat} {c : Nat}
/-- a call by values: how the call's rule is made of its arguments' is handed on as hp -/
theorem ve_bi {r : List V → Hp → VK → Prop} {o : List D → (D → Prop) → Prop} (hp : ∀ {t : TA}, PA X es t → PE X e (tCB r t)) (hs : SimA g f r o) (ha : VA g X es ma R c) : VE g X e (mCall o ma) R c f := by
  obtain ⟨t, p, k⟩ := ha
  exact ⟨_, hp p, args_ok hs k⟩
/-- the answer is no list, the heap stays -/
theorem simA_i {r : List V → Hp → VK → Prop} {o : List D → (D → Prop) → Prop} (h : ∀ (H : Hp) (xs : List V) (ds : List D) (S : Addr → Prop) (Qd : D → Prop) (Q : VK), RepL g S H xs ds → o ds Qd → (∀ v d, (∀ S', Rep g S' H v d) → Qd d → (∀ xs, d ≠ mkD xs) → Q v H) → r xs H Q) : SimA g f r o := by
  intro S H B xs ds Qd Q hd pb rx hm k
  exact h H xs ds S Qd Q rx hm fun v d r q n => k v H d (Same.refl H) (r _) (fun _ xs e => absurd e (n xs)) q
theorem repL1 {S : Addr → Prop} {H : Hp} {xs : List V} {d : D} (r : RepL g S H xs [d]) : ∃ v, xs = [v] ∧ Rep g S H v d := by
  cases r with
  | cons a b => cases b; exact ⟨_, rfl, a⟩
theorem repL2 {S : Addr → Prop} {H : Hp} {xs : List V} {d e : D} (r : RepL g S H xs [d, e]) : ∃ v w, xs = [v, w] ∧ Rep g S H v d ∧ Rep g S H w e := by
  cases r with
  | cons a b =>
    obtain ⟨w, rfl, h⟩ := repL1 b
    exact ⟨_, w, rfl, a, h⟩

def oAbs : List D → (D → Prop) → Prop
  | [.int i], Q => Q (.int (if i < 0 then -i else i))
  | _, _ => False
def oMax2 : List D → (D → Prop) → Prop
  | [.int i, .int j], Q => Q (.int (if j > i then j else i))
  | _, _ => False
def oMin2 : List D → (D → Prop) → Prop
  | [.int i, .int j], Q => Q (.int (if j < i then j else i))
  | _, _ => False
def oInt : List D → (D → Prop) → Prop
  | [.int i], Q => Q (.int i)
  | [.bl b], Q => Q (.int (if b then 1 else 0))
  | _, _ => False
def oStr : List D → (D → Prop) → Prop
  | [.int i], Q => i.natAbs < 10 ^ 200 ∧ Q (.str (toString i))
  | _, _ => False
def oLen : List D → (D → Prop) → Prop
  | [.lst xs], Q => Q (.int xs.length)
  | [.tup xs], Q => Q (.int xs.length)
  | [.str x], Q => x.length ≤ 100000 ∧ Q (.int x.length)
  | _, _ => False
def oList : List D → (D → Prop) → Prop
  | [.lst xs], Q => Q (.lst xs)
  | [.tup xs], Q => Q (.lst xs)
  | _, _ => False
def oTuple : List D → (D → Prop) → Prop
  | [.lst xs], Q => Q (.tup xs)
  | [.tup xs], Q => Q (.tup xs)
  | _, _ => False
def oRepr : List D → (D → Prop) → Prop
  | [d], Q => RepOk d ∧ Q (.str (py d).shown)
  | _, _ => False
def intsOf : List D → Option (List Int)
  | [] => some []
  | .int i :: r => (intsOf r).map (i :: ·)
  | _ => none
def oSum : List D → (D → Prop) → Prop
  | [.lst xs], Q => match intsOf xs with
    | some ns => Q (.int ns.sum)
    | none => False
  | _, _ => False
@[irreducible] def oMaxL : List D → (D → Prop) → Prop
  | [.lst xs], Q => match intsOf xs with
    | some ns => 0 < ns.length ∧ ∀ m, m ∈ ns → (∀ y, y ∈ ns → y ≤ m) → Q (.int m)
    | none => False
  | _, _ => False
@[irreducible] def oMinL : List D → (D → Prop) → Prop
  | [.lst xs], Q => match intsOf xs with
    | some ns => 0 < ns.length ∧ ∀ m, m ∈ ns → (∀ y, y ∈ ns → m ≤ y) → Q (.int m)
    | none => False
  | _, _ => False
theorem ints_of {S : Addr → Prop} {H : Hp} : ∀ {ds : List D} {vs : List V} {ns : List Int}, RepL g S H vs ds → intsOf ds = some ns → vs = ns.map V.int
  | [], _, ns, h, e => by
    cases h
    cases e
    rfl
  | .int i :: r, _, ns, h, e => by
    unfold intsOf at e
    cases q : intsOf r with
    | none => rw [q] at e; cases e
    | some ms =>
      rw [q] at e
      cases e
      cases h with
      | cons a b =>
        cases a
        rw [ints_of b q]
        rfl
  | .non :: _, _, _, _, e => by cases e
  | .bl _ :: _, _, _, _, e => by cases e
  | .str _ :: _, _, _, _, e => by cases e
  | .lst _ :: _, _, _, _, e => by cases e
  | .tup _ :: _, _, _, _, e => by cases e
  | .ndl _ _ _ :: _, _, _, _, e => by cases e
  | .pool :: _, _, _, _, e => by cases e
  | .opq _ :: _, _, _, _, e => by cases e
  | .err _ _ _ :: _, _, _, _, e => by cases e
  | .chn _ :: _, _, _, _, e => by cases e
  | .fnc _ :: _, _, _, _, e => by cases e
  | .exo _ _ _ :: _, _, _, _, e => by cases e
  | .dct _ :: _, _, _, _, e => by cases e
  | .exv _ _ _ _ :: _, _, _, _, e => by cases e
  | .gag _ _ _ _ _ :: _, _, _, _, e => by cases e
theorem intsOf_map : ∀ ns : List Int, intsOf (ns.map D.int) = some ns
  | [] => rfl
  | n :: r => by
    show (intsOf (r.map D.int)).map (n :: ·) = _
    rw [intsOf_map r]
    rfl

theorem sim_abs : SimA g f (fun xs H Q => ∃ i, xs = [.int i] ∧ Q (.int (if i < 0 then -i else i)) H) oAbs := simA_i fun H xs ds S Qd Q r hm k => by
  unfold oAbs at hm
  split at hm
  · obtain ⟨v, rfl, h⟩ := repL1 r
    cases h
    exact ⟨_, rfl, k _ _ (fun _ => .int _) hm fun x e => (by cases x <;> cases e)⟩
  · exact hm.elim
theorem sim_max2 : SimA g f (fun xs H Q => ∃ i j, xs = [.int i, .int j] ∧ Q (.int (if j > i then j else i)) H) oMax2 := simA_i fun H xs ds S Qd Q r hm k => by
  unfold oMax2 at hm
  split at hm
  · obtain ⟨v, w, rfl, h, h'⟩ := repL2 r
    cases h
    cases h'
    exact ⟨_, _, rfl, k _ _ (fun _ => .int _) hm fun x e => (by cases x <;> cases e)⟩
  · exact hm.elim
theorem sim_min2 : SimA g f (fun xs H Q => ∃ i j, xs = [.int i, .int j] ∧ Q (.int (if j < i then j else i)) H) oMin2 := simA_i fun H xs ds S Qd Q r hm k => by
  unfold oMin2 at hm
  split at hm
  · obtain ⟨v, w, rfl, h, h'⟩ := repL2 r
    cases h
    cases h'
    exact ⟨_, _, rfl, k _ _ (fun _ => .int _) hm fun x e => (by cases x <;> cases e)⟩
  · exact hm.elim
theorem sim_int : SimA g f (fun xs H Q => (∃ i, xs = [.int i] ∧ Q (.int i) H) ∨ ∃ k, xs = [.bl k] ∧ Q (.int (if k then 1 else 0)) H) oInt := simA_i fun H xs ds S Qd Q r hm k => by
  unfold oInt at hm
  split at hm
  · obtain ⟨v, rfl, h⟩ := repL1 r
    cases h
    exact .inl ⟨_, rfl, k _ _ (fun _ => .int _) hm fun x e => (by cases x <;> cases e)⟩
  · obtain ⟨v, rfl, h⟩ := repL1 r
    cases h
    exact .inr ⟨_, rfl, k _ _ (fun _ => .int _) hm fun x e => (by cases x <;> cases e)⟩
  · exact hm.elim
theorem sim_str : SimA g f (fun xs H Q => ∃ i, xs = [.int i] ∧ i.natAbs.log2 < 1920 ∧ Q (.str (toString i)) H) oStr := simA_i fun H xs ds S Qd Q r hm k => by
  unfold oStr at hm
  split at hm
  · obtain ⟨v, rfl, h⟩ := repL1 r
    cases h
    exact ⟨_, rfl, (int_sm hm.1).1, k _ _ (fun _ => .str _) hm.2 fun x e => (by cases x <;> cases e)⟩
  · exact hm.elim
theorem sim_len {K : PySem.W.Frag} : SimA g f (fun xs H Q => ∃ x n, xs = [x] ∧ LenV K x H n ∧ Q (.int n) H) oLen := simA_i fun H xs ds S Qd Q r hm k => by
  unfold oLen at hm
  split at hm
  · obtain ⟨v, rfl, h⟩ := repL1 r
    cases h with
    | lst s e q => exact ⟨_, _, rfl, .inl ⟨_, SqL.of e, q.length.symm⟩, k _ _ (fun _ => .int _) hm fun x e => (by cases x <;> cases e)⟩
  · obtain ⟨v, rfl, h⟩ := repL1 r
    cases h with
    | tup s e q => exact ⟨_, _, rfl, .inr ⟨_, SqT.of e, q.length.symm⟩, k _ _ (fun _ => .int _) hm fun x e => (by cases x <;> cases e)⟩
  · obtain ⟨v, rfl, h⟩ := repL1 r
    cases h
    exact ⟨_, _, rfl, ⟨line_of hm.1, rfl⟩, k _ _ (fun _ => .int _) hm.2 fun x e => (by cases x <;> cases e)⟩
  · exact hm.elim
theorem sim_list {K : PySem.W.Frag} : SimA g true (fun xs H Q => ∃ p ys, xs = [.ref p] ∧ (SqL K H p ys ∨ SqT K H p ys) ∧ ∀ l, H l = none → Q (.ref l) (upd H l (.lst ys))) oList := by
  intro S H B xs ds Qd Q hd pb r hm k
  unfold oList at hm
  split at hm
  · obtain ⟨v, rfl, h⟩ := repL1 r
    cases h with
    | lst s e q => exact ⟨_, _, rfl, .inl (SqL.of e), fun p hp => give_lst pb hd hp q k hm⟩
  · obtain ⟨v, rfl, h⟩ := repL1 r
    cases h with
    | tup s e q => exact ⟨_, _, rfl, .inr (SqT.of e), fun p hp => give_lst pb hd hp q k hm⟩
  · exact hm.elim
theorem sim_tuple {K : PySem.W.Frag} : SimA g false (fun xs H Q => ∃ p ys, xs = [.ref p] ∧ ((SqL K H p ys ∧ ∀ l, H l = none → Q (.ref l) (upd H l (.tup ys))) ∨ (SqT K H p ys ∧ Q (.ref p) H))) oTuple := by
  intro S H B xs ds Qd Q hd pb r hm k
  unfold oTuple at hm
  split at hm
  · obtain ⟨v, rfl, h⟩ := repL1 r
    cases h with
    | lst s e q => exact ⟨_, _, rfl, .inl ⟨SqL.of e, fun p hp => give_tup pb hd hp q k hm⟩⟩
  · obtain ⟨v, rfl, h⟩ := repL1 r
    have h' := h
    cases h with
    | tup s e q => exact ⟨_, _, rfl, .inr ⟨SqT.of e, k _ H _ (Same.refl H) (rep_same hd h') (fun q => nomatch q) hm⟩⟩
  · exact hm.elim
/-- repr of plain data -/
theorem call_repr (hg : X.A.guards = some []) (hu : X.A.units + 64 < cLine) : CallR X (.builtin "repr") (fun xs H Q => ∃ x d, xs = [x] ∧ Dp X.K H x d ∧ d.showable = true ∧ d.hasDict = false ∧ d.depth ≤ 40 ∧ d.shown.length ≤ sizeLine ∧ Q (.str d.shown) H) := by
  intro pins s σ H xs us Q I r h
  obtain ⟨x, d, rfl, hd, hs, hn, hde, hz, q⟩ := h
  obtain ⟨u, rfl, rx⟩ := vals1 r
  obtain ⟨as, rd⟩ := Dp.reads I d x u hd rx
  have fin : ∀ tk h', (∀ b o, s.heap.get? b = some o → h'.get? b = some o) → ∀ y : Str, y = d.shown → ∀ t, EP X pins σ Q (.str y t) { s with heap := h', toks := tk } := fun tk h' hk y e t => by
    subst e
    exact ⟨.str _, H, I.kept hk, ⟨_, rfl⟩, q⟩
  cases hd with
  | non => cases rx; exact P.repr_of_none (fin _ _ (fun _ _ e => e) _ (by simp only [PyData.shown]) _)
  | bl b => cases rx; exact P.repr_of_bool (fin _ _ (fun _ _ e => e) _ (by simp only [PyData.shown]) _)
  | int i =>
    obtain ⟨t, rfl⟩ := rx
    simp only [PyData.showable, decide_eq_true_eq] at hs
    exact P.repr_of_int hs (fin _ _ (fun _ _ e => e) _ (by simp only [PyData.shown]) _)
  | str y =>
    obtain ⟨t, rfl⟩ := rx
    simp only [PyData.shown] at hz
    exact P.repr_of_str (hsz := hz) (fin _ _ (fun _ _ e => e) _ (by simp only [PyData.shown]) _)
  | lst _ _ =>
    cases rx
    exact repr_of_reads' rd hs (PyData.noDict_hsm hn) hg (by omega) (fun _ _ e => e) (fun h' u tk hk => fin tk h' hk _ rfl u) hz
  | tup _ _ =>
    cases rx
    exact repr_of_reads' rd hs (PyData.noDict_hsm hn) hg (by omega) (fun _ _ e => e) (fun h' u tk hk => fin tk h' hk _ rfl u) hz
theorem sim_repr {K : PySem.W.Frag} : SimA g f (fun xs H Q => ∃ x d, xs = [x] ∧ Dp K H x d ∧ d.showable = true ∧ d.hasDict = false ∧ d.depth ≤ 40 ∧ d.shown.length ≤ sizeLine ∧ Q (.str d.shown) H) oRepr := simA_i fun H xs ds S Qd Q r hm k => by
  unfold oRepr at hm
  split at hm
  · obtain ⟨v, rfl, h⟩ := repL1 r
    have z := hm.1.fits
    exact ⟨_, _, rfl, dp_of h hm.1.1, z.1, z.2.1, z.2.2.1, z.2.2.2, k _ _ (fun _ => .str _) hm.2 fun x e => (by cases x <;> cases e)⟩
  · exact hm.elim
theorem sim_sum {K : PySem.W.Frag} : SimA g f (rSum K) oSum := simA_i fun H xs ds S Qd Q r hm k => by
  unfold oSum at hm
  split at hm
  · obtain ⟨v, rfl, h⟩ := repL1 r
    cases h with
    | lst s e q =>
      split at hm
      · rename_i ns en
        have z := ints_of q en
        subst z
        exact ⟨_, ns, rfl, SqL.of e, k _ _ (fun _ => .int _) hm fun x e => (by cases x <;> cases e)⟩
      · exact hm.elim
  · exact hm.elim
theorem sim_maxL {K : PySem.W.Frag} : SimA g f (rMax K) oMaxL := simA_i fun H xs ds S Qd Q r hm k => by
  unfold oMaxL at hm
  split at hm
  · obtain ⟨v, rfl, h⟩ := repL1 r
    cases h with
    | lst s e q =>
      split at hm
      · rename_i ns en
        have z := ints_of q en
        subst z
        exact ⟨_, ns, rfl, SqL.of e, hm.1, fun m h1 h2 => k _ _ (fun _ => .int _) (hm.2 m h1 h2) fun x e => (by cases x <;> cases e)⟩
      · exact hm.elim
  · exact hm.elim
theorem sim_minL {K : PySem.W.Frag} : SimA g f (rMin K) oMinL := simA_i fun H xs ds S Qd Q r hm k => by
  unfold oMinL at hm
  split at hm
  · obtain ⟨v, rfl, h⟩ := repL1 r
    cases h with
    | lst s e q =>
      split at hm
      · rename_i ns en
        have z := ints_of q en
        subst z
        exact ⟨_, ns, rfl, SqL.of e, hm.1, fun m h1 h2 => k _ _ (fun _ => .int _) (hm.2 m h1 h2) fun x e => (by cases x <;> cases e)⟩
      · exact hm.elim
  · exact hm.elim
end
end VL

set_option Elab.async false
set_option linter.all false
set_option maxRecDepth 100000
set_option maxHeartbeats 4000000
/-! VL, part e: the state of a def's body; statements. own: the slots whose list nothing else leads to (it may be changed in place). -/
namespace VL
open PySem PySem.Spec PyProof.Rows L2

structure MEnds where
  nx : Env → Prop
  rt : D → Prop
  bk : Env → Prop
  ct : Env → Prop
abbrev MS := MEnds → Env → Prop
abbrev Gh := List (V × D × (Addr → Prop))

def scD : D → Bool
  | .non => true
  | .bl _ => true
  | .int _ => true
  | .str _ => true
  | _ => false
/-- slot i holds a list that no other slot leads to, nor any ghost, nor its own items -/
def Own (g : Gm) (H0 : Hp) (gs : Gh) (σ : L2.St) (H : Hp) (S : SS) (i : Nat) (d : D) : Prop :=
  ∃ xs l vs, ∃ T : Addr → Prop, d = mkD xs ∧ σ[i]? = some (some (.ref l)) ∧ H l = some (mkO xs vs) ∧ H0 l = none ∧ some l ≠ g.pa ∧ RepL g T H vs (its xs) ∧ ¬ T l ∧ (∀ a, T a → S i a) ∧ S i l ∧ (∀ j, j ≠ i → ¬ S j l) ∧ ∀ p, p ∈ gs → ¬ p.2.2 l
structure Rs (g : Gm) (H0 : Hp) (A0 : Addr → Prop) (own : List Nat) (gs : Gh) (σ : L2.St) (H : Hp) (env : Env) (S : SS) : Prop where
  rl : Rl g σ H env S
  fr : Fr g H0 H
  al : ∀ i a, S i a → H0 a = none ∨ A0 a
  gh : ∀ p, p ∈ gs → Rep g p.2.2 H p.1 p.2.1 ∧ ∀ a, p.2.2 a → (H a ≠ none ∧ some a ≠ g.pa) ∧ (H0 a = none ∨ A0 a)
  ow : ∀ i, i ∈ own → ∀ d, env[i]? = some (some d) → scD d = false → Own g H0 gs σ H S i d
section
variable {g : Gm} {H0 H H' : Hp} {A0 : Addr → Prop} {own own' : List Nat} {gs gs' : Gh} {σ : L2.St} {env : Env} {S : SS}
theorem Rs.ow2 (r : Rs g H0 A0 own gs σ H env S) {j : Nat} (hj : j ∈ own) {e : D} {l : Addr} (he : env[j]? = some (some e)) (hs : σ[j]? = some (some (.ref l))) : Own g H0 gs σ H S j e := r.ow j hj e he (by
  obtain ⟨v, h1, h2⟩ := r.rl.rep j e he
  rw [hs] at h1
  cases h1
  cases h2 <;> rfl)
theorem Rs.go (r : Rs g H0 A0 own gs σ H env S) (f : Fr g H H') : Rs g H0 A0 own gs σ H' env S where
  rl := r.rl.fr f
  fr := r.fr.trans f
  al := r.al
  gh := fun p hp => by
    obtain ⟨h1, h2⟩ := r.gh p hp
    exact ⟨h1.goN fun a o s e => ⟨s, f a o (h2 a s).1.2 e⟩, fun a s => ⟨⟨fun q => (h2 a s).1.1 (f.back (h2 a s).1.2 q), (h2 a s).1.2⟩, (h2 a s).2⟩⟩
  ow := fun i hi d e hs => by
    obtain ⟨xs, l, vs, T, h1, h2, h3, h4, h5, h6, h7, h8, h9, h10, h11⟩ := r.ow i hi d e hs
    exact ⟨xs, l, vs, T, h1, h2, f _ _ h5 h3, h4, h5, h6.goN fun a o s e => ⟨s, f a o (r.rl.dom i a (h8 a s)).2 e⟩, h7, h8, h9, h10, h11⟩
theorem Rs.less (r : Rs g H0 A0 own gs σ H env S) (ho : ∀ i, i ∈ own' → i ∈ own) (hg : ∀ p, p ∈ gs' → p ∈ gs) : Rs g H0 A0 own' gs' σ H env S where
  rl := r.rl
  fr := r.fr
  al := r.al
  gh := fun p hp => r.gh p (hg p hp)
  ow := fun i hi d e hs => by
    obtain ⟨xs, l, vs, T, h1, h2, h3, h4, h5, h6, h7, h8, h9, h10, h11⟩ := r.ow i (ho i hi) d e hs
    exact ⟨xs, l, vs, T, h1, h2, h3, h4, h5, h6, h7, h8, h9, h10, fun p hp => h11 p (hg p hp)⟩
/-- a slot is given a value within U; as f = true says, a list that it then owns -/
theorem Rs.put (r : Rs g H0 A0 own gs σ H env S) {i : Nat} {v : V} {d : D} {U : Addr → Prop} (rp : Rep g U H v d) (hU : ∀ a, U a → (H a ≠ none ∧ some a ≠ g.pa) ∧ (H0 a = none ∨ A0 a))
    (hn : ∀ j, j ∈ own → j ≠ i → ∀ l, σ[j]? = some (some (.ref l)) → (∃ e, env[j]? = some (some e)) → ¬ U l) (hown : ∀ j, j ∈ own' → j ≠ i → j ∈ own)
    (hf : i ∈ own' → scD d = false → ∃ xs l vs, ∃ T : Addr → Prop, d = mkD xs ∧ v = .ref l ∧ H l = some (mkO xs vs) ∧ H0 l = none ∧ some l ≠ g.pa ∧ RepL g T H vs (its xs) ∧ ¬ T l ∧ (∀ a, T a → U a) ∧ U l ∧ (∀ j, j ≠ i → ¬ S j l) ∧ ∀ p, p ∈ gs → ¬ p.2.2 l) :
    Rs g H0 A0 own' gs (σ.set i (some v)) H (env.set i (some d)) (fun j => if j = i then U else S j) := by
  have look : ∀ (j : Nat) (e : D), (env.set i (some d))[j]? = some (some e) → (j = i ∧ e = d ∧ i < env.length) ∨ (j ≠ i ∧ env[j]? = some (some e)) := fun j e h => by
    by_cases hj : j = i
    · subst hj
      by_cases hl : j < env.length
      · rw [List.getElem?_set_self hl] at h
        cases h
        exact .inl ⟨rfl, rfl, hl⟩
      · rw [List.getElem?_eq_none_iff.mpr (by rw [List.length_set]; omega)] at h
        cases h
    · rw [List.getElem?_set_ne (Ne.symm hj)] at h
      exact .inr ⟨hj, h⟩
  refine ⟨⟨by rw [List.length_set, List.length_set, r.rl.len], fun j e h => ?_, fun j a s => ?_⟩, r.fr, fun j a s => ?_, r.gh, fun j hj e h hsc => ?_⟩
  · rcases look j e h with ⟨rfl, rfl, hl⟩ | ⟨hj, h⟩
    · refine ⟨v, List.getElem?_set_self (by rw [r.rl.len]; exact hl), ?_⟩
      show Rep g (if j = j then U else S j) H v e
      rw [if_pos rfl]
      exact rp
    · obtain ⟨u, h1, h2⟩ := r.rl.rep j e h
      refine ⟨u, by rw [List.getElem?_set_ne (Ne.symm hj)]; exact h1, ?_⟩
      show Rep g (if j = i then U else S j) H u e
      rw [if_neg hj]
      exact h2
  · have s : (if j = i then U else S j) a := s
    by_cases hj : j = i
    · rw [if_pos hj] at s
      exact (hU a s).1
    · rw [if_neg hj] at s
      exact r.rl.dom j a s
  · have s : (if j = i then U else S j) a := s
    by_cases hj : j = i
    · rw [if_pos hj] at s
      exact (hU a s).2
    · rw [if_neg hj] at s
      exact r.al j a s
  · rcases look j e h with ⟨rfl, rfl, hl⟩ | ⟨hji, h⟩
    · obtain ⟨xs, l, vs, T, h1, h2, h3, h4, h5, h6, h7, h8, h9, h10, h11⟩ := hf hj hsc
      refine ⟨xs, l, vs, T, h1, ?_, h3, h4, h5, h6, h7, fun a t => ?_, ?_, fun k hk => ?_, h11⟩
      · rw [List.getElem?_set_self (by rw [r.rl.len]; exact hl), h2]
      · show (if j = j then U else S j) a
        rw [if_pos rfl]
        exact h8 a t
      · show (if j = j then U else S j) l
        rw [if_pos rfl]
        exact h9
      · show ¬ (if k = j then U else S k) l
        rw [if_neg hk]
        exact h10 k hk
    · obtain ⟨xs, l, vs, T, h1, h2, h3, h4, h5, h6, h7, h8, h9, h10, h11⟩ := r.ow j (hown j hj hji) e h hsc
      refine ⟨xs, l, vs, T, h1, by rw [List.getElem?_set_ne (Ne.symm hji)]; exact h2, h3, h4, h5, h6, h7, fun a t => ?_, ?_, fun k hk => ?_, h11⟩
      · show (if j = i then U else S j) a
        rw [if_neg hji]
        exact h8 a t
      · show (if j = i then U else S j) l
        rw [if_neg hji]
        exact h9
      · show ¬ (if k = i then U else S k) l
        by_cases hki : k = i
        · rw [if_pos hki]
          exact hn j (hown j hj hji) hji l h2 ⟨e, h⟩
        · rw [if_neg hki]
          exact h10 k hk
end

/-- what a return wants told -/
structure RtOk (g : Gm) (rk : Bool) (H0 : Hp) (A0 : Addr → Prop) (H : Hp) (v : V) (d : D) : Prop where
  fr : Fr g H0 H
  rep : Rep g (fun a => (H0 a = none ∨ A0 a) ∧ H a ≠ none ∧ some a ≠ g.pa) H v d
  fsh : rk = true → Fsh g (fun a => (H0 a = none ∨ A0 a) ∧ H a ≠ none ∧ some a ≠ g.pa) H0 H v d
/-- an exception that has come to be: of the class k, its value v -/
def Exf (g : Gm) (H0 : Hp) (A0 : Addr → Prop) (H : Hp) (k : Nat) (v : D) (cls : Value) (d : Option Addr) : Prop := ∃ da u, cls = .ref (g.C.xc k) ∧ d = some da ∧ H da = some (.xd [("value", u)]) ∧ H0 da = none ∧ some da ≠ g.pa ∧ Rep g (fun a => (H0 a = none ∨ A0 a) ∧ H a ≠ none ∧ some a ≠ g.pa) H u v
structure Br (g : Gm) (rk : Bool) (xw : Option WX) (ol : List Nat) (H0 : Hp) (A0 : Addr → Prop) (gs : Gh) (own : List Nat) (B : Nat) (M : MEnds) (D' : Ends) : Prop where
  nx : ∀ σ H env S, Rs g H0 A0 own gs σ H env S → PB g B H → M.nx env → D'.nx σ H
  rt : ∀ v H d, RtOk g rk H0 A0 H v d → PB g B H → M.rt d → D'.rt v H
  bk : ∀ σ H env S, Rs g H0 A0 ol gs σ H env S → PB g B H → M.bk env → D'.bk σ H
  ct : ∀ σ H env S, Rs g H0 A0 ol gs σ H env S → PB g B H → M.ct env → D'.ct σ H
  ex : ∀ W, xw = some W → ∀ σ H env S k v cls d, Rs g H0 A0 [] gs σ H env S → PB g B H → Exf g H0 A0 H k v cls d → M.rt (.exo k v env) → W cls d σ H
/-- a statement; own, own': what is owned ahead of it and behind; ol: what must be at a break, a continue -/
def VS (g : Gm) (rk : Bool) (xw : Option WX) (ol : List Nat) (X : Cx) (st : Stmt) (m : MS) (own own' : List Nat) (c : Nat) : Prop := ∃ t, PS X st t ∧ ∀ (H0 : Hp) (A0 : Addr → Prop) (gs : Gh) (σ : L2.St) (H : Hp) (env : Env) (S : SS) (B : Nat) (M : MEnds) (D' : Ends),
  Rs g H0 A0 own gs σ H env S → PB g B H → B + c ≤ Bmax → m M env → Br g rk xw ol H0 A0 gs own' (B + c) M D' → t D' σ H
def VB (g : Gm) (rk : Bool) (xw : Option WX) (ol : List Nat) (X : Cx) (st : List Stmt) (m : MS) (own own' : List Nat) (c : Nat) : Prop := ∃ t, PSs X st t ∧ ∀ (H0 : Hp) (A0 : Addr → Prop) (gs : Gh) (σ : L2.St) (H : Hp) (env : Env) (S : SS) (B : Nat) (M : MEnds) (D' : Ends),
  Rs g H0 A0 own gs σ H env S → PB g B H → B + c ≤ Bmax → m M env → Br g rk xw ol H0 A0 gs own' (B + c) M D' → t D' σ H

section
variable {g : Gm} {rk f fa fb : Bool} {xw : Option WX} {X : Cx} {e a b : Expr} {ma mb : ME} {R Ra Rb : List Nat} {c c1 c2 ca cb : Nat} {own own1 own2 own' ol : List Nat} {st st2 : Stmt} {rest : List Stmt} {m m1 m2 : MS} {pos : Pos}
def mNext : MS := fun M env => M.nx env
def mSeq (m1 m2 : MS) : MS := fun M env => m1 { M with nx := fun env' => m2 M env' } env
theorem vb_nil : VB g rk xw ol X [] mNext own own 0 := ⟨_, pss_nil, fun H0 A0 gs σ H env S B M D' r pb hb hm br => br.nx σ H env S r pb hm⟩
theorem vb_one (h : VS g rk xw ol X st m own own' c) : VB g rk xw ol X [st] m own own' c := by
  obtain ⟨t, p, k⟩ := h
  exact ⟨_, pss_one p, k⟩
theorem vb_cons (h : VS g rk xw ol X st m1 own own1 c1) (h' : VB g rk xw ol X rest m2 own1 own2 c2) : VB g rk xw ol X (st :: rest) (mSeq m1 m2) own own2 (c1 + c2) := by
  obtain ⟨t, p, k⟩ := h
  obtain ⟨t', p', k'⟩ := h'
  refine ⟨_, pss_cons p p', fun H0 A0 gs σ H env S B M D' r pb hb hm br => ?_⟩
  refine k H0 A0 gs σ H env S B _ _ r pb (by omega) hm ⟨fun σ1 H1 env1 S1 r1 pb1 hm1 => ?_, fun v H1 d r1 pb1 z => br.rt v H1 d r1 (pb1.mono (by omega)) z, fun σ1 H1 env1 S1 r1 pb1 z => br.bk _ _ _ _ r1 (pb1.mono (by omega)) z, fun σ1 H1 env1 S1 r1 pb1 z => br.ct _ _ _ _ r1 (pb1.mono (by omega)) z, fun W e σ1 H1 env1 S1 k v cls d r1 pb1 x z => br.ex W e _ _ _ _ _ _ _ _ r1 (pb1.mono (by omega)) x z⟩
  exact k' H0 A0 gs σ1 H1 env1 S1 (B + c1) M D' r1 pb1 (by omega) hm1 (by rw [Nat.add_assoc]; exact br)
/-- fewer slots are owned ahead of it, behind it -/
theorem VS.rel (h : VS g rk xw ol X st m own1 own2 c) (h1 : ∀ i, i ∈ own1 → i ∈ own) (h2 : ∀ i, i ∈ own' → i ∈ own2) : VS g rk xw ol X st m own own' c := by
  obtain ⟨t, p, k⟩ := h
  exact ⟨t, p, fun H0 A0 gs σ H env S B M D' r pb hb hm br => k H0 A0 gs σ H env S B M D' (r.less h1 fun _ q => q) pb hb hm ⟨fun σ1 H1 env1 S1 r1 => br.nx _ _ _ _ (r1.less h2 fun _ q => q), br.rt, br.bk, br.ct, br.ex⟩⟩
theorem VB.rel (h : VB g rk xw ol X rest m own1 own2 c) (h1 : ∀ i, i ∈ own1 → i ∈ own) (h2 : ∀ i, i ∈ own' → i ∈ own2) : VB g rk xw ol X rest m own own' c := by
  obtain ⟨t, p, k⟩ := h
  exact ⟨t, p, fun H0 A0 gs σ H env S B M D' r pb hb hm br => k H0 A0 gs σ H env S B M D' (r.less h1 fun _ q => q) pb hb hm ⟨fun σ1 H1 env1 S1 r1 => br.nx _ _ _ _ (r1.less h2 fun _ q => q), br.rt, br.bk, br.ct, br.ex⟩⟩
theorem vs_pass : VS g rk xw ol X (.Pass pos) mNext own own 0 := ⟨_, ps_pass, fun H0 A0 gs σ H env S B M D' r pb hb hm br => br.nx σ H env S r pb hm⟩
def mBreak : MS := fun M env => M.bk env
def mCont : MS := fun M env => M.ct env
def mNever : MS := fun _ _ => False
theorem vs_break (h : ∀ i, i ∈ ol → i ∈ own) : VS g rk xw ol X (.Break pos) mBreak own own' 0 := ⟨_, ps_break, fun H0 A0 gs σ H env S B M D' r pb hb hm br => br.bk σ H env S (r.less h fun _ q => q) pb hm⟩
theorem vs_cont (h : ∀ i, i ∈ ol → i ∈ own) : VS g rk xw ol X (.Continue pos) mCont own own' 0 := ⟨_, ps_continue, fun H0 A0 gs σ H env S B M D' r pb hb hm br => br.ct σ H env S (r.less h fun _ q => q) pb hm⟩
theorem vs_never : VS g rk xw ol X st mNever own own' 0 := ⟨_, ps_never, fun H0 A0 gs σ H env S B M D' r pb hb hm br => hm⟩
def mDrop (ma : ME) : MS := fun M env => ma env fun _ => M.nx env
theorem vs_expr (h : VE g X e ma R c f) (hp : ∀ {t : TE}, PE X e t → PS X (.Expr e pos) (tDrop t)) : VS g rk xw ol X (.Expr e pos) (mDrop ma) own own c := by
  obtain ⟨t, p, k⟩ := h
  exact ⟨_, hp p, fun H0 A0 gs σ H env S B M D' r pb hb hm br => k σ H env S B _ _ r.rl pb hb hm fun v H1 d A z => br.nx σ H1 env S (r.go A.fr) A.pb z⟩
/-- the addresses of a value read off slots -/
theorem sr_al {H0 H H' : Hp} {A0 : Addr → Prop} {gs : Gh} {σ : L2.St} {env : Env} {S : SS} (r : Rs g H0 A0 own gs σ H env S) {a : Addr} (s : Sr g R S H H' a) : H0 a = none ∨ A0 a := by
  rcases s.1 with n | ⟨i, _, s1⟩
  · exact .inl (r.fr.back s.2.2 n)
  · exact r.al i a s1
def mRet (ma : ME) : MS := fun M env => ma env M.rt
theorem vs_ret (h : VE g X e ma R c f) (hf : rk = true → f = true) : VS g rk xw ol X (.Return (some e) pos) (mRet ma) own own' c := by
  obtain ⟨t, p, k⟩ := h
  refine ⟨_, ps_ret p, fun H0 A0 gs σ H env S B M D' r pb hb hm br => k σ H env S B _ _ r.rl pb hb hm fun v H1 d A z => ?_⟩
  have up : ∀ a, Sr g R S H H1 a → (H0 a = none ∨ A0 a) ∧ H1 a ≠ none ∧ some a ≠ g.pa := fun a s => ⟨sr_al r s, s.2⟩
  exact br.rt v H1 d ⟨r.fr.trans A.fr, A.rep.mono up, fun q => fsh_up (fun a n e => r.fr.back n e) pb up (A.fsh (hf q))⟩ A.pb z
def mRetN : MS := fun M _ => M.rt .non
theorem vs_retN : VS g rk xw ol X (.Return none pos) mRetN own own' 0 := ⟨_, ps_retN, fun H0 A0 gs σ H env S B M D' r pb hb hm br => br.rt .non H .non ⟨r.fr, .non, fun _ xs e => (by cases xs <;> cases e)⟩ pb hm⟩
/-- return x, x an owned list -/
theorem vs_retO (i : Nat) {x : Str} {p : Pos} (h : PE X (.Name x p) (tVar i)) (hi : i ∈ own) : VS g rk xw ol X (.Return (some (.Name x p)) pos) (mRet (mVar i)) own own' 0 := by
  refine ⟨_, ps_ret h, fun H0 A0 gs σ H env S B M D' r pb hb hm br => ?_⟩
  unfold mRet mVar at hm
  split at hm
  · rename_i d e
    obtain ⟨v, h1, h2⟩ := r.rl.rep i d e
    have up : ∀ a, S i a → (H0 a = none ∨ A0 a) ∧ H a ≠ none ∧ some a ≠ g.pa := fun a s => ⟨r.al i a s, r.rl.dom i a s⟩
    refine ⟨v, h1, br.rt v H d ⟨r.fr, h2.mono up, fun _ xs q => ?_⟩ pb hm⟩
    obtain ⟨ys, l, vs, T, h3, h4, h5, h6, h7, h8, h9, h10, h11, h12, h13⟩ := r.ow i hi d e (by rw [q]; cases xs <;> rfl)
    rw [h1] at h4
    cases h4
    rw [h3] at q
    obtain rfl := mkD_inj q
    exact ⟨l, vs, T, rfl, h5, h6, h8, h9, fun a t => up a (h10 a t)⟩
  · exact hm.elim
/-- how a name is given: any value, a value without addresses, a new list that is then owned -/
inductive Md where
  | any | sc | own
def lsD : D → Bool
  | .lst _ => true
  | .dct _ => true
  | .non => true
  | .bl _ => true
  | .int _ => true
  | .str _ => true
  | _ => false
def mPut : Md → Nat → D → Env → (Env → Prop) → Prop
  | .any, i, d, env, Q => Q (env.set i (some d))
  | .sc, i, d, env, Q => scD d = true ∧ Q (env.set i (some d))
  | .own, i, d, env, Q => lsD d = true ∧ Q (env.set i (some d))
def ownBy (md : Md) (i : Nat) (own : List Nat) : List Nat := match md with
  | .own => i :: own.filter (· != i)
  | _ => own.filter (· != i)
def okBy (md : Md) (i : Nat) (own R : List Nat) (f : Bool) : Bool := match md with
  | .any => own.all fun j => j == i || !R.contains j
  | .sc => true
  | .own => f && own.all fun j => j == i || !R.contains j
theorem scD_rep {S : Addr → Prop} {H : Hp} {v : V} {d : D} (r : Rep g S H v d) (h : scD d = true) (U : Addr → Prop) : Rep g U H v d := by
  cases r <;> first | exact absurd h Bool.false_ne_true | constructor
theorem mem_ownBy {md : Md} {i j : Nat} (h : j ∈ ownBy md i own) (n : j ≠ i) : j ∈ own := by
  cases md <;> simp [ownBy] at h
  · exact h.1
  · exact h.1
  · exact (h.resolve_left n).1
theorem all_ok {i : Nat} (h : (own.all fun j => j == i || !R.contains j) = true) {j : Nat} (hj : j ∈ own) (n : j ≠ i) : j ∉ R := by
  rw [List.all_eq_true] at h
  have q := h j hj
  simp [n] at q
  exact q
/-- what the owned slots' lists are kept out of -/
theorem away_of {H0 H H' : Hp} {A0 : Addr → Prop} {gs : Gh} {σ : L2.St} {env : Env} {S : SS} {i : Nat} (r : Rs g H0 A0 own gs σ H env S) (h : (own.all fun j => j == i || !R.contains j) = true) :
    ∀ j, j ∈ own → j ≠ i → ∀ l, σ[j]? = some (some (.ref l)) → (∃ e, env[j]? = some (some e)) → ¬ Sr g R S H H' l := fun j hj n l hs ⟨e, he⟩ s => by
  obtain ⟨xs, l', vs, T, h1, h2, h3, h4, h5, h6, h7, h8, h9, h10, h11⟩ := r.ow2 hj he hs
  rw [hs] at h2
  cases h2
  rcases s.1 with q | ⟨k, hkR, sk⟩
  · rw [h3] at q
    cases q
  · by_cases e : k = j
    · subst e
      exact all_ok h hj n hkR
    · exact h10 k e sk
theorem lsD_of {d : D} (z : lsD d = true) : scD d = true ∨ ∃ xs, d = mkD xs := by
  unfold lsD at z
  split at z
  · exact .inr ⟨.l _, rfl⟩
  · exact .inr ⟨.d _, rfl⟩
  · exact .inl rfl
  · exact .inl rfl
  · exact .inl rfl
  · exact .inl rfl
  · exact absurd z Bool.false_ne_true
/-- a store, the set U given -/
theorem putU {H0 H : Hp} {A0 : Addr → Prop} {gs : Gh} {σ : L2.St} {env : Env} {S : SS} {i : Nat} {v : V} {d : D} {U : Addr → Prop} (md : Md) (r : Rs g H0 A0 own gs σ H env S) (rp : Rep g U H v d) (hU : ∀ a, U a → (H a ≠ none ∧ some a ≠ g.pa) ∧ (H0 a = none ∨ A0 a))
    (hn : md ≠ .sc → ∀ j, j ∈ own → j ≠ i → ∀ l, σ[j]? = some (some (.ref l)) → (∃ e, env[j]? = some (some e)) → ¬ U l)
    (hf : md = .own → ∀ xs, d = mkD xs → ∃ l vs, ∃ T : Addr → Prop, v = .ref l ∧ H l = some (mkO xs vs) ∧ H0 l = none ∧ some l ≠ g.pa ∧ RepL g T H vs (its xs) ∧ ¬ T l ∧ (∀ a, T a → U a) ∧ U l ∧ (∀ j, j ≠ i → ¬ S j l) ∧ ∀ p, p ∈ gs → ¬ p.2.2 l)
    {Q : Env → Prop} (hm : mPut md i d env Q) :
    ∃ S', Rs g H0 A0 (ownBy md i own) gs (σ.set i (some v)) H (env.set i (some d)) S' ∧ Q (env.set i (some d)) ∧ ∀ j a, S' j a → S j a ∨ U a := by
  have sub : ∀ (W : Addr → Prop), (∀ a, W a → U a) → ∀ j a, (if j = i then W else S j) a → S j a ∨ U a := fun W hW j a s => by
    by_cases hj : j = i
    · rw [if_pos hj] at s
      exact .inr (hW a s)
    · rw [if_neg hj] at s
      exact .inl s
  cases md with
  | any => exact ⟨_, r.put (i := i) rp hU (hn (fun q => nomatch q)) (fun j hj n => mem_ownBy hj n) (fun q => by simp [ownBy] at q), hm, sub U fun _ s => s⟩
  | sc => exact ⟨_, r.put (i := i) (U := fun _ => False) (scD_rep rp hm.1 _) (fun a s => s.elim) (fun _ _ _ _ _ _ s => s) (fun j hj n => mem_ownBy hj n) (fun q => by simp [ownBy] at q), hm.2, sub _ fun _ s => s.elim⟩
  | own =>
    rcases lsD_of hm.1 with hsc | ⟨xs, rfl⟩
    · exact ⟨_, r.put (i := i) rp hU (hn (fun q => nomatch q)) (fun j hj n => mem_ownBy hj n) (fun _ q => by rw [hsc] at q; cases q), hm.2, sub U fun _ s => s⟩
    · obtain ⟨l, vs, T, e1, e2⟩ := hf rfl xs rfl
      exact ⟨_, r.put (i := i) rp hU (hn (fun q => nomatch q)) (fun j hj n => mem_ownBy hj n) (fun _ _ => ⟨xs, l, vs, T, rfl, e1, e2⟩), hm.2, sub U fun _ s => s⟩
/-- several values come one after another, then they are stored one after another: what holds in between -/
structure Pst (g : Gm) (H0 : Hp) (A0 : Addr → Prop) (own0 : List Nat) (gs : Gh) (σ0 : L2.St) (H : Hp) (env0 : Env) (own : List Nat) (σ : L2.St) (Hk Hn : Hp) (env : Env) (Sk : SS) : Prop where
  rs : Rs g H0 A0 own gs σ Hn env Sk
  lo : ∀ j a, Sk j a → Hk a ≠ none
  ow : ∀ j, j ∈ own → ∀ l, σ[j]? = some (some (.ref l)) → (∃ e, env[j]? = some (some e)) → (j ∈ own0 ∧ σ0[j]? = some (some (.ref l)) ∧ ∃ e, env0[j]? = some (some e)) ∨ H l = none
theorem Pst.put {H0 H Hk Hk1 Hn : Hp} {A0 : Addr → Prop} {own0 : List Nat} {gs : Gh} {σ0 σ : L2.St} {env0 env : Env} {S Sk : SS} {i : Nat} {v : V} {d : D} {B : Nat} (md : Md) (r0 : Rs g H0 A0 own0 gs σ0 H env0 S) (P : Pst g H0 A0 own0 gs σ0 H env0 own σ Hk Hn env Sk)
    (fk : Fr g H Hk) (A : Aft g f R S Hk Hk1 B c v d) (pb : PB g B Hk) (fr : Fr g Hk1 Hn) (ok : okBy md i own R f = true) {Q : Env → Prop} (hm : mPut md i d env Q) :
    ∃ Sk1, Pst g H0 A0 own0 gs σ0 H env0 (ownBy md i own) (σ.set i (some v)) Hk1 Hn (env.set i (some d)) Sk1 ∧ Q (env.set i (some d)) := by
  have up : ∀ a, Sr g R S Hk Hk1 a → (Hn a ≠ none ∧ some a ≠ g.pa) ∧ (H0 a = none ∨ A0 a) := fun a s => ⟨⟨fun q => s.2.1 (fr.back s.2.2 q), s.2.2⟩, s.1.elim (fun n => .inl (r0.fr.back s.2.2 (fk.back s.2.2 n))) fun ⟨k, _, z⟩ => r0.al k a z⟩
  have rp : Rep g (Sr g R S Hk Hk1) Hn v d := A.rep.goN fun a o s e => ⟨s, fr a o s.2.2 e⟩
  have lo1 : ∀ a, Sr g R S Hk Hk1 a → Hk1 a ≠ none := fun a s => s.2.1
  have keep : ∀ a, Hk a ≠ none → some a ≠ g.pa → Hk1 a ≠ none := fun a h n q => h (A.fr.back n q)
  have hall : md ≠ .sc → (own.all fun j => j == i || !R.contains j) = true := fun n => by
    cases md with
    | any => exact ok
    | sc => exact absurd rfl n
    | own => exact (Bool.and_eq_true_iff.mp ok).2
  have away : md ≠ .sc → ∀ j, j ∈ own → j ≠ i → ∀ l, σ[j]? = some (some (.ref l)) → (∃ e, env[j]? = some (some e)) → ¬ Sr g R S Hk Hk1 l := fun hmd j hj n l hs he s => by
    rcases P.ow j hj l hs he with ⟨h1, h2, e, h3⟩ | h1
    · obtain ⟨xs, l', vs, T, g1, g2, g3, g4, g5, g6, g7, g8, g9, g10, g11⟩ := r0.ow2 h1 h3 h2
      rw [h2] at g2
      cases g2
      rcases s.1 with q | ⟨k, hkR, sk⟩
      · rw [fk _ _ g5 g3] at q
        cases q
      · by_cases e : k = j
        · subst e
          exact all_ok (hall hmd) hj n hkR
        · exact g10 k e sk
    · rcases s.1 with q | ⟨k, hkR, sk⟩
      · obtain ⟨e, he⟩ := he
        obtain ⟨xs, l', vs, T, g1, g2, g3, g4, g5, g6, g7, g8, g9, g10, g11⟩ := P.rs.ow2 hj he hs
        rw [hs] at g2
        cases g2
        exact P.lo j l g9 q
      · exact (r0.rl.dom k l sk).1 h1
  have fsh : md = .own → ∀ xs, d = mkD xs → ∃ l vs, ∃ T : Addr → Prop, v = .ref l ∧ Hn l = some (mkO xs vs) ∧ H0 l = none ∧ some l ≠ g.pa ∧ RepL g T Hn vs (its xs) ∧ ¬ T l ∧ (∀ a, T a → Sr g R S Hk Hk1 a) ∧ Sr g R S Hk Hk1 l ∧ (∀ j, j ≠ i → ¬ Sk j l) ∧ ∀ p, p ∈ gs → ¬ p.2.2 l := fun hmd xs e => by
    subst hmd
    obtain ⟨l, vs, T, e1, e2, e3, e4, e5, e6⟩ := A.fsh (Bool.and_eq_true_iff.mp ok).1 xs e
    have nl : some l ≠ g.pa := pb.not e3
    have hl0 : H l = none := fk.back nl e3
    refine ⟨l, vs, T, e1, fr _ _ nl e2, r0.fr.back nl hl0, nl, e4.goN fun a o t e => ⟨t, fr a o (e6 a t).2.2 e⟩, e5, e6, ⟨.inl e3, (by rw [e2]; exact fun q => (nomatch q)), nl⟩, fun j _ s => P.lo j l s e3, fun p hp s => ((r0.gh p hp).2 l s).1.1 hl0⟩
  obtain ⟨S', r', q, hs'⟩ := putU md P.rs rp up away fsh hm
  refine ⟨S', ⟨r', fun j a s => ?_, fun j hj l hs he => ?_⟩, q⟩
  · rcases hs' j a s with s | s
    · exact keep a (P.lo j a s) (P.rs.rl.dom j a s).2
    · exact lo1 a s
  · by_cases hji : j = i
    · subst hji
      obtain ⟨e, he⟩ := he
      obtain ⟨xs, l', vs, T, g1, g2, g3, g4, g5, g6, g7, g8, g9, g10, g11⟩ := r'.ow2 hj he hs
      rw [hs] at g2
      cases g2
      have hlen : j < σ.length := by
        have z := (List.getElem?_eq_some_iff.mp hs).1
        rwa [List.length_set] at z
      rw [List.getElem?_set_self hlen] at hs
      have ev : v = .ref l := by
        injection hs with hs
        injection hs
      have hmd : md = .own := by
        cases md with
        | any => simp [ownBy] at hj
        | sc => simp [ownBy] at hj
        | own => rfl
      have hlen2 : j < env.length := by
        have z := (List.getElem?_eq_some_iff.mp he).1
        rwa [List.length_set] at z
      rw [List.getElem?_set_self hlen2] at he
      have ed : d = e := by
        injection he with he
        injection he
      obtain ⟨l2, vs2, T2, e1, e2, e3, _⟩ := A.fsh (by subst hmd; exact (Bool.and_eq_true_iff.mp ok).1) xs (ed.trans g1)
      rw [ev] at e1
      cases e1
      exact .inr (fk.back (pb.not e3) e3)
    · have hs2 : σ[j]? = some (some (.ref l)) := by
        rw [← hs, List.getElem?_set_ne (Ne.symm hji)]
      obtain ⟨e, he⟩ := he
      exact P.ow j (mem_ownBy hj hji) l hs2 ⟨e, by rw [← he, List.getElem?_set_ne (Ne.symm hji)]⟩
theorem Rs.pst {H0 H Hn : Hp} {A0 : Addr → Prop} {gs : Gh} {σ : L2.St} {env : Env} {S : SS} (r : Rs g H0 A0 own gs σ H env S) (f : Fr g H Hn) : Pst g H0 A0 own gs σ H env own σ H Hn env S :=
  ⟨r.go f, fun j a s => (r.rl.dom j a s).1, fun j hj l hs he => .inl ⟨hj, hs, he⟩⟩
def mSet (md : Md) (i : Nat) (ma : ME) : MS := fun M env => ma env fun d => mPut md i d env M.nx
theorem vs_set (md : Md) {i : Nat} {x : Str} {p : Pos} (h : VE g X e ma R c f) (hp : ∀ {t : TE}, PE X e t → PS X (.Assign [.Name x p] e pos) (tAsg t (gName i))) (ok : okBy md i own R f = true) : VS g rk xw ol X (.Assign [.Name x p] e pos) (mSet md i ma) own (ownBy md i own) c := by
  obtain ⟨t, p, k⟩ := h
  refine ⟨_, hp p, fun H0 A0 gs σ H env S B M D' r pb hb hm br => k σ H env S B _ _ r.rl pb hb hm fun v H1 d A z => ?_⟩
  obtain ⟨S', P', q⟩ := (r.pst A.fr).put md r Fr.refl A pb Fr.refl ok z
  exact br.nx _ _ _ _ P'.rs A.pb q
/-- a, b = x, y -/
def mPar (md1 md2 : Md) (i j : Nat) (ma mb : ME) : MS := fun M env => ma env fun d => mb env fun e => mPut md1 i d env fun env1 => mPut md2 j e env1 M.nx
theorem vs_par (md1 md2 : Md) {i j : Nat} {x y : Str} {px py pt : Pos} {kt k2 pt2} (ha : VE g X a ma Ra ca fa) (hb : VE g X b mb Rb cb fb)
    (hp : ∀ {ta tb : TE}, PE X a ta → PE X b tb → PS X (.Assign [.Tuple [.Name x px, .Name y py] kt pt] (.Tuple [a, b] k2 pt2) pos) (tPar i j (tCons ta (tCons tb tNil))))
    (ok1 : okBy md1 i own Ra fa = true) (ok2 : okBy md2 j (ownBy md1 i own) Rb fb = true) :
    VS g rk xw ol X (.Assign [.Tuple [.Name x px, .Name y py] kt pt] (.Tuple [a, b] k2 pt2) pos) (mPar md1 md2 i j ma mb) own (ownBy md2 j (ownBy md1 i own)) (ca + cb) := by
  obtain ⟨t, p, k⟩ := ha
  obtain ⟨t', p', k'⟩ := hb
  refine ⟨_, hp p p', fun H0 A0 gs σ H env S B M D' r pb hb hm br => ?_⟩
  refine k σ H env S B _ _ r.rl pb (by omega) hm fun v H1 d A z => ?_
  refine k' σ H1 env S (B + ca) _ _ (r.rl.fr A.fr) A.pb (by omega) z fun w H2 e A2 z2 => ?_
  refine ⟨v, w, rfl, ?_⟩
  obtain ⟨S1, P1, q1⟩ := (r.pst (A.fr.trans A2.fr)).put md1 r Fr.refl A pb A2.fr ok1 z2
  obtain ⟨S2, P2, q2⟩ := P1.put md2 r A.fr A2 A.pb Fr.refl ok2 q1
  exact br.nx _ _ _ _ P2.rs (A2.pb.mono (by omega)) q2
def mPar3 (md1 md2 md3 : Md) (i j l : Nat) (ma mb mc : ME) : MS := fun M env => ma env fun d => mb env fun e => mc env fun f => mPut md1 i d env fun env1 => mPut md2 j e env1 fun env2 => mPut md3 l f env2 M.nx
theorem vs_par3 (md1 md2 md3 : Md) {i j l : Nat} {x y z : Str} {px py pz pt : Pos} {kt k2 pt2} {c : Expr} {mc : ME} {Rc : List Nat} {cc : Nat} {fc : Bool} (ha : VE g X a ma Ra ca fa) (hb : VE g X b mb Rb cb fb) (hc : VE g X c mc Rc cc fc)
    (hp : ∀ {ta tb tc : TE}, PE X a ta → PE X b tb → PE X c tc → PS X (.Assign [.Tuple [.Name x px, .Name y py, .Name z pz] kt pt] (.Tuple [a, b, c] k2 pt2) pos) (tPar3 i j l (tCons ta (tCons tb (tCons tc tNil)))))
    (ok1 : okBy md1 i own Ra fa = true) (ok2 : okBy md2 j (ownBy md1 i own) Rb fb = true) (ok3 : okBy md3 l (ownBy md2 j (ownBy md1 i own)) Rc fc = true) :
    VS g rk xw ol X (.Assign [.Tuple [.Name x px, .Name y py, .Name z pz] kt pt] (.Tuple [a, b, c] k2 pt2) pos) (mPar3 md1 md2 md3 i j l ma mb mc) own (ownBy md3 l (ownBy md2 j (ownBy md1 i own))) (ca + cb + cc) := by
  obtain ⟨t, p, k⟩ := ha
  obtain ⟨t', p', k'⟩ := hb
  obtain ⟨t2, p2, k2⟩ := hc
  refine ⟨_, hp p p' p2, fun H0 A0 gs σ H env S B M D' r pb hb hm br => ?_⟩
  refine k σ H env S B _ _ r.rl pb (by omega) hm fun v H1 d A z => ?_
  refine k' σ H1 env S (B + ca) _ _ (r.rl.fr A.fr) A.pb (by omega) z fun w H2 e A2 z2 => ?_
  refine k2 σ H2 env S (B + ca + cb) _ _ ((r.rl.fr A.fr).fr A2.fr) A2.pb (by omega) z2 fun u H3 e3 A3 z3 => ?_
  refine ⟨v, w, u, rfl, ?_⟩
  obtain ⟨S1, P1, q1⟩ := (r.pst ((A.fr.trans A2.fr).trans A3.fr)).put md1 r Fr.refl A pb (A2.fr.trans A3.fr) ok1 z3
  obtain ⟨S2, P2, q2⟩ := P1.put md2 r A.fr A2 A.pb A3.fr ok2 q1
  obtain ⟨S3, P3, q3⟩ := P2.put md3 r (A.fr.trans A2.fr) A3 A2.pb Fr.refl ok3 q2
  exact br.nx _ _ _ _ P3.rs (A3.pb.mono (by omega)) q3
end
end VL

set_option Elab.async false
set_option linter.all false
set_option maxRecDepth 100000
set_option maxHeartbeats 4000000
/-! VL, part f: targets, lists changed in place, if, while, for. -/
namespace VL
open PySem PySem.Spec PyProof.Rows L2

/-! ### targets -/
abbrev MG := D → Env → (Env → Prop) → Prop
abbrev MGs := List D → Env → (Env → Prop) → Prop
/-- what a target's store leaves -/
structure Unc (ix : List Nat) (σ σ' : L2.St) (env env' : Env) (S S' : SS) (U : Addr → Prop) : Prop where
  len : σ'.length = σ.length
  eq : ∀ j, j ∉ ix → σ'[j]? = σ[j]? ∧ env'[j]? = env[j]?
  sub : ∀ j a, S' j a → S j a ∨ U a
def VG (g : Gm) (X : Cx) (tg : Expr) (b : MG) (ix : List Nat) : Prop := ∃ t, PG X tg t ∧ ∀ (H0 : Hp) (A0 : Addr → Prop) (own : List Nat) (gs : Gh) (σ : L2.St) (H : Hp) (env : Env) (S : SS) (U : Addr → Prop) (v : V) (d : D) (Qe : Env → Prop) (Q : L2.St → Hp → Prop),
  Rs g H0 A0 own gs σ H env S → Rep g U H v d → (∀ a, U a → (H a ≠ none ∧ some a ≠ g.pa) ∧ (H0 a = none ∨ A0 a)) → (∀ j, j ∈ own → j ∉ ix) → (∀ j, j ∈ own → ∀ l, σ[j]? = some (some (.ref l)) → (∃ e, env[j]? = some (some e)) → ¬ U l) → b d env Qe →
  (∀ σ' env' S', Rs g H0 A0 own gs σ' H env' S' → Unc ix σ σ' env env' S S' U → Qe env' → Q σ' H) → t v σ H Q
def VGs (g : Gm) (X : Cx) (tg : List Expr) (b : MGs) (ix : List Nat) : Prop := ∃ t, PGs X tg t ∧ ∀ (H0 : Hp) (A0 : Addr → Prop) (own : List Nat) (gs : Gh) (σ : L2.St) (H : Hp) (env : Env) (S : SS) (U : Addr → Prop) (vs : List V) (ds : List D) (Qe : Env → Prop) (Q : L2.St → Hp → Prop),
  Rs g H0 A0 own gs σ H env S → RepL g U H vs ds → (∀ a, U a → (H a ≠ none ∧ some a ≠ g.pa) ∧ (H0 a = none ∨ A0 a)) → (∀ j, j ∈ own → j ∉ ix) → (∀ j, j ∈ own → ∀ l, σ[j]? = some (some (.ref l)) → (∃ e, env[j]? = some (some e)) → ¬ U l) → b ds env Qe →
  (∀ σ' env' S', Rs g H0 A0 own gs σ' H env' S' → Unc ix σ σ' env env' S S' U → Qe env' → Q σ' H) → t vs σ H Q
def bName (i : Nat) : MG := fun d env Q => Q (env.set i (some d))
def bNil : MGs := fun ds env Q => match ds with
  | [] => Q env
  | _ => False
def bCons (b : MG) (bs : MGs) : MGs := fun ds env Q => match ds with
  | d :: r => b d env fun env1 => bs r env1 Q
  | _ => False
def bTup (bs : MGs) : MG := fun d env Q => match d with
  | .tup ds => bs ds env Q
  | _ => False
section
variable {g : Gm} {rk f fa fb : Bool} {xw : Option WX} {X : Cx} {e a b : Expr} {ma mb : ME} {R Ra Rb : List Nat} {c c1 c2 ca cb : Nat} {own own1 own2 own' ol ix ix2 : List Nat} {st st2 : Stmt} {body : List Stmt} {m m1 m2 : MS} {pos : Pos}
theorem vg_name (i : Nat) {x : Str} (h : PG X (.Name x pos) (gName i)) : VG g X (.Name x pos) (bName i) [i] := by
  refine ⟨_, h, fun H0 A0 own gs σ H env S U v d Qe Q r rp hU hix hn hb k => ?_⟩
  have ni : ∀ j, j ∈ own → j ≠ i := fun j hj e => hix j hj (by simp [e])
  exact k _ _ _ (r.put (i := i) (own' := own) rp hU (fun j hj _ => hn j hj) (fun j hj _ => hj) (fun hi => absurd rfl (ni i hi))) ⟨List.length_set, fun j hj => by
    have n : i ≠ j := fun e => hj (by simp [e])
    exact ⟨List.getElem?_set_ne n, List.getElem?_set_ne n⟩, fun j a s => by
    have s : (if j = i then U else S j) a := s
    by_cases hj : j = i
    · rw [if_pos hj] at s
      exact .inr s
    · rw [if_neg hj] at s
      exact .inl s⟩ hb
theorem vg_nil : VGs g X [] bNil [] := by
  refine ⟨_, pgs_nil, fun H0 A0 own gs σ H env S U vs ds Qe Q r rp hU hix hn hb k => ?_⟩
  unfold bNil at hb
  split at hb
  · cases rp
    exact ⟨rfl, k _ _ _ r ⟨rfl, fun _ _ => ⟨rfl, rfl⟩, fun _ _ s => .inl s⟩ hb⟩
  · exact hb.elim
theorem vg_cons {es : List Expr} {b : MG} {bs : MGs} (h : VG g X e b ix) (h' : VGs g X es bs ix2) (hp : ∀ {t : TG} {u : TGs}, PG X e t → PGs X es u → PGs X (e :: es) (gCons t u)) : VGs g X (e :: es) (bCons b bs) (ix ++ ix2) := by
  obtain ⟨t, p, k⟩ := h
  obtain ⟨t', p', k'⟩ := h'
  refine ⟨_, hp p p', fun H0 A0 own gs σ H env S U vs ds Qe Q r rp hU hix hn hb q => ?_⟩
  unfold bCons at hb
  split at hb
  · cases rp with
    | cons x y =>
      refine ⟨_, _, rfl, ?_⟩
      have h1 : ∀ j, j ∈ own → j ∉ ix := fun j hj z => hix j hj (List.mem_append_left _ z)
      have h2 : ∀ j, j ∈ own → j ∉ ix2 := fun j hj z => hix j hj (List.mem_append_right _ z)
      refine k H0 A0 own gs σ H env S U _ _ _ _ r x hU h1 hn hb fun σ1 env1 S1 r1 un1 hb1 => ?_
      refine k' H0 A0 own gs σ1 H env1 S1 U _ _ _ _ r1 y hU h2 (fun j hj l hs he => ?_) hb1 fun σ2 env2 S2 r2 un2 hb2 => q σ2 env2 S2 r2 ⟨un2.len.trans un1.len, fun j hj => ?_, fun j a s => (un2.sub j a s).elim (un1.sub j a) .inr⟩ hb2
      · have u := un1.eq j (h1 j hj)
        rw [u.1] at hs
        rw [u.2] at he
        exact hn j hj l hs he
      · have u1 := un1.eq j fun z => hj (List.mem_append_left _ z)
        have u2 := un2.eq j fun z => hj (List.mem_append_right _ z)
        exact ⟨u2.1.trans u1.1, u2.2.trans u1.2⟩
  · exact hb.elim
theorem vg_tup {es : List Expr} {bs : MGs} {k0 : Nat} {p0 : Pos} (h : VGs g X es bs ix) (hn : ∀ {t : TGs}, PGs X es t → PG X (.Tuple es k0 p0) (gTup X.K es.length t)) (hl : ∀ ds env Q, bs ds env Q → ds.length = es.length) : VG g X (.Tuple es k0 p0) (bTup bs) ix := by
  obtain ⟨t, p, k⟩ := h
  refine ⟨_, hn p, fun H0 A0 own gs σ H env S U v d Qe Q r rp hU hix hn hb q => ?_⟩
  unfold bTup at hb
  split at hb
  · cases rp with
    | tup s e0 r0 => exact ⟨_, _, rfl, SqT.of e0, by rw [r0.length]; exact hl _ _ _ hb, k H0 A0 own gs σ H env S U _ _ _ _ r r0 hU hix hn hb q⟩
  · exact hb.elim
/-- target = e -/
def mAsg (ma : ME) (b : MG) : MS := fun M env => ma env fun d => b d env M.nx
theorem vs_asg {tg : Expr} {b : MG} (h : VE g X e ma R c f) (hg : VG g X tg b ix) (hp : ∀ {t : TE} {u : TG}, PE X e t → PG X tg u → PS X (.Assign [tg] e pos) (tAsg t u)) (ok : (own.all fun j => !ix.contains j && !R.contains j) = true) : VS g rk xw ol X (.Assign [tg] e pos) (mAsg ma b) own own c := by
  obtain ⟨t, p, k⟩ := h
  obtain ⟨u, pu, ku⟩ := hg
  refine ⟨_, hp p pu, fun H0 A0 gs σ H env S B M D' r pb hb hm br => k σ H env S B _ _ r.rl pb hb hm fun v H1 d A z => ?_⟩
  rw [List.all_eq_true] at ok
  have o1 : ∀ j, j ∈ own → j ∉ ix := fun j hj => by
    have q := ok j hj
    simp at q
    exact q.1
  have o2 : ∀ j, j ∈ own → j ∉ R := fun j hj => by
    have q := ok j hj
    simp at q
    exact q.2
  refine ku H0 A0 own gs σ H1 env S (Sr g R S H H1) v d _ _ (r.go A.fr) A.rep (fun a s => ⟨s.2, sr_al r s⟩) o1 (fun j hj l hs he s => ?_) z fun σ' env' S' r' _ q => br.nx σ' H1 env' S' r' A.pb q
  obtain ⟨e, he⟩ := he
  obtain ⟨xs, l', vs, T, h1, h2, h3, h4, h5, h6, h7, h8, h9, h10, h11⟩ := r.ow2 hj he hs
  rw [hs] at h2
  cases h2
  rcases s.1 with q | ⟨k, hkR, sk⟩
  · rw [h3] at q
    cases q
  · by_cases e : k = j
    · subst e
      exact o2 k hj hkR
    · exact h10 k e sk

/-! ### a list changed in place -/
theorem Rs.mutate {H0 H : Hp} {A0 : Addr → Prop} {gs : Gh} {σ : L2.St} {env : Env} {S : SS} (r : Rs g H0 A0 own gs σ H env S) {k : Nat} (hk : k ∈ own) {xs : List D} (he : env[k]? = some (some (.lst xs))) {U : Addr → Prop} (hU : ∀ a, U a → (H a ≠ none ∧ some a ≠ g.pa) ∧ (H0 a = none ∨ A0 a))
    (hn : ∀ j, j ∈ own → ∀ l, σ[j]? = some (some (.ref l)) → (∃ e, env[j]? = some (some e)) → ¬ U l) :
    ∃ l vs, σ[k]? = some (some (.ref l)) ∧ H l = some (.lst vs) ∧ ∃ T : Addr → Prop, RepL g T H vs xs ∧ ∀ vs' xs', RepL g (fun a => T a ∨ U a) H vs' xs' → Fr g H0 (upd H l (.lst vs')) ∧ (∀ B, PB g B H → PB g B (upd H l (.lst vs'))) ∧ Rs g H0 A0 own gs σ (upd H l (.lst vs')) (env.set k (some (.lst xs'))) (fun j a => S j a ∨ (j = k ∧ U a)) := by
  obtain ⟨ys, l, vs, T, h1, h2, h3, h4, h5, h6, h7, h8, h9, h10, h11⟩ := r.ow k hk _ he rfl
  obtain rfl := kx_lst h1
  refine ⟨l, vs, h2, h3, T, h6, fun vs' xs' rp => ?_⟩
  have nU : ¬ U l := hn k hk l h2 ⟨_, he⟩
  have hT : ∀ a, T a → a ≠ l := fun a t e => h7 (e ▸ t)
  have fr : Fr g H0 (upd H l (.lst vs')) := r.fr.put _ h4
  have dm : ∀ a, H a ≠ none → upd H l (.lst vs') a ≠ none := fun a n => by
    by_cases q : a = l
    · rw [q, upd_same]
      exact fun z => nomatch z
    · rw [upd_ne q]
      exact n
  refine ⟨fr, fun B pb => pb.put1 h5 h3, ?_⟩
  have keep : ∀ {W : Addr → Prop}, ¬ W l → ∀ a o, W a → H a = some o → W a ∧ upd H l (.lst vs') a = some o := fun {W} nw a o w e => by
    have na : a ≠ l := fun q => nw (by rw [← q]; exact w)
    refine ⟨w, ?_⟩
    rw [upd_ne na]
    exact e
  have rp' : RepL g (fun a => T a ∨ U a) (upd H l (.lst vs')) vs' xs' := rp.go (keep (W := fun a => T a ∨ U a) (fun z => z.elim h7 nU))
  have look : ∀ (j : Nat) (e : D), (env.set k (some (.lst xs')))[j]? = some (some e) → (j = k ∧ e = .lst xs') ∨ (j ≠ k ∧ env[j]? = some (some e)) := fun j e h => by
    by_cases hj : j = k
    · subst hj
      rw [List.getElem?_set_self (List.getElem?_eq_some_iff.mp he).1] at h
      cases h
      exact .inl ⟨rfl, rfl⟩
    · rw [List.getElem?_set_ne (Ne.symm hj)] at h
      exact .inr ⟨hj, h⟩
  refine ⟨⟨by rw [List.length_set]; exact r.rl.len, fun j e h => ?_, fun j a s => ?_⟩, fr, fun j a s => ?_, fun p hp => ?_, fun j hj e h hsc => ?_⟩
  · rcases look j e h with ⟨rfl, rfl⟩ | ⟨hj, h⟩
    · exact ⟨_, h2, .lst (.inl h9) upd_same (rp'.mono fun a t => t.elim (fun t => .inl (h8 a t)) fun u => .inr ⟨rfl, u⟩)⟩
    · obtain ⟨v, g1, g2⟩ := r.rl.rep j e h
      exact ⟨v, g1, (g2.go (keep (h10 j hj))).mono fun a s => .inl s⟩
  · rcases s with s | ⟨_, u⟩
    · exact ⟨dm a (r.rl.dom j a s).1, (r.rl.dom j a s).2⟩
    · exact ⟨dm a (hU a u).1.1, (hU a u).1.2⟩
  · rcases s with s | ⟨_, u⟩
    · exact r.al j a s
    · exact (hU a u).2
  · obtain ⟨g1, g2⟩ := r.gh p hp
    exact ⟨g1.go (keep (h11 p hp)), fun a s => ⟨⟨dm a (g2 a s).1.1, (g2 a s).1.2⟩, (g2 a s).2⟩⟩
  · rcases look j e h with ⟨rfl, rfl⟩ | ⟨hjk, h⟩
    · exact ⟨.l xs', l, vs', _, rfl, h2, upd_same, h4, h5, rp', fun t => t.elim h7 nU, fun a t => t.elim (fun t => .inl (h8 a t)) (fun u => .inr ⟨rfl, u⟩), .inl h9, fun i hi s => s.elim (h10 i hi) (fun z => hi z.1), h11⟩
    · obtain ⟨ys, l', us, T', g1, g2, g3, g4, g5, g6, g7, g8, g9, g10, g11⟩ := r.ow j hj e h hsc
      have nl : l' ≠ l := fun q => h10 j hjk (q ▸ g9)
      refine ⟨ys, l', us, T', g1, g2, by rw [upd_ne nl]; exact g3, g4, g5, g6.go (keep fun t => h10 j hjk (g8 _ t)), g7, fun a t => .inl (g8 a t), .inl g9, fun i hi s => ?_, g11⟩
      rcases s with s | ⟨_, u⟩
      · exact g10 i hi s
      · exact hn j hj l' g2 ⟨e, h⟩ u
/-- how the new item comes in: any value, a value without addresses -/
def okIn (sc : Bool) (own R : List Nat) : Bool := sc || own.all fun j => !R.contains j
def scIf (sc : Bool) (d : D) : Prop := sc = true → scD d = true
theorem in_set {H0 H H' : Hp} {A0 : Addr → Prop} {gs : Gh} {σ : L2.St} {env : Env} {S : SS} {B : Nat} {v : V} {d : D} {sc : Bool} (r : Rs g H0 A0 own gs σ H env S) (A : Aft g f R S H H' B c v d) (ok : okIn sc own R = true) (hs : scIf sc d) :
    ∃ U : Addr → Prop, Rep g U H' v d ∧ (∀ a, U a → (H' a ≠ none ∧ some a ≠ g.pa) ∧ (H0 a = none ∨ A0 a)) ∧ ∀ j, j ∈ own → ∀ l, σ[j]? = some (some (.ref l)) → (∃ e, env[j]? = some (some e)) → ¬ U l := by
  cases sc with
  | true => exact ⟨fun _ => False, scD_rep A.rep (hs rfl) _, fun a s => s.elim, fun _ _ _ _ _ s => s⟩
  | false =>
    have ok : (own.all fun j => !R.contains j) = true := ok
    rw [List.all_eq_true] at ok
    refine ⟨_, A.rep, fun a s => ⟨s.2, sr_al r s⟩, fun j hj l hs he s => ?_⟩
    have nR : j ∉ R := by
      have q := ok j hj
      simpa using q
    obtain ⟨e, he⟩ := he
    obtain ⟨xs, l', vs, T, h1, h2, h3, h4, h5, h6, h7, h8, h9, h10, h11⟩ := r.ow2 hj he hs
    rw [hs] at h2
    cases h2
    rcases s.1 with q | ⟨k, hkR, sk⟩
    · rw [h3] at q
      cases q
    · by_cases e : k = j
      · subst e
        exact nR hkR
      · exact h10 k e sk
def isL : Option (Option D) → (List D → Prop) → Prop
  | some (some (.lst xs)), Q => Q xs
  | _, _ => False
theorem isL_of {o : Option (Option D)} {Q : List D → Prop} (h : isL o Q) : ∃ xs, o = some (some (.lst xs)) ∧ Q xs := by
  unfold isL at h
  split at h
  · exact ⟨_, rfl, h⟩
  · exact h.elim
def mApp (sc : Bool) (k : Nat) (ma : ME) : MS := fun M env => isL env[k]? fun xs => ma env fun d => scIf sc d ∧ xs.length < 100000 ∧ M.nx (env.set k (some (.lst (xs ++ [d]))))
theorem lt_line {n : Nat} (h : n < 100000) : n < sizeLine := Nat.lt_of_lt_of_le h (by decide)
/-- x.append(e), x owned -/
theorem vs_app (sc : Bool) {k : Nat} {call : Expr} (h : VE g X e ma R c f) (hk : k ∈ own) (ok : okIn sc own R = true)
    (hp : ∀ {t : TE}, PE X e t → PS X (.Expr call pos) (tDrop (tBM X.K "list" rAppend (tVar k) (tCons t tNil)))) : VS g rk xw ol X (.Expr call pos) (mApp sc k ma) own own c := by
  obtain ⟨t, p, q⟩ := h
  refine ⟨_, hp p, fun H0 A0 gs σ H env S B M D' r pb hb hm br => ?_⟩
  obtain ⟨xs, he, hm⟩ := isL_of hm
  obtain ⟨ys, l, vs, T, h1, h2, h3, h4, h5, h6⟩ := r.ow k hk _ he rfl
  obtain rfl := kx_lst h1
  refine ⟨.ref l, h2, .inl ⟨rfl, _, .inl (.inl h3)⟩, ?_⟩
  refine q σ H env S B _ _ r.rl pb hb hm fun v H1 d A z => ?_
  obtain ⟨U, rp, hU, hn⟩ := in_set r A ok z.1
  obtain ⟨l', vs', g1, g2, T', g3, g4⟩ := (r.go A.fr).mutate hk he hU hn
  rw [h2] at g1
  cases g1
  refine ⟨l, vs', v, rfl, rfl, g2, by rw [g3.length]; exact lt_line z.2.1, ?_⟩
  have fin := g4 (vs' ++ [v]) (xs ++ [d]) ((g3.mono fun a t => .inl t).append (.cons (rp.mono fun a u => .inr u) .nil))
  exact br.nx _ _ _ _ fin.2.2 (fin.2.1 _ A.pb) z.2.2
def mExt (sc : Bool) (k : Nat) (ma : ME) : MS := fun M env => isL env[k]? fun xs => ma env fun d => isL (some (some d)) fun ys => (sc = true → ys.all scD = true) ∧ xs.length + ys.length ≤ 100000 ∧ M.nx (env.set k (some (.lst (xs ++ ys))))
theorem scDs_rep {S U : Addr → Prop} {H : Hp} : ∀ {ds : List D} {vs : List V}, RepL g S H vs ds → ds.all scD = true → RepL g U H vs ds
  | [], _, r, _ => by cases r; exact .nil
  | d :: ds, _, r, h => by
    rw [List.all_cons, Bool.and_eq_true] at h
    cases r with
    | cons a b => exact .cons (scD_rep a h.1 U) (scDs_rep b h.2)
theorem vs_ext (sc : Bool) {k : Nat} {call : Expr} (h : VE g X e ma R c f) (hk : k ∈ own) (ok : okIn sc own R = true)
    (hp : ∀ {t : TE}, PE X e t → PS X (.Expr call pos) (tDrop (tBM X.K "list" rExtend (tVar k) (tCons t tNil)))) : VS g rk xw ol X (.Expr call pos) (mExt sc k ma) own own c := by
  obtain ⟨t, p, q⟩ := h
  refine ⟨_, hp p, fun H0 A0 gs σ H env S B M D' r pb hb hm br => ?_⟩
  obtain ⟨xs, he, hm⟩ := isL_of hm
  obtain ⟨ys, l, vs, T, h1, h2, h3, h4, h5, h6⟩ := r.ow k hk _ he rfl
  obtain rfl := kx_lst h1
  refine ⟨.ref l, h2, .inl ⟨rfl, _, .inl (.inl h3)⟩, ?_⟩
  refine q σ H env S B _ _ r.rl pb hb hm fun v H1 d A z => ?_
  obtain ⟨zs, e1, z⟩ := isL_of z
  cases e1
  have ex : ∃ U : Addr → Prop, (∃ b us, v = .ref b ∧ H1 b = some (.lst us) ∧ RepL g U H1 us zs) ∧ (∀ a, U a → (H1 a ≠ none ∧ some a ≠ g.pa) ∧ (H0 a = none ∨ A0 a)) ∧ ∀ j, j ∈ own → ∀ l, σ[j]? = some (some (.ref l)) → (∃ e, env[j]? = some (some e)) → ¬ U l := by
    have rp := A.rep
    cases sc with
    | true =>
      cases rp with
      | lst s e r0 => exact ⟨fun _ => False, ⟨_, _, rfl, e, scDs_rep r0 (z.1 rfl)⟩, fun a s => s.elim, fun _ _ _ _ _ s => s⟩
    | false =>
      obtain ⟨U, rp, hU, hn⟩ := in_set r A ok (fun q => nomatch q)
      cases rp with
      | lst s e r0 => exact ⟨U, ⟨_, _, rfl, e, r0⟩, hU, hn⟩
  obtain ⟨U, ⟨b, us, rfl, eb, ru⟩, hU, hn⟩ := ex
  obtain ⟨l', vs', g1, g2, T', g3, g4⟩ := (r.go A.fr).mutate hk he hU hn
  rw [h2] at g1
  cases g1
  refine ⟨l, b, vs', us, rfl, rfl, g2, eb, by rw [g3.length, ru.length]; exact line_of z.2.1, ?_⟩
  have fin := g4 (vs' ++ us) (xs ++ zs) ((g3.mono fun a t => .inl t).append (ru.mono fun a u => .inr u))
  exact br.nx _ _ _ _ fin.2.2 (fin.2.1 _ A.pb) z.2.2
/-- x[i] = e, x owned -/
def isI : D → (Int → Prop) → Prop
  | .int i, Q => Q i
  | _, _ => False
def mSetIx (sc : Bool) (k : Nat) (ma mb : ME) : MS := fun M env => isL env[k]? fun xs => ma env fun d => mb env fun y => isI y fun i => scIf sc d ∧ match ixN xs.length i with
  | some j => M.nx (env.set k (some (.lst (xs.set j d))))
  | none => False
theorem vs_setIx (sc : Bool) {k : Nat} {tg : Expr} (ha : VE g X e ma Ra ca fa) (hb : VE g X b mb Rb cb fb) (hk : k ∈ own) (ok : okIn sc own Ra = true)
    (hp : ∀ {t u : TE}, PE X e t → PE X b u → PS X (.Assign [tg] e pos) (tAsg t (gSub (tVar k) u rSetL))) : VS g rk xw ol X (.Assign [tg] e pos) (mSetIx sc k ma mb) own own (ca + cb) := by
  obtain ⟨t, p, q⟩ := ha
  obtain ⟨t', p', q'⟩ := hb
  refine ⟨_, hp p p', fun H0 A0 gs σ H env S B M D' r pb hb hm br => ?_⟩
  obtain ⟨xs, he, hm⟩ := isL_of hm
  refine q σ H env S B _ _ r.rl pb (by omega) hm fun v H1 d A z => ?_
  obtain ⟨ys, l, vs, T, h1, h2, h3, h4, h5, h6⟩ := r.ow k hk _ he rfl
  obtain rfl := kx_lst h1
  refine ⟨.ref l, h2, ?_⟩
  refine q' σ H1 env S (B + ca) _ _ (r.rl.fr A.fr) A.pb (by omega) z fun w H2 y A2 z2 => ?_
  unfold isI at z2
  split at z2
  · rename_i i
    have r2 := A2.rep
    cases r2
    obtain ⟨z3, z4⟩ := z2
    split at z4
    · rename_i j ej
      obtain ⟨U, rp, hU, hn⟩ := in_set r A ok z3
      have r1 := (r.go A.fr).go A2.fr
      have hU2 : ∀ a, U a → (H2 a ≠ none ∧ some a ≠ g.pa) ∧ (H0 a = none ∨ A0 a) := fun a u => ⟨⟨fun q => (hU a u).1.1 (A2.fr.back (hU a u).1.2 q), (hU a u).1.2⟩, (hU a u).2⟩
      have rp2 : Rep g U H2 v d := rp.goN fun a o u e => ⟨u, A2.fr a o (hU a u).1.2 e⟩
      obtain ⟨l', vs', g1, g2, T', g3, g4⟩ := r1.mutate hk he hU2 hn
      rw [h2] at g1
      cases g1
      refine ⟨l, vs', i, j, rfl, rfl, g2, by rw [g3.length]; exact ej, ?_⟩
      have fin := g4 (vs'.set j v) (xs.set j d) ((g3.mono fun a t => .inl t).set j (rp2.mono fun a u => .inr u))
      exact br.nx _ _ _ _ fin.2.2 ((fin.2.1 _ A2.pb).mono (by omega)) z4
    · exact z4.elim
  · exact z2.elim

/-! ### if, while -/
def mIfS (mt : MT) (m1 m2 : MS) : MS := fun M env => mt env fun b => if b = true then m1 M env else m2 M env
theorem vs_if {mt : MT} {b1 b2 : List Stmt} (ht : VT g X e mt c) (h1 : VB g rk xw ol X b1 m1 own own' c1) (h2 : VB g rk xw ol X b2 m2 own own' c2) : VS g rk xw ol X (.If e b1 b2 pos) (mIfS mt m1 m2) own own' (c + (c1 + c2)) := by
  obtain ⟨t, p, k⟩ := ht
  obtain ⟨t1, p1, k1⟩ := h1
  obtain ⟨t2, p2, k2⟩ := h2
  refine ⟨_, ps_if p p1 p2, fun H0 A0 gs σ H env S B M D' r pb hb hm br => ?_⟩
  refine k σ H env S B _ _ r.rl pb (by omega) hm fun b H1 fr pb1 z => ?_
  cases b with
  | true => exact k1 H0 A0 gs σ H1 env S (B + c) M D' (r.go fr) pb1 (by omega) z ⟨fun _ _ _ _ r p q => br.nx _ _ _ _ r (p.mono (by omega)) q, fun _ _ _ r p q => br.rt _ _ _ r (p.mono (by omega)) q, fun _ _ _ _ r p q => br.bk _ _ _ _ r (p.mono (by omega)) q, fun _ _ _ _ r p q => br.ct _ _ _ _ r (p.mono (by omega)) q, fun W e _ _ _ _ _ _ _ _ r p x q => br.ex W e _ _ _ _ _ _ _ _ r (p.mono (by omega)) x q⟩
  | false => exact k2 H0 A0 gs σ H1 env S (B + c) M D' (r.go fr) pb1 (by omega) z ⟨fun _ _ _ _ r p q => br.nx _ _ _ _ r (p.mono (by omega)) q, fun _ _ _ r p q => br.rt _ _ _ r (p.mono (by omega)) q, fun _ _ _ _ r p q => br.bk _ _ _ _ r (p.mono (by omega)) q, fun _ _ _ _ r p q => br.ct _ _ _ _ r (p.mono (by omega)) q, fun W e _ _ _ _ _ _ _ _ r p x q => br.ex W e _ _ _ _ _ _ _ _ r (p.mono (by omega)) x q⟩
def mWhile (mt : MT) (mb : MS) : MS := fun M env => ∃ W : Nat → Env → Prop, (∃ n, W n env) ∧ ∀ n env, W n env → mt env fun b => if b = true then mb ⟨fun env' => ∃ n', n' < n ∧ W n' env', M.rt, M.nx, fun env' => ∃ n', n' < n ∧ W n' env'⟩ env else M.nx env
theorem vs_while {mt : MT} {bd : List Stmt} {mb : MS} (hpo : PassesOwn (model X.prog X.w) X.A X.env X.xe) (ht : VT g X e mt 0) (h1 : VB g rk xw own X bd mb own own 0) : VS g rk xw ol X (.While e bd [] pos) (mWhile mt mb) own own 0 := by
  obtain ⟨t, p, k⟩ := ht
  obtain ⟨t1, p1, k1⟩ := h1
  refine ⟨_, ps_while hpo p p1, fun H0 A0 gs σ H env S B M D' r pb hb hm br => ?_⟩
  obtain ⟨W, ⟨n0, w0⟩, turn⟩ := hm
  refine ⟨fun n σ H => ∃ env S, Rs g H0 A0 own gs σ H env S ∧ PB g B H ∧ W n env, ⟨n0, env, S, r, pb, w0⟩, ?_⟩
  rintro n σ1 H1 ⟨env1, S1, r1, pb1, w1⟩
  refine k σ1 H1 env1 S1 B _ _ r1.rl pb1 hb (turn n env1 w1) fun b H2 fr pb2 z => ?_
  cases b with
  | true =>
    rw [if_pos rfl] at z
    rw [if_pos rfl]
    have nx : ∀ σ' H' env' S', Rs g H0 A0 own gs σ' H' env' S' → PB g (B + 0) H' → (∃ n', n' < n ∧ W n' env') → ∃ m', m' < n ∧ ∃ env S, Rs g H0 A0 own gs σ' H' env S ∧ PB g B H' ∧ W m' env := fun σ' H' env' S' r' pb' ⟨n', hn, w'⟩ => ⟨n', hn, env', S', r', pb', w'⟩
    exact ⟨fun σ' H' => ∃ m', m' < n ∧ ∃ env S, Rs g H0 A0 own gs σ' H' env S ∧ PB g B H' ∧ W m' env, fun σ' H' h => h,
      k1 H0 A0 gs σ1 H2 env1 S1 B _ _ (r1.go fr) pb2 hb z ⟨nx, br.rt, fun σ' H' env' S' r' pb' q => br.nx σ' H' env' S' r' pb' q, nx, br.ex⟩⟩
  | false =>
    rw [if_neg Bool.false_ne_true] at z
    rw [if_neg Bool.false_ne_true]
    exact br.nx _ _ _ _ (r1.go fr) pb2 z
end
end VL

set_option Elab.async false
set_option linter.all false
set_option maxRecDepth 100000
set_option maxHeartbeats 4000000
/-! VL, part g: what is walked, for, comprehensions. -/
namespace VL
open PySem PySem.Spec PyProof.Rows L2

/-- the iterator J yields the items, while what gv tells stands -/
def SrcOk (g : Gm) (J : It) (gv : List (V × D)) (items : List D) : Prop := ∀ (U : Addr → Prop) (H : Hp) (B : Nat), (∀ a, U a → H a ≠ none ∧ some a ≠ g.pa) → PB g B H → (∀ p, p ∈ gv → Rep g U H p.1 p.2) →
  ∀ i : Nat, (∀ d, items[i]? = some d → J.go i H ∧ ∀ x H', J.yld i H x H' → Same H H' ∧ Rep g (Res g U H H') H' x d) ∧ (items.length ≤ i → J.stop i H)
def VI (g : Gm) (X : Cx) (tg iter : Expr) (mi : MA) (R : List Nat) (c : Nat) : Prop := ∃ wi, PI X tg iter wi ∧ ∀ (σ : L2.St) (H : Hp) (env : Env) (S : SS) (B : Nat) (Qd : List D → Prop) (Rr : It → Hp → Prop),
  Rl g σ H env S → PB g B H → B + c ≤ Bmax → mi env Qd → (∀ J H' gv items, Fr g H H' → PB g (B + c) H' → (∀ p, p ∈ gv → Rep g (Sr g R S H H') H' p.1 p.2) → SrcOk g J gv items → Qd items → Rr J H') → wi σ H Rr
section
variable {g : Gm} {rk f fa fb : Bool} {xw : Option WX} {X : Cx} {e a b tg iter : Expr} {ma mb me : ME} {mi : MA} {R Ra Rb : List Nat} {c c1 c2 ca cb : Nat} {own own1 own2 own' ol ix ix2 : List Nat} {st st2 : Stmt} {body : List Stmt} {m m1 m2 : MS} {pos : Pos}
def itL : D → (List D → Prop) → Prop
  | .lst xs, Q => Q xs
  | _, _ => False
def itT : D → (List D → Prop) → Prop
  | .tup xs, Q => Q xs
  | _, _ => False
def mItL (ma : ME) : MA := fun env Q => ma env fun d => itL d Q
def mItT (ma : ME) : MA := fun env Q => ma env fun d => itT d Q
theorem src_list {K : PySem.W.Frag} {a : Addr} {xs : List D} : SrcOk g (Itl K a) [(.ref a, .lst xs)] xs := by
  intro U H B hU pb hg i
  have r := hg _ (List.mem_singleton.mpr rfl)
  cases r with
  | lst s e rp =>
    refine ⟨fun d hd => ?_, fun hl => ⟨_, SqL.of e, by rw [rp.length]; exact hl⟩⟩
    obtain ⟨v, hv, rv⟩ := rp.get hd
    refine ⟨⟨_, v, SqL.of e, hv⟩, fun x H' y => ?_⟩
    obtain ⟨rfl, y⟩ := y
    have z := y _ (SqL.of e)
    rw [hv] at z
    cases z
    exact ⟨Same.refl H', rep_same hU rv⟩
theorem src_tup {K : PySem.W.Frag} {a : Addr} {xs : List D} : SrcOk g (Itt K a) [(.ref a, .tup xs)] xs := by
  intro U H B hU pb hg i
  have r := hg _ (List.mem_singleton.mpr rfl)
  cases r with
  | tup s e rp =>
    refine ⟨fun d hd => ?_, fun hl => ⟨_, SqT.of e, by rw [rp.length]; exact hl⟩⟩
    obtain ⟨v, hv, rv⟩ := rp.get hd
    refine ⟨⟨_, v, SqT.of e, hv⟩, fun x H' y => ?_⟩
    obtain ⟨rfl, y⟩ := y
    have z := y _ (SqT.of e)
    rw [hv] at z
    cases z
    exact ⟨Same.refl H', rep_same hU rv⟩
/-- lo, lo + 1, ..: n of them -/
def rngD (lo : Int) (n : Nat) : List D := (List.range n).map fun (i : Nat) => D.int (lo + (i : Int))
theorem src_rng {lo : Int} {n : Nat} : SrcOk g (Itr lo n) [] (rngD lo n) := by
  intro U H B hU pb hg i
  have hl : (rngD lo n).length = n := by simp [rngD]
  refine ⟨fun d hd => ?_, fun h => by rw [hl] at h; exact h⟩
  have hi : i < n := by
    have z := (List.getElem?_eq_some_iff.mp hd).1
    omega
  have e : d = .int (lo + (i : Int)) := by
    unfold rngD at hd
    rw [List.getElem?_map, List.getElem?_range hi] at hd
    cases hd
    rfl
  subst e
  exact ⟨hi, fun x H' y => by
    obtain ⟨rfl, rfl⟩ := y
    exact ⟨Same.refl H', .int _⟩⟩
theorem vi_list (h : VE g X e ma R c f) : VI g X tg e (mItL ma) R c := by
  obtain ⟨t, p, k⟩ := h
  refine ⟨_, pi_list p, fun σ H env S B Qd Rr rl pb hb hm q => k σ H env S B _ _ rl pb hb hm fun v H1 d A z => ?_⟩
  have r := A.rep
  unfold itL at z
  split at z
  · have r' := r
    cases r with
    | lst s e0 rp => exact ⟨_, rfl, ⟨_, SqL.of e0⟩, q _ H1 _ _ A.fr A.pb (fun p hp => by
        rw [List.mem_singleton.mp hp]
        exact r') src_list z⟩
  · exact z.elim
theorem vi_tup (h : VE g X e ma R c f) : VI g X tg e (mItT ma) R c := by
  obtain ⟨t, p, k⟩ := h
  refine ⟨_, pi_tup p, fun σ H env S B Qd Rr rl pb hb hm q => k σ H env S B _ _ rl pb hb hm fun v H1 d A z => ?_⟩
  have r := A.rep
  unfold itT at z
  split at z
  · have r' := r
    cases r with
    | tup s e0 rp => exact ⟨_, rfl, ⟨_, SqT.of e0⟩, q _ H1 _ _ A.fr A.pb (fun p hp => by
        rw [List.mem_singleton.mp hp]
        exact r') src_tup z⟩
  · exact z.elim
def oR1 : List D → (List D → Prop) → Prop
  | [.int j], Q => (-(2 ^ 62) ≤ j ∧ j < 2 ^ 62) ∧ Q (rngD 0 j.toNat)
  | _, _ => False
def oR2 : List D → (List D → Prop) → Prop
  | [.int i, .int j], Q => (-(2 ^ 62) ≤ i ∧ i < 2 ^ 62 ∧ -(2 ^ 62) ≤ j ∧ j < 2 ^ 62) ∧ Q (rngD i (j - i).toNat)
  | _, _ => False
def mIt (o : List D → (List D → Prop) → Prop) (ma : MA) : MA := fun env Q => ma env fun ds => o ds Q
theorem vi_r1 {ma : MA} {es : List Expr} (h : VA g X es ma R c) (hp : ∀ {t : TA}, PA X es t → PI X tg iter (iRng1 t)) : VI g X tg iter (mIt oR1 ma) R c := by
  obtain ⟨t, p, k⟩ := h
  refine ⟨_, hp p, fun σ H env S B Qd Rr rl pb hb hm q => k σ H env S B _ _ rl pb hb hm fun vs H1 ds A z => ?_⟩
  have r := A.rep
  unfold oR1 at z
  split at z
  · obtain ⟨v, rfl, h⟩ := repL1 r
    cases h
    exact ⟨_, rfl, z.1.1, z.1.2, q _ H1 [] _ A.fr A.pb (fun p hp => by cases hp) src_rng z.2⟩
  · exact z.elim
theorem vi_r2 {ma : MA} {es : List Expr} (h : VA g X es ma R c) (hp : ∀ {t : TA}, PA X es t → PI X tg iter (iRng2 t)) : VI g X tg iter (mIt oR2 ma) R c := by
  obtain ⟨t, p, k⟩ := h
  refine ⟨_, hp p, fun σ H env S B Qd Rr rl pb hb hm q => k σ H env S B _ _ rl pb hb hm fun vs H1 ds A z => ?_⟩
  have r := A.rep
  unfold oR2 at z
  split at z
  · obtain ⟨v, w, rfl, h, h'⟩ := repL2 r
    cases h
    cases h'
    exact ⟨_, _, rfl, z.1, q _ H1 [] _ A.fr A.pb (fun p hp => by cases hp) src_rng z.2⟩
  · exact z.elim

/-! ### for -/
def forM (b : MG) (mb : MS) (M : MEnds) : List D → Env → Prop
  | [], env => M.nx env
  | d :: ds, env => b d env fun env1 => mb ⟨forM b mb M ds, M.rt, M.nx, forM b mb M ds⟩ env1
def Nmax : Nat := 2 ^ 20
/-- the body draws: a bound of the turns is asked -/
def mFor (lim : Bool) (mi : MA) (b : MG) (mb : MS) : MS := fun M env => mi env fun items => (lim = true → items.length ≤ Nmax) ∧ forM b mb M items env
theorem vs_for {b : MG} {mb : MS} {lim : Bool} (hpo : PassesOwn (model X.prog X.w) X.A X.env X.xe) (hc : X.calm = true) (hi : VI g X tg iter mi R ca) (hg : VG g X tg b ix) (hb : VB g rk xw own X body mb own own cb) (hs : ∀ x, foldedSetIterable iter X.env x = pure x)
    (ok : (own.all fun j => !ix.contains j && !R.contains j) = true) (hl : lim = true ∨ cb = 0) : VS g rk xw ol X (.For tg iter body [] pos) (mFor lim mi b mb) own own (ca + Nmax * cb) := by
  obtain ⟨wi, pi, ki⟩ := hi
  obtain ⟨tgt, pg, kg⟩ := hg
  obtain ⟨tb, pbd, kb⟩ := hb
  refine ⟨_, ps_for hpo hc pi pg pbd hs, fun H0 A0 gs σ H env S B M D' r pb hbm hm br => ?_⟩
  rw [List.all_eq_true] at ok
  have o1 : ∀ j, j ∈ own → j ∉ ix := fun j hj => by
    have q := ok j hj
    simp at q
    exact q.1
  have o2 : ∀ j, j ∈ own → j ∉ R := fun j hj => by
    have q := ok j hj
    simp at q
    exact q.2
  refine ki σ H env S B _ _ r.rl pb (by omega) hm fun J H1 gv items fr1 pb1 rgv src hq => ?_
  obtain ⟨hlim, hq⟩ := hq
  have r1 := r.go fr1
  -- the ghosts: what is walked stands still
  have U0 := Sr g R S H H1
  have hU0 : ∀ a, Sr g R S H H1 a → (H1 a ≠ none ∧ some a ≠ g.pa) ∧ (H0 a = none ∨ A0 a) := fun a s => ⟨s.2, sr_al r s⟩
  have r2 : Rs g H0 A0 own (gv.map (fun p => (p.1, p.2, Sr g R S H H1)) ++ gs) σ H1 env S := ⟨r1.rl, r1.fr, r1.al, fun p hp => by
    rcases List.mem_append.mp hp with hp | hp
    · obtain ⟨q, hq, rfl⟩ := List.mem_map.mp hp
      exact ⟨rgv q hq, hU0⟩
    · exact r1.gh p hp, fun j hj d he hsc => by
    obtain ⟨xs, l, vs, T, g1, g2, g3, g4, g5, g6, g7, g8, g9, g10, g11⟩ := r1.ow j hj d he hsc
    refine ⟨xs, l, vs, T, g1, g2, g3, g4, g5, g6, g7, g8, g9, g10, fun p hp => ?_⟩
    rcases List.mem_append.mp hp with hp | hp
    · obtain ⟨q, hq, rfl⟩ := List.mem_map.mp hp
      intro s
      rcases s.1 with z | ⟨k, hkR, sk⟩
      · exact (r.rl.dom j l g9).1 z
      · by_cases e : k = j
        · subst e
          exact o2 k hj hkR
        · exact g10 k e sk
    · exact g11 p hp⟩
  refine ⟨fun i n σ' H' => n = items.length - i ∧ i ≤ items.length ∧ ∃ env' S', Rs g H0 A0 own (gv.map (fun p => (p.1, p.2, Sr g R S H H1)) ++ gs) σ' H' env' S' ∧ PB g (B + ca + i * cb) H' ∧ forM b mb M (items.drop i) env',
    ⟨items.length, by simp, Nat.zero_le _, env, S, r2, by simpa using pb1, by simpa using hq⟩, ?_⟩
  rintro i n σ2 H2 ⟨rfl, hi, env2, S2, r3, pb2, hm2⟩
  have cost : ∀ k, k ≤ items.length → B + ca + k * cb ≤ B + (ca + Nmax * cb) := fun k hk => by
    rcases hl with h | h
    · have z : k * cb ≤ Nmax * cb := Nat.mul_le_mul_right cb (Nat.le_trans hk (hlim h))
      omega
    · subst h
      omega
  have ghg : ∀ p, p ∈ gv → Rep g (Sr g R S H H1) H2 p.1 p.2 := fun p hp => (r3.gh (p.1, p.2, Sr g R S H H1) (List.mem_append_left _ (List.mem_map.mpr ⟨p, hp, rfl⟩))).1
  have back : ∀ {σ' H' env' S'}, Rs g H0 A0 own (gv.map (fun p => (p.1, p.2, Sr g R S H H1)) ++ gs) σ' H' env' S' → Rs g H0 A0 own gs σ' H' env' S' := fun r => r.less (fun _ q => q) fun _ q => List.mem_append_right _ q
  by_cases hne : gv = []
  · -- nothing to lean on: any set does
    have sr := src (fun _ => False) H2 _ (fun a s => s.elim) pb2 (fun p hp => by rw [hne] at hp; cases hp) i
    by_cases hlt : i < items.length
    · obtain ⟨go, yl⟩ := sr.1 items[i] (by simp [hlt])
      refine .inr ⟨go, fun σ' H' => ∃ env' S', Rs g H0 A0 own (gv.map (fun p => (p.1, p.2, Sr g R S H H1)) ++ gs) σ' H' env' S' ∧ PB g (B + ca + (i + 1) * cb) H' ∧ forM b mb M (items.drop (i + 1)) env', fun σ' H' h => ⟨items.length - (i + 1), by omega, rfl, hlt, h⟩, fun x H3 y => ?_⟩
      obtain ⟨sm, rx⟩ := yl x H3 y
      rw [List.drop_eq_getElem_cons hlt] at hm2
      have r4 := r3.go (Fr.of sm)
      refine kg H0 A0 own _ σ2 H3 env2 S2 _ x items[i] _ _ r4 rx (fun a s => ⟨s.2, s.1.elim (fun n => .inl (r3.fr.back s.2.2 n)) (fun f => f.elim)⟩) o1 (fun j hj l hs he s => ?_) hm2 fun σ4 env4 S4 r5 un hm4 => ?_
      · obtain ⟨e, he⟩ := he
        obtain ⟨xs, l', vs, T, g1, g2, g3, _⟩ := r3.ow2 hj he hs
        rw [hs] at g2
        cases g2
        exact s.1.elim (fun n => by rw [g3] at n; cases n) fun f => f
      · refine kb H0 A0 _ σ4 H3 env4 S4 (B + ca + i * cb) _ _ r5 (pb2.same sm) (Nat.le_trans (by have z := cost (i + 1) hlt; rw [Nat.succ_mul] at z; omega) hbm) hm4 ⟨fun σ' H' env' S' r' p' q' => ⟨env', S', r', by rw [Nat.succ_mul, ← Nat.add_assoc]; exact p', q'⟩, fun v H' d r' p' q' => br.rt v H' d r' (p'.mono (by have z := cost (i + 1) hlt; rw [Nat.succ_mul] at z; omega)) q', fun σ' H' env' S' r' p' q' => br.nx σ' H' env' S' (back r') (p'.mono (by have z := cost (i + 1) hlt; rw [Nat.succ_mul] at z; omega)) q', fun σ' H' env' S' r' p' q' => ⟨env', S', r', by rw [Nat.succ_mul, ← Nat.add_assoc]; exact p', q'⟩, fun W e _ _ _ _ _ _ _ _ r' p' x q' => br.ex W e _ _ _ _ _ _ _ _ (r'.less (fun _ q => q) fun _ q => List.mem_append_right _ q) (p'.mono (by have z := cost (i + 1) hlt; rw [Nat.succ_mul] at z; omega)) x q'⟩
    · have e : i = items.length := by omega
      subst e
      rw [List.drop_length] at hm2
      exact .inl ⟨sr.2 (Nat.le_refl _), br.nx σ2 H2 env2 S2 (back r3) (pb2.mono (cost _ (Nat.le_refl _))) hm2⟩
  · obtain ⟨p0, hp0⟩ := List.exists_mem_of_ne_nil gv hne
    have dom : ∀ a, Sr g R S H H1 a → (H2 a ≠ none ∧ some a ≠ g.pa) ∧ (H0 a = none ∨ A0 a) := (r3.gh (p0.1, p0.2, Sr g R S H H1) (List.mem_append_left _ (List.mem_map.mpr ⟨p0, hp0, rfl⟩))).2
    have sr := src (Sr g R S H H1) H2 _ (fun a s => (dom a s).1) pb2 ghg i
    by_cases hlt : i < items.length
    · obtain ⟨go, yl⟩ := sr.1 items[i] (by simp [hlt])
      refine .inr ⟨go, fun σ' H' => ∃ env' S', Rs g H0 A0 own (gv.map (fun p => (p.1, p.2, Sr g R S H H1)) ++ gs) σ' H' env' S' ∧ PB g (B + ca + (i + 1) * cb) H' ∧ forM b mb M (items.drop (i + 1)) env', fun σ' H' h => ⟨items.length - (i + 1), by omega, rfl, hlt, h⟩, fun x H3 y => ?_⟩
      obtain ⟨sm, rx⟩ := yl x H3 y
      rw [List.drop_eq_getElem_cons hlt] at hm2
      have r4 := r3.go (Fr.of sm)
      refine kg H0 A0 own _ σ2 H3 env2 S2 _ x items[i] _ _ r4 rx (fun a s => ⟨s.2, s.1.elim (fun n => .inl (r3.fr.back s.2.2 n)) (fun f => (dom a f).2)⟩) o1 (fun j hj l hs he s => ?_) hm2 fun σ4 env4 S4 r5 un hm4 => ?_
      · obtain ⟨e, he⟩ := he
        obtain ⟨xs, l', vs, T, g1, g2, g3, g4, g5, g6, g7, g8, g9, g10, g11⟩ := r3.ow2 hj he hs
        rw [hs] at g2
        cases g2
        exact s.1.elim (fun n => by rw [g3] at n; cases n) (g11 (p0.1, p0.2, Sr g R S H H1) (List.mem_append_left _ (List.mem_map.mpr ⟨p0, hp0, rfl⟩)))
      · refine kb H0 A0 _ σ4 H3 env4 S4 (B + ca + i * cb) _ _ r5 (pb2.same sm) (Nat.le_trans (by have z := cost (i + 1) hlt; rw [Nat.succ_mul] at z; omega) hbm) hm4 ⟨fun σ' H' env' S' r' p' q' => ⟨env', S', r', by rw [Nat.succ_mul, ← Nat.add_assoc]; exact p', q'⟩, fun v H' d r' p' q' => br.rt v H' d r' (p'.mono (by have z := cost (i + 1) hlt; rw [Nat.succ_mul] at z; omega)) q', fun σ' H' env' S' r' p' q' => br.nx σ' H' env' S' (back r') (p'.mono (by have z := cost (i + 1) hlt; rw [Nat.succ_mul] at z; omega)) q', fun σ' H' env' S' r' p' q' => ⟨env', S', r', by rw [Nat.succ_mul, ← Nat.add_assoc]; exact p', q'⟩, fun W e _ _ _ _ _ _ _ _ r' p' x q' => br.ex W e _ _ _ _ _ _ _ _ (r'.less (fun _ q => q) fun _ q => List.mem_append_right _ q) (p'.mono (by have z := cost (i + 1) hlt; rw [Nat.succ_mul] at z; omega)) x q'⟩
    · have e : i = items.length := by omega
      subst e
      rw [List.drop_length] at hm2
      exact .inl ⟨sr.2 (Nat.le_refl _), br.nx σ2 H2 env2 S2 (back r3) (pb2.mono (cost _ (Nat.le_refl _))) hm2⟩
end
end VL

set_option Elab.async false
set_option linter.all false
set_option maxRecDepth 100000
set_option maxHeartbeats 4000000
/-! VL, part h: comprehensions. -/
namespace VL
open PySem PySem.Spec PyProof.Rows L2

/-- what a reading does, apart from the syntax -/
def SimT (g : Gm) (t : TE) (m : ME) (R : List Nat) (c : Nat) (f : Bool) : Prop := ∀ (σ : L2.St) (H : Hp) (env : Env) (S : SS) (B : Nat) (Qd : D → Prop) (Q : VK),
  Rl g σ H env S → PB g B H → B + c ≤ Bmax → m env Qd → (∀ v H' d, Aft g f R S H H' B c v d → Qd d → Q v H') → t σ H Q
/-! ### the reading that m stands for: the same in every context -/
def teOf (g : Gm) (m : ME) (R : List Nat) (c : Nat) (f : Bool) : TE := fun σ H Q => ∃ env S B Qd, Rl g σ H env S ∧ PB g B H ∧ B + c ≤ Bmax ∧ m env Qd ∧ ∀ v H' d, Aft g f R S H H' B c v d → Qd d → Q v H'
def ttOf (g : Gm) (m : MT) (c : Nat) : TT := fun σ H Q => ∃ env S B Qd, Rl g σ H env S ∧ PB g B H ∧ B + c ≤ Bmax ∧ m env Qd ∧ ∀ b H', Fr g H H' → PB g (B + c) H' → Qd b → Q b H'
def tgOf (g : Gm) (b : MG) (ix : List Nat) : TG := fun v σ H Q => ∃ H0 A0 own gs env S U d Qe, Rs g H0 A0 own gs σ H env S ∧ Rep g U H v d ∧ (∀ a, U a → (H a ≠ none ∧ some a ≠ g.pa) ∧ (H0 a = none ∨ A0 a)) ∧ (∀ j, j ∈ own → j ∉ ix) ∧
  (∀ j, j ∈ own → ∀ l, σ[j]? = some (some (.ref l)) → (∃ e, env[j]? = some (some e)) → ¬ U l) ∧ b d env Qe ∧ ∀ σ' env' S', Rs g H0 A0 own gs σ' H env' S' → Unc ix σ σ' env env' S S' U → Qe env' → Q σ' H
def VTs (g : Gm) (X : Cx) (ifs : List Expr) (m : MT) (c : Nat) : Prop := ∃ t, PTs X ifs t ∧ ∀ (σ : L2.St) (H : Hp) (env : Env) (S : SS) (B : Nat) (Qd : Bool → Prop) (Q : Bool → Hp → Prop),
  Rl g σ H env S → PB g B H → B + c ≤ Bmax → m env Qd → (∀ b H', Fr g H H' → PB g (B + c) H' → Qd b → Q b H') → t σ H Q
section
variable {g : Gm} {rk f fa fb : Bool} {xw : Option WX} {X : Cx} {e elt a b tg iter : Expr} {ma mb me : ME} {mi : MA} {mt : MT} {R Ra Rb Re : List Nat} {c c1 c2 ca cb ce ci ct : Nat} {own own1 own2 own' ol ix ix2 : List Nat} {st st2 : Stmt} {body : List Stmt} {m m1 m2 : MS} {pos : Pos}
theorem VE.pe {m : ME} (h : VE g X e m R c f) : PE X e (teOf g m R c f) := by
  obtain ⟨t, p, k⟩ := h
  exact ⟨fun pins s σ H Q I ⟨env, S, B, Qd, h1, h2, h3, h4, h5⟩ => p.run pins s σ H Q I (k σ H env S B Qd Q h1 h2 h3 h4 h5)⟩
theorem VTs.pts {ifs : List Expr} (h : VTs g X ifs mt c) : PTs X ifs (ttOf g mt c) := by
  obtain ⟨t, p, k⟩ := h
  exact ⟨fun pins s σ H Q I ⟨env, S, B, Qd, h1, h2, h3, h4, h5⟩ => p.run pins s σ H Q I (k σ H env S B Qd Q h1 h2 h3 h4 h5)⟩
theorem VG.pg {b : MG} (h : VG g X tg b ix) : PG X tg (tgOf g b ix) := by
  obtain ⟨t, p, k⟩ := h
  exact ⟨fun pins s σ H v u Q I r ⟨H0, A0, own, gs, env, S, U, d, Qe, h1, h2, h3, h4, h5, h6, h7⟩ => p.run pins s σ H v u Q I r (k H0 A0 own gs σ H env S U v d Qe Q h1 h2 h3 h4 h5 h6 h7)⟩
def mYes : MT := fun _ Q => Q true
theorem vts_nil : VTs g X [] mYes 0 := ⟨_, pts_nil, fun σ H env S B Qd Q rl pb hb hm k => k true H Fr.refl pb hm⟩
theorem vts_one (h : VT g X e mt c) : VTs g X [e] mt c := by
  obtain ⟨t, p, k⟩ := h
  exact ⟨_, pts_one p, k⟩
/-! ### wiped slots -/
def wipeE (env : Env) : List Nat → Env
  | [] => env
  | v :: vs => (wipeE env vs).set v none
theorem wipe_get (σ : L2.St) (j : Nat) : ∀ vs : List Nat, (wipe σ vs)[j]? = if j ∈ vs then (if j < σ.length then some none else none) else σ[j]?
  | [] => by simp [wipe]
  | v :: vs => by
    unfold wipe
    have ih := wipe_get σ j vs
    by_cases hj : j = v
    · subst hj
      by_cases hl : j < σ.length
      · rw [List.getElem?_set_self (by rw [wipe_length]; exact hl)]
        simp [hl]
      · rw [List.getElem?_eq_none_iff.mpr (by rw [List.length_set, wipe_length]; omega)]
        simp [hl]
    · rw [List.getElem?_set_ne (Ne.symm hj), ih]
      simp [hj]
theorem wipeE_length (env : Env) : ∀ vs : List Nat, (wipeE env vs).length = env.length
  | [] => rfl
  | v :: vs => by unfold wipeE; rw [List.length_set, wipeE_length env vs]
theorem wipeE_get (env : Env) (j : Nat) : ∀ vs : List Nat, (wipeE env vs)[j]? = if j ∈ vs then (if j < env.length then some none else none) else env[j]?
  | [] => by simp [wipeE]
  | v :: vs => by
    unfold wipeE
    have ih := wipeE_get env j vs
    by_cases hj : j = v
    · subst hj
      by_cases hl : j < env.length
      · rw [List.getElem?_set_self (by rw [wipeE_length]; exact hl)]
        simp [hl]
      · rw [List.getElem?_eq_none_iff.mpr (by rw [List.length_set, wipeE_length]; omega)]
        simp [hl]
    · rw [List.getElem?_set_ne (Ne.symm hj), ih]
      simp [hj]
theorem Rl.wipe {σ : L2.St} {H : Hp} {env : Env} {S : SS} (r : Rl g σ H env S) (vs : List Nat) : Rl g (L2.wipe σ vs) H (wipeE env vs) S where
  len := by rw [wipe_length, wipeE_length, r.len]
  rep := fun i d e => by
    rw [wipeE_get] at e
    by_cases hi : i ∈ vs
    · rw [if_pos hi] at e
      split at e <;> cases e
    · rw [if_neg hi] at e
      obtain ⟨v, h1, h2⟩ := r.rep i d e
      exact ⟨v, by rw [wipe_get, if_neg hi]; exact h1, h2⟩
  dom := r.dom
theorem wipe_back {σ σ2 : L2.St} {env env2 : Env} {S S2 : SS} {U : Addr → Prop} {vs : List Nat} (u : Unc ix (wipe σ vs) σ2 env env2 S S2 U) (h : ∀ i, i ∈ ix → i ∈ vs) : wipe σ2 vs = wipe σ vs := by
  apply List.ext_getElem?
  intro j
  have l : σ2.length = σ.length := by rw [u.len, wipe_length]
  rw [wipe_get, wipe_get, l]
  by_cases hj : j ∈ vs
  · rw [if_pos hj, if_pos hj]
  · rw [if_neg hj, if_neg hj, (u.eq j fun z => hj (h j z)).1, wipe_get, if_neg hj]
/-! ### [elt for target in iter if ..] -/
def lcM (b : MG) (mt : MT) (me : ME) (env : Env) : List D → List D → (List D → Prop) → Prop
  | [], acc, Q => Q acc
  | d :: ds, acc, Q => b d env fun env1 => mt env1 fun k => if k = true then me env1 fun y => lcM b mt me env ds (acc ++ [y]) Q else lcM b mt me env ds acc Q
def mLc (mi : MA) (vs : List Nat) (b : MG) (mt : MT) (me : ME) : ME := fun env Q => mi env fun items => items.length ≤ 100000 ∧ lcM b mt me (wipeE env vs) items [] fun acc => Q (.lst acc)
theorem lcM_len {b : MG} {mt : MT} {me : ME} : True := trivial
theorem lc_ok {b : MG} {wi : TI} {vs : List Nat} (hix : ∀ i, i ∈ ix → i ∈ vs)
    (ki : ∀ (σ : L2.St) (H : Hp) (env : Env) (S : SS) (B : Nat) (Qd : List D → Prop) (Rr : It → Hp → Prop), Rl g σ H env S → PB g B H → B + ci ≤ Bmax → mi env Qd → (∀ J H' gv items, Fr g H H' → PB g (B + ci) H' → (∀ p, p ∈ gv → Rep g (Sr g R S H H') H' p.1 p.2) → SrcOk g J gv items → Qd items → Rr J H') → wi σ H Rr) :
    SimT g (tLc wi (tgOf g b ix) (ttOf g mt ct) (teOf g me Re ce f) vs) (mLc mi vs b mt me) (R ++ Re) (ci + Nmax * (ct + ce)) true := by
  intro σ H env S B Qd Q rl pb hb hm k
  refine ki σ H env S B _ _ rl pb (by omega) hm fun J H1 gv items fr1 pb1 rgv src hq => ?_
  obtain ⟨hlen, hq⟩ := hq
  intro A hA
  have nA : some A ≠ g.pa := pb1.not hA
  have hN : items.length ≤ Nmax := Nat.le_trans hlen (by decide)
  have cost : ∀ n, n ≤ items.length → B + ci + n * (ct + ce) ≤ B + (ci + Nmax * (ct + ce)) := fun n hn => by
    have z : n * (ct + ce) ≤ Nmax * (ct + ce) := Nat.mul_le_mul_right _ (Nat.le_trans hn hN)
    omega
  have frA : ∀ o, Fr g H1 (upd H1 A o) := fun o => Fr.of (same_new hA)
  refine ⟨fun i n Hc => n = items.length - i ∧ i ≤ items.length ∧ ∃ acc xs, ∃ T : Addr → Prop, Hc A = some (.lst xs) ∧ RepL g T Hc xs acc ∧ ¬ T A ∧ (∀ a, T a → Sr g (R ++ Re) S H Hc a) ∧ Fr g H1 Hc ∧ PB g (B + ci + i * (ct + ce)) Hc ∧ acc.length ≤ i ∧ lcM b mt me (wipeE env vs) (items.drop i) acc fun acc => Qd (.lst acc),
    ⟨items.length, by simp, Nat.zero_le _, [], [], fun _ => False, upd_same, .nil, fun q => q, fun _ q => q.elim, frA _, by simpa using pb1.same (same_new hA), Nat.zero_le _, by simpa using hq⟩, ?_⟩
  rintro i n Hc ⟨rfl, hi, acc, xs, T, e1, r1, nT, sT, frc, pbc, hacc, hlc⟩
  -- what stands at Hc
  have U : Addr → Prop := Sr g R S H H1
  have dom : ∀ a, Sr g R S H H1 a → Hc a ≠ none ∧ some a ≠ g.pa := fun a s => ⟨fun q => s.2.1 (frc.back s.2.2 q), s.2.2⟩
  have ghg : ∀ p, p ∈ gv → Rep g (Sr g R S H H1) Hc p.1 p.2 := fun p hp => (rgv p hp).goN fun a o s e => ⟨s, frc a o s.2.2 e⟩
  have sr := src (Sr g R S H H1) Hc _ dom pbc ghg i
  by_cases hlt : i < items.length
  · obtain ⟨go, yl⟩ := sr.1 items[i] (by simp [hlt])
    have c1 := cost (i + 1) hlt
    rw [Nat.succ_mul] at c1
    rw [List.drop_eq_getElem_cons hlt] at hlc
    refine .inr ⟨go, fun Hd => ∃ acc xs, ∃ T : Addr → Prop, Hd A = some (.lst xs) ∧ RepL g T Hd xs acc ∧ ¬ T A ∧ (∀ a, T a → Sr g (R ++ Re) S H Hd a) ∧ Fr g H1 Hd ∧ PB g (B + ci + (i + 1) * (ct + ce)) Hd ∧ acc.length ≤ i + 1 ∧ lcM b mt me (wipeE env vs) (items.drop (i + 1)) acc fun acc => Qd (.lst acc),
      fun Hd h => ⟨items.length - (i + 1), by omega, rfl, hlt, h⟩, fun x H3 y => ?_⟩
    obtain ⟨sm, rx⟩ := yl x H3 y
    have rl3 : Rl g (wipe σ vs) H3 (wipeE env vs) S := (rl.fr ((fr1.trans frc).trans (Fr.of sm))).wipe vs
    have rs3 : Rs g H3 (fun _ => True) [] [] (wipe σ vs) H3 (wipeE env vs) S := ⟨rl3, Fr.refl, fun _ _ _ => .inr trivial, fun p hp => (by cases hp), fun j hj => (by cases hj)⟩
    refine ⟨H3, fun _ => True, [], [], wipeE env vs, S, Res g (Sr g R S H H1) Hc H3, items[i], _, rs3, rx, fun a s => ⟨s.2, .inr trivial⟩, fun j hj => (by cases hj), fun j hj => (by cases hj), hlc, fun σ4 env4 S4 r4 un hm4 => ?_⟩
    refine ⟨wipe_back un hix, ?_⟩
    have pb3 := pbc.same sm
    refine ⟨env4, S4, B + ci + i * (ct + ce), _, r4.rl, pb3, by omega, hm4, fun k H4 fr4 pb4 hm5 => ?_⟩
    have A3 : H3 A = some (.lst xs) := sm _ _ e1
    have A4 : H4 A = some (.lst xs) := fr4 _ _ nA A3
    have F4 : Fr g Hc H4 := (Fr.of sm).trans fr4
    have keepT : ∀ {Hx : Hp}, Fr g Hc Hx → RepL g T Hx xs acc ∧ ∀ a, T a → Sr g (R ++ Re) S H Hx a := fun {Hx} fx => ⟨r1.goN fun a o t e => ⟨t, fx a o (sT a t).2.2 e⟩, fun a t => (sT a t).fwd (fun _ q => q) fx⟩
    cases k with
    | false =>
      rw [if_neg Bool.false_ne_true] at hm5
      refine iteF ?_
      have z := keepT F4
      exact ⟨acc, xs, T, A4, z.1, nT, z.2, frc.trans F4, pb4.mono (by rw [Nat.succ_mul]; omega), by omega, hm5⟩
    | true =>
      rw [if_pos rfl] at hm5
      refine iteT ?_
      refine ⟨env4, S4, B + ci + i * (ct + ce) + ct, _, r4.rl.fr fr4, pb4, by omega, hm5, fun w H5 d A5 hm6 => ?_⟩
      have e5 : H5 A = some (.lst xs) := A5.fr _ _ nA A4
      have F5 : Fr g Hc H5 := F4.trans A5.fr
      have z := keepT F5
      refine ⟨xs, e5, by rw [r1.length]; exact Nat.lt_of_le_of_lt hacc (Nat.lt_of_lt_of_le (Nat.lt_of_lt_of_le hlt hlen) (by decide)), ?_⟩
      -- the new item's addresses are not the list itself
      have src4 : ∀ a, Sr g Re S4 H4 H5 a → a ≠ A ∧ Sr g (R ++ Re) S H H5 a := fun a s => by
        rcases s.1 with q | ⟨j, hj, sj⟩
        · refine ⟨fun e => (by rw [e, A4] at q; cases q), .inl ?_, s.2⟩
          exact fr1.back s.2.2 (frc.back s.2.2 (F4.back s.2.2 q))
        · rcases un.sub j a sj with sa | ua
          · exact ⟨fun e => (by
              subst e
              exact (rl.dom j _ sa).1 (fr1.back s.2.2 hA)), .inr ⟨j, List.mem_append_right _ hj, sa⟩, s.2⟩
          · rcases ua.1 with q | q
            · exact ⟨fun e => (by rw [e, e1] at q; cases q), .inl (fr1.back s.2.2 (frc.back s.2.2 q)), s.2⟩
            · exact ⟨fun e => (by
                subst e
                exact q.2.1 hA), q.1.imp id fun ⟨i, h1, h2⟩ => ⟨i, List.mem_append_left _ h1, h2⟩, s.2⟩
      have off : ∀ {W : Addr → Prop}, ¬ W A → ∀ a o, W a → H5 a = some o → W a ∧ upd H5 A (.lst (xs ++ [w])) a = some o := fun {W} nw a o hw e => by
        have na : a ≠ A := fun q => nw (by rw [← q]; exact hw)
        refine ⟨hw, ?_⟩
        rw [upd_ne na]
        exact e
      have new : RepL g (fun a => T a ∨ (Sr g Re S4 H4 H5 a)) H5 (xs ++ [w]) (acc ++ [d]) := (z.1.mono fun a t => .inl t).append (.cons (A5.rep.mono fun a s => .inr s) .nil)
      have nN : ¬ (T A ∨ Sr g Re S4 H4 H5 A) := fun q => q.elim nT fun s => (src4 A s).1 rfl
      have dm : ∀ a, H5 a ≠ none → upd H5 A (.lst (xs ++ [w])) a ≠ none := fun a n => by
        by_cases q : a = A
        · rw [q, upd_same]
          exact fun z => nomatch z
        · rw [upd_ne q]
          exact n
      refine ⟨acc ++ [d], xs ++ [w], _, upd_same, new.go (off nN), nN, fun a t => ?_, (frc.trans F5).put _ hA, ?_, by simp; omega, hm6⟩
      · have s : Sr g (R ++ Re) S H H5 a := t.elim (z.2 a) fun s => (src4 a s).2
        exact ⟨s.1, dm a s.2.1, s.2.2⟩
      · have pp := A5.pb.mono (B' := B + ci + (i + 1) * (ct + ce)) (by rw [Nat.succ_mul]; omega)
        exact pp.put1 nA e5
  · have e : i = items.length := by omega
    subst e
    rw [List.drop_length] at hlc
    refine .inl ⟨sr.2 (Nat.le_refl _), k _ Hc _ ⟨fr1.trans frc, pbc.mono (cost _ (Nat.le_refl _)), ?_, fun _ ys q => ?_⟩ hlc⟩
    · exact .lst ⟨.inl (fr1.back nA hA), (by rw [e1]; exact fun q => nomatch q), nA⟩ e1 (r1.mono sT)
    · obtain rfl := kx_lst q
      exact ⟨A, xs, T, rfl, e1, fr1.back nA hA, r1, nT, sT⟩
theorem ve_lc {b : MG} {vs : List Nat} {ifs : List Expr} {blk : Shared → Hp → Addr → List (Str × Addr) → List Addr → Cx} (hi : VI g X tg iter mi R ci) (hg : ∀ s H C cl fp, VG g (blk s H C cl fp) tg b ix) (ht : ∀ s H C cl fp, VTs g (blk s H C cl fp) ifs mt ct) (he : ∀ s H C cl fp, VE g (blk s H C cl fp) elt me Re ce f)
    (hix : (ix.all fun i => vs.contains i) = true) (hp : ∀ {wi : TI} {t : TG} {tt : TT} {te : TE}, PI X tg iter wi → (∀ s H C cl fp, PG (blk s H C cl fp) tg t) → (∀ s H C cl fp, PTs (blk s H C cl fp) ifs tt) → (∀ s H C cl fp, PE (blk s H C cl fp) elt te) → PE X e (tLc wi t tt te vs)) :
    VE g X e (mLc mi vs b mt me) (R ++ Re) (ci + Nmax * (ct + ce)) true := by
  obtain ⟨wi, pi, ki⟩ := hi
  refine ⟨_, hp pi (fun s H C cl fp => (hg s H C cl fp).pg) (fun s H C cl fp => (ht s H C cl fp).pts) (fun s H C cl fp => (he s H C cl fp).pe), lc_ok (fun i h => ?_) ki⟩
  rw [List.all_eq_true] at hix
  simpa using hix i h
/-- y = e, the whole statement's rule given -/
theorem vs_setT (md : Md) {i : Nat} {t : TE} (hs : SimT g t ma R c f) (hp : PS X st (tAsg t (gName i))) (ok : okBy md i own R f = true) : VS g rk xw ol X st (mSet md i ma) own (ownBy md i own) c := by
  refine ⟨_, hp, fun H0 A0 gs σ H env S B M D' r pb hb hm br => hs σ H env S B _ _ r.rl pb hb hm fun v H1 d A z => ?_⟩
  obtain ⟨S', P', q⟩ := (r.pst A.fr).put md r Fr.refl A pb Fr.refl ok z
  exact br.nx _ _ _ _ P'.rs A.pb q
theorem vs_lc (md : Md) {i : Nat} {b : MG} {vs : List Nat} {ifs : List Expr} {blk : Shared → Hp → Addr → List (Str × Addr) → List Addr → Cx} (hi : VI g X tg iter mi R ci) (hg : ∀ s H C cl fp, VG g (blk s H C cl fp) tg b ix) (ht : ∀ s H C cl fp, VTs g (blk s H C cl fp) ifs mt ct) (he : ∀ s H C cl fp, VE g (blk s H C cl fp) elt me Re ce f)
    (hix : (ix.all fun i => vs.contains i) = true) (hp : ∀ {wi : TI} {t : TG} {tt : TT} {te : TE}, PI X tg iter wi → (∀ s H C cl fp, PG (blk s H C cl fp) tg t) → (∀ s H C cl fp, PTs (blk s H C cl fp) ifs tt) → (∀ s H C cl fp, PE (blk s H C cl fp) elt te) → PS X st (tAsg (tLc wi t tt te vs) (gName i)))
    (ok : okBy md i own (R ++ Re) true = true) : VS g rk xw ol X st (mSet md i (mLc mi vs b mt me)) own (ownBy md i own) (ci + Nmax * (ct + ce)) := by
  obtain ⟨wi, pi, ki⟩ := hi
  refine vs_setT md (lc_ok (fun i h => ?_) ki) (hp pi (fun s H C cl fp => (hg s H C cl fp).pg) (fun s H C cl fp => (ht s H C cl fp).pts) (fun s H C cl fp => (he s H C cl fp).pe)) ok
  rw [List.all_eq_true] at hix
  simpa using hix i h
end
end VL

set_option Elab.async false
set_option linter.all false
set_option maxRecDepth 100000
set_option maxHeartbeats 4000000
/-! VL, part i: what a def promises, by its body; its calls. A def that asks repr is promised where the stack is free of reprs (FnG). -/
namespace VL
open PySem PySem.Spec PyProof.Rows L2

/-- the answer to data ds; f tells which data it may be; c: how often it draws at most; rk: the answer is a new list, nothing else leads to it -/
def spV (C : Kl) (f : List D → (D → Prop) → Prop) (c : Nat) (rk : Bool) : Sp := fun vs H Q _ => ∃ (pa : Option Addr) (B : Nat) (ds : List D) (U : Addr → Prop) (Qd : D → Prop),
  RepL ⟨C, pa⟩ U H vs ds ∧ (∀ a, U a → H a ≠ none ∧ some a ≠ pa) ∧ PB ⟨C, pa⟩ B H ∧ B + c ≤ Bmax ∧ f ds Qd ∧ ∀ d v H', Qd d → RtOk ⟨C, pa⟩ rk H U H' v d → PB ⟨C, pa⟩ (B + c) H' → Q v H'
def startE (k : Nat) (ds : List D) : Env := ds.map some ++ List.replicate (k - ds.length) none
/-- a body as a function of data: k names, n of them parameters -/
def runM (k n : Nat) (m : MS) : List D → (D → Prop) → Prop := fun ds Q => ds.length = n ∧ m ⟨fun _ => Q .non, Q, fun _ => False, fun _ => False⟩ (startE k ds)

theorem start_len {N : List Str} {vs : List V} {k : Nat} {ds : List D} (hN : N.length = k) (h : vs.length = ds.length) : (L2.start N vs).length = (startE k ds).length := by
  unfold L2.start startE
  simp only [List.length_append, List.length_map, List.length_replicate]
  omega
theorem start_rs {g : Gm} {U : Addr → Prop} {H : Hp} {N : List Str} {k : Nat} {vs : List V} {ds : List D} (hN : N.length = k) (r : RepL g U H vs ds) (hU : ∀ a, U a → H a ≠ none ∧ some a ≠ g.pa) : Rs g H U [] [] (L2.start N vs) H (startE k ds) (fun _ => U) where
  rl := ⟨start_len hN r.length, fun i d e => by
    have hi : i < ds.length := by
      unfold startE at e
      by_cases hi : i < ds.length
      · exact hi
      · rw [List.getElem?_append_right (by simpa using hi), List.getElem?_replicate] at e
        split at e <;> cases e
    have e2 : ds[i]? = some d := by
      unfold startE at e
      rw [List.getElem?_append_left (by simpa using hi), List.getElem?_map] at e
      cases q : ds[i]? with
      | none => rw [q] at e; cases e
      | some u => rw [q] at e; cases e; rfl
    obtain ⟨v, h1, h2⟩ := r.get e2
    refine ⟨v, ?_, h2⟩
    unfold L2.start
    rw [List.getElem?_append_left (by rw [List.length_map, r.length]; exact hi), List.getElem?_map, h1]
    rfl, fun _ a u => hU a u⟩
  fr := Fr.refl
  al := fun _ a u => .inr u
  gh := fun p hp => (by cases hp)
  ow := fun j hj => (by cases hj)
section
variable {P : Program} {w : World} {K : PySem.W.Frag} {mg : Str → Option Value} {base : Heap} {x qual : Str} {st : Stmt} {C : Kl} {f : Addr} {fd : FuncData} {N ps : List Str} {k kN n c : Nat} {rk : Bool} {m : MS} {own' : List Nat}
/-- the body's reading, from what the promise is asked -/
theorem body_ok {X : Cx} {t : TS} {vs : List V} {H : Hp} {Q : VK} {E : XK} (hN : N.length = kN)
    (hb : ∀ pa, VB ⟨C, pa⟩ rk none [] X (defBody st) m [] own' c) (h : spV C (runM kN n m) c rk vs H Q E) : ∃ t, PSs X (defBody st) t ∧ t { nx := fun _ H' => Q .non H', rt := Q } (L2.start N vs) H := by
  obtain ⟨pa, B, ds, U, Qd, r, hU, pb, hB, ⟨hl, hm⟩, k⟩ := h
  obtain ⟨t, p, q⟩ := hb pa
  refine ⟨t, p, q H U [] (L2.start N vs) H (startE kN ds) (fun _ => U) B _ _ (start_rs hN r hU) pb hB hm ⟨fun σ' H' env' S' r' p' z => ?_, fun v H' d r' p' z => k d v H' z r' p', fun _ _ _ _ _ _ z => z.elim, fun _ _ _ _ _ _ z => z.elim, fun _ e => nomatch e⟩⟩
  exact k .non .non H' z ⟨r'.fr, .non, fun _ xs e => (by cases xs <;> cases e)⟩ p'
theorem spV_len {vs : List V} {H : Hp} {Q : VK} {E : XK} (h : spV C (runM kN n m) c rk vs H Q E) : vs.length = n := by
  obtain ⟨pa, B, ds, U, Qd, r, hU, pb, hB, ⟨hl, hm⟩, k⟩ := h
  rw [r.length, hl]
/-- a def that no exception leaves -/
theorem fn_v (F : Fun K x qual st f fd) (S : FnScope N ps (defScope st)) (hN : N.length = kN) (hp : ps.length = n)
    (hb : ∀ pa (cdv : Value) (A : Around) (outer : List PySem.Env) (s : Shared) (H : Hp) (E : XK), Room k (A.deeper (envOfC qual (defScope st) s.heap.objs.size f cdv)) → VB ⟨C, pa⟩ rk none [] (cxOf CX0 P w K mg base N qual (defScope st) f cdv A outer s H E).nox (defBody st) m [] own' c) :
    FnOk P w K mg base CX0 (k + 1) f fd ps (spV C (runM kN n m) c rk) := by
  refine F.ok S (fun vs H Q E h => by rw [hp]; exact spV_len h) fun cdv A outer s H vs Q E hr h => ?_
  exact body_ok (t := fun _ _ _ => True) hN (fun pa => hb pa cdv A outer s H E hr) h

/-! ### where no repr is under way -/
structure FnG (P : Program) (w : World) (K : PySem.W.Frag) (mg : Str → Option Value) (base : Heap) (k : Nat) (f : Addr) (fd : FuncData) (ps : List Str) (sp : Sp) : Prop where
  len : ∀ vs H Q E, sp vs H Q E → vs.length = ps.length
  run : ∀ (A : Around) (outer : List PySem.Env) (s : Shared) (H : Hp) (args : Args) (us : List Value) (vs : List V) (Q : VK) (E : XK), A.guards = some [] → Room k A → Env0 P w K mg base A outer s H → BindsTo s fd args (ps.zip us) → Vals vs us → sp vs H Q E →
    codeAny (model P w) A (.call (.ref f) args) (CR CX0 outer P w H s Q E) s
/-- one run of a body, from the frame's state at its entry -/
theorem fg_run {qual : Str} {params : Arguments} {body : List Stmt} {scope : Scope} {dV kV doc pm cdv ct oc : Value} {an od : Option Addr} {osl : Array (Option Value)} (lk : K.lookup f = some ⟨oc, od, .func (PySem.W.fnOf x qual params body scope dV kV doc pm an cdv ct), osl⟩) (hcd : PySem.W.codeIn K cdv qual = true)
    (S : FnScope N ps scope) {A : Around} {outer : List PySem.Env} {s : Shared} {H : Hp} {args : Args} {us : List Value} {vs : List V} {Q : VK} {E : XK} (hr : Room (k + 1) A) (e0 : Env0 P w K mg base A outer s H)
    (hb : BindsTo s (PySem.W.fnOf x qual params body scope dV kV doc pm an cdv ct) args (ps.zip us)) (rv : Vals vs us) (hl : vs.length = ps.length)
    (hbody : ∃ t, PSs (cxOf CX0 P w K mg base N qual scope f cdv A outer s H E) body t ∧ t { nx := fun _ H' => Q .non H', rt := Q } (L2.start N vs) H) :
    codeAny (model P w) A (.call (.ref f) args) (CR CX0 outer P w H s Q E) s := by
  have old : ∀ b o, base.get? b = some o → s.heap.get? b = some o := fun b o e => (e0.bs b o e).1
  have inK : K.In s.heap := e0.mod.kin.keeps old
  have places : ∀ y ∈ ps.zip us, scope.names.lookup y.1 = some .local ∨ (scope.names.lookup y.1 = some .cell ∧ ((cellsFrom (s.heap.objs.size + 1) scope.names []).lookup y.1).isSome = true) := by
    rintro ⟨n, v⟩ hy
    cases S.par n (List.of_mem_zip hy).1 with
    | inl q => exact .inl q
    | inr q => exact .inr ⟨q, PySem.W.cellsFrom_some _ _ _ (.inl q)⟩
  apply codeAny_call_function hr.depth (inK _ _ lk) rfl S.co S.gen rfl (PySem.W.codeRec_of inK hcd)
  apply hb
  apply wpAny_newFunctionEnv_cells S.kind places
  intro env he s1 entry
  subst he
  refine ⟨(e0.mod.nolimit.keeps old).keeps entry.toInCall.keep, codeAny_func ?_⟩
  obtain ⟨t, ht, hq⟩ := hbody
  have I := inv_start (CX := CX0) (E := E) S hr.hd e0 hl rv entry
  have done : ∀ {σ' : L2.St} {H' : Hp} {v : V} {u : Value} {s' : Shared}, Inv (cxOf CX0 P w K mg base N qual scope f cdv A outer s H E) [] σ' H' s' → RelV v u → Q v H' → CE outer P w H s Q u s' := fun J rv q => ⟨_, _, J.os, J.bare, J.base, J.hok, rv, q⟩
  apply wpAny_mono (ht.run [] s1 (L2.start N vs) H _ I hq)
  · rintro (_ | _ | _ | u) s' hs
    · obtain ⟨σ', H', J, q⟩ := hs
      exact done (v := V.non) (u := Value.none) J rfl q
    · obtain ⟨_, _, _, q⟩ := hs
      exact q.elim
    · obtain ⟨_, _, _, q⟩ := hs
      exact q.elim
    · obtain ⟨v, σ', H', J, rv, q⟩ := hs
      exact done J rv q
  · exact fun e s' hs => hs
theorem fn_g (F : Fun K x qual st f fd) (S : FnScope N ps (defScope st)) (hN : N.length = kN) (hp : ps.length = n)
    (hb : ∀ pa (cdv : Value) (A : Around) (outer : List PySem.Env) (s : Shared) (H : Hp) (E : XK), (A.deeper (envOfC qual (defScope st) s.heap.objs.size f cdv)).guards = some [] → Room k (A.deeper (envOfC qual (defScope st) s.heap.objs.size f cdv)) → VB ⟨C, pa⟩ rk none [] (cxOf CX0 P w K mg base N qual (defScope st) f cdv A outer s H E).nox (defBody st) m [] own' c) :
    FnG P w K mg base (k + 1) f fd ps (spV C (runM kN n m) c rk) := by
  have lens : ∀ vs H Q E, spV C (runM kN n m) c rk vs H Q E → vs.length = ps.length := fun vs H Q E h => by
    rw [hp]
    exact spV_len h
  refine ⟨lens, fun A outer s H args us vs Q E hg hr e0 hbd rv h => ?_⟩
  obtain ⟨oc, od, kV, doc, pm, an, cdv, ct, osl, rfl, lk, hcd⟩ := F.ex
  refine fg_run lk hcd S hr e0 hbd rv (lens _ _ _ _ h) (Q := Q) (E := E) ?_
  obtain ⟨t, p, q⟩ := body_ok (t := fun _ _ _ => True) hN (fun pa => hb pa cdv A outer s H E hg (hr.deeper _)) h
  exact ⟨t, p.nox, q⟩
end

/-! ### calls -/
/-- f can be called in X: it keeps its promise there -/
structure Can (X : Cx) (f : Addr) (fd : FuncData) (ps : List Str) (sp : Sp) : Prop where
  len : ∀ vs H Q E, sp vs H Q E → vs.length = ps.length
  run : ∀ (s : Shared) (H : Hp) (args : Args) (us : List Value) (vs : List V) (Q : VK) (E : XK), Env0 X.prog X.w X.K X.mg X.base X.A X.stack s H → BindsTo s fd args (ps.zip us) → Vals vs us → sp vs H Q E →
    codeAny (model X.prog X.w) X.A (.call (.ref f) args) (CR CX0 X.stack X.prog X.w H s Q E) s
section
variable {X : Cx} {C : Kl} {f : Addr} {fd : FuncData} {ps ks : List Str} {sp : Sp} {k n c c' ca cb : Nat} {E : XK} {x mN : Str} {p pos apos : Pos} {e o : Expr} {es : List Expr} {kws : List Keyword} {t ta tk : TA} {te : TE} {g : Gm} {ma mk : MA} {m : ME} {R Ra Rb : List Nat} {rk fr' : Bool} {fn : List D → (D → Prop) → Prop}
theorem can_of (F : FnOk X.prog X.w X.K X.mg X.base CX0 k f fd ps sp) (hr : Room k X.A) : Can X f fd ps sp := ⟨F.len, fun s H args us vs Q E e0 => F.run X.A X.stack s H args us vs Q E hr e0⟩
theorem can_ofG (F : FnG X.prog X.w X.K X.mg X.base k f fd ps sp) (hg : X.A.guards = some []) (hr : Room k X.A) : Can X f fd ps sp := ⟨F.len, fun s H args us vs Q E e0 => F.run X.A X.stack s H args us vs Q E hg hr e0⟩
/-- the callee's run, in the caller's words -/
theorem Can.go {pins : List (Addr × Obj)} {σ : L2.St} {H : Hp} {s : Shared} {Q : VK} {args : Args} {us : List Value} {vs : List V} {ps : List Str} (F : Can X f fd ps sp) (hb : BindsTo s fd args (ps.zip us)) (I : Inv X pins σ H s) (r : Vals vs us) (h : sp vs H Q E0) :
    codeAny (model X.prog X.w) X.A (.call (.ref f) args) (fun r s' => match r with | .ok (.ret u) => EP X pins σ Q u s' | _ => False) s := by
  refine codeAny_mono (F.run s H args us vs Q E0 I.env0 hb r h) fun r s' hq => ?_
  match r, hq with
  | .error e, hq => exact hq.elim
  | .ok (.ret u), hq => exact I.after hq
  | .ok .next, hq => exact hq.elim
  | .ok .brk, hq => exact hq.elim
  | .ok .cont, hq => exact hq.elim
theorem Can.call {pins : List (Addr × Obj)} {σ : L2.St} {H : Hp} {s : Shared} {Q : VK} {us ws : List Value} {kw : List (Str × Value)} {vs : List V} {xs : List Value} (F : Can X f fd ps sp) (hb : BindsTo s fd ⟨us, kw⟩ (ps.zip xs)) (I : Inv X pins σ H s) (r : Vals vs xs) (h : sp vs H Q E0) :
    wpAny (model X.prog X.w) X.A (PySem.call (.ref f) us kw) (EP X pins σ Q) X.xe s := by
  refine wpAny_call (codeAny_mono (F.go hb I r h) fun r s' hq => ?_)
  match r, hq with
  | .error e, hq => exact hq.elim
  | .ok (.ret u), hq => exact hq
  | .ok .next, hq => exact hq.elim
  | .ok .brk, hq => exact hq.elim
  | .ok .cont, hq => exact hq.elim
def tCallC (sp : Sp) (t : TA) : TE := fun σ H Q => t σ H fun vs H1 => sp vs H1 Q E0
/-- arguments put in the parameters' order -/
def pick {α : Type} (z : α) (π : List Nat) (xs : List α) : List α := π.map fun i => xs.getD i z
theorem pick_vals {vs : List V} {us : List Value} (r : Vals vs us) : ∀ π : List Nat, Vals (pick .non π vs) (pick .none π us)
  | [] => .nil
  | i :: π => by
    refine .cons ?_ (pick_vals r π)
    show RelV (vs.getD i .non) (us.getD i .none)
    cases e : vs[i]? with
    | none =>
      rw [List.getD_eq_getElem?_getD, List.getD_eq_getElem?_getD, e, r.none_of e]
      rfl
    | some v =>
      obtain ⟨u, h1, h2⟩ := r.get e
      rw [List.getD_eq_getElem?_getD, List.getD_eq_getElem?_getD, e, h1]
      exact h2
theorem pick_rep {S : Addr → Prop} {H : Hp} {vs : List V} {ds : List D} (r : RepL g S H vs ds) : ∀ π : List Nat, RepL g S H (pick .non π vs) (pick .non π ds)
  | [] => .nil
  | i :: π => by
    refine .cons ?_ (pick_rep r π)
    show Rep g S H (vs.getD i .non) (ds.getD i .non)
    cases e : ds[i]? with
    | none =>
      have e2 : vs[i]? = none := by
        have h1 := List.getElem?_eq_none_iff.mp e
        exact List.getElem?_eq_none_iff.mpr (by rw [r.length]; exact h1)
      rw [List.getD_eq_getElem?_getD, List.getD_eq_getElem?_getD, e, e2]
      exact .non
    | some d =>
      obtain ⟨v, h1, h2⟩ := r.get e
      rw [List.getD_eq_getElem?_getD, List.getD_eq_getElem?_getD, e, h1]
      exact h2
/-- how a call with n values and keywords ks binds -/
def KB (K : PySem.W.Frag) (fd : FuncData) (ps : List Str) (n : Nat) (ks : List Str) (π : List Nat) : Prop := ∀ (s : Shared) (us ws : List Value), K.In s.heap → us.length = n → ws.length = ks.length → BindsTo s fd ⟨us, ks.zip ws⟩ (ps.zip (pick .none π (us ++ ws)))
def tCallKC (n m : Nat) (π : List Nat) (sp : Sp) (t tk : TA) : TE := fun σ H Q => t σ H fun vs H1 => tk σ H1 fun zs H2 => (vs.length = n ∧ zs.length = m) ∧ sp (pick .non π (vs ++ zs)) H2 Q E0
theorem pe_callC (F : Can X f fd ps sp) (hg : Gl X x) (hm : X.mg x = some (.ref f)) (hk : PySem.W.keepIn X.K (.ref f) = true) (hb : Binds X.K fd ps []) (ha : PA X (e :: es) ta) (hdb : (x == ("__debug__" : Str)) = false)
    (he : starEach (e :: es) X.env = (false, eval e X.env) :: starEach es X.env) (hpl : (backTo pos (starEach es X.env)).any (·.1) = false) : PE X (.Call (.Name x p) (e :: es) [] pos) (tCallC sp ta) := by
  constructor
  intro pins s σ H Q I h
  apply wpAny_Call_Name_kw (ld_glob I hg hm ?_ hdb)
  apply PySem.W.callWith_K (h₀ := X.base) I.ok.mod.kin hk ?_ he hpl
  refine thn (ha.run pos pins s σ H _ I h) ?_
  rintro us s1 ⟨vs, H1, I1, r, q⟩
  have hl : us.length = ps.length := by rw [← r.length]; exact F.len _ _ _ _ q
  exact ⟨I1.kIn, F.call (ws := []) (by simpa using hb s1 us I1.kIn (by simpa using hl)) I1 r q⟩
theorem pe_callKC {π : List Nat} (F : Can X f fd ps sp) (hg : Gl X x) (hm : X.mg x = some (.ref f)) (hk : PySem.W.keepIn X.K (.ref f) = true) (hb : KB X.K fd ps n ks π) (ha : PA X (e :: es) ta) (hkw : PK X kws tk) (hall : (backToKw pos (keywordEach kws X.env)).all (·.1.isSome) = true) (hks : (backToKw pos (keywordEach kws X.env)).filterMap (·.1) = ks) (hdb : (x == ("__debug__" : Str)) = false)
    (he : starEach (e :: es) X.env = (false, eval e X.env) :: starEach es X.env) (hpl : ((backTo pos (starEach (e :: es) X.env)).any (·.1) || (backToKw pos (keywordEach kws X.env)).any (·.1.isNone)) = false) : PE X (.Call (.Name x p) (e :: es) kws pos) (tCallKC n ks.length π sp ta tk) := by
  constructor
  intro pins s σ H Q I h
  apply wpAny_Call_Name_kw (ld_glob I hg hm ?_ hdb)
  apply PySem.W.callWith_KW (h₀ := X.base) I.ok.mod.kin hk hall ?_ hpl he
  refine thn (ha.run pos pins s σ H _ I h) ?_
  rintro us s1 ⟨vs, H1, I1, r, q⟩
  refine thn (hkw.run pos pins s1 σ H1 _ I1 q) ?_
  rintro ws s2 ⟨zs, H2, I2, rz, ⟨l1, l2⟩, q2⟩
  rw [hks]
  exact ⟨I2.kIn, F.call (ws := []) (hb s2 us ws I2.kIn (by rw [← r.length]; exact l1) (by rw [← rz.length]; exact l2)) I2 (pick_vals (r.append rz) π) q2⟩
theorem pe_callKC0 {π : List Nat} (F : Can X f fd ps sp) (hg : Gl X x) (hm : X.mg x = some (.ref f)) (hk : PySem.W.keepIn X.K (.ref f) = true) (hb : KB X.K fd ps 0 ks π) (hkw : PK X kws tk) (hall : (backToKw pos (keywordEach kws X.env)).all (·.1.isSome) = true) (hks : (backToKw pos (keywordEach kws X.env)).filterMap (·.1) = ks) (hdb : (x == ("__debug__" : Str)) = false)
    (hpl : ((backTo pos (starEach [] X.env)).any (·.1) || (backToKw pos (keywordEach kws X.env)).any (·.1.isNone)) = false) : PE X (.Call (.Name x p) [] kws pos) (tCallKC 0 ks.length π sp tNil tk) := by
  constructor
  intro pins s σ H Q I h
  apply wpAny_Call_Name_kw (ld_glob I hg hm ?_ hdb)
  apply PySem.W.callWith_KW0 (h₀ := X.base) I.ok.mod.kin hk hall ?_ hpl
  refine thn (hkw.run pos pins s σ H _ I h) ?_
  rintro ws s2 ⟨zs, H2, I2, rz, ⟨l1, l2⟩, q2⟩
  rw [hks]
  exact ⟨I2.kIn, F.call (ws := []) (us := []) (hb s2 [] ws I2.kIn rfl (by rw [← rz.length]; exact l2)) I2 (pick_vals rz π) q2⟩
end
section
variable {X : Cx} {fn : List D → (D → Prop) → Prop} {c ca cb : Nat} {rk : Bool} {g : Gm} {e : Expr} {es : List Expr} {kws : List Keyword} {ma mk : MA} {R Ra Rb : List Nat}
/-- a promise is used: from data in the caller's words -/
theorem spV_use {S : SS} {H H1 : Hp} {B : Nat} {vs : List V} {ds : List D} {Qd : D → Prop} {Q : VK} (A : AftL g R S H H1 B ca vs ds) (hb : B + (ca + c) ≤ Bmax) (hm : fn ds Qd) (k : ∀ v H' d, Aft g rk R S H H' B (ca + c) v d → Qd d → Q v H') : spV g.C fn c rk vs H1 Q E0 := by
  obtain ⟨C, pa⟩ := g
  refine ⟨pa, B + ca, ds, Sr ⟨C, pa⟩ R S H H1, Qd, A.rep, fun a s => s.2, A.pb, by omega, hm, fun d v H' hd r p => ?_⟩
  have up : ∀ a, (H1 a = none ∨ Sr ⟨C, pa⟩ R S H H1 a) ∧ H' a ≠ none ∧ some a ≠ pa → Sr ⟨C, pa⟩ R S H H' a := fun a s => ⟨s.1.elim (fun n => .inl (A.fr.back s.2.2 n)) fun s => s.1, s.2⟩
  exact k v H' d ⟨A.fr.trans r.fr, by rw [← Nat.add_assoc]; exact p, r.rep.mono up, fun q => fsh_up (fun a n e => A.fr.back n e) A.pb up (r.fsh q)⟩ hd
def VKw (g : Gm) (X : Cx) (kws : List Keyword) (m : MA) (R : List Nat) (c : Nat) : Prop := ∃ t, PK X kws t ∧ ∀ (σ : L2.St) (H : Hp) (env : Env) (S : SS) (B : Nat) (Qd : List D → Prop) (Q : List V → Hp → Prop),
  Rl g σ H env S → PB g B H → B + c ≤ Bmax → m env Qd → (∀ vs H' ds, AftL g R S H H' B c vs ds → Qd ds → Q vs H') → t σ H Q
theorem vk_nil : VKw g X [] mNil [] 0 := ⟨_, pk_nil, fun σ H env S B Qd Q rl pb hb hm k => k [] H [] ⟨Fr.refl, pb, .nil⟩ hm⟩
theorem vk_cons {nm : Option Str} {kpos : Pos} {f : Bool} {m : ME} {mr : MA} (ha : VE g X e m Ra ca f) (hr : VKw g X kws mr Rb cb) : VKw g X (⟨nm, e, kpos⟩ :: kws) (mCons m mr) (Ra ++ Rb) (ca + cb) := by
  obtain ⟨ta, pa, ka⟩ := ha
  obtain ⟨tb, pb, kb⟩ := hr
  refine ⟨_, pk_cons pa pb, fun σ H env S B Qd Q rl pb hb hm k => ?_⟩
  refine ka σ H env S B _ _ rl pb (by omega) hm fun x H1 dx A1 hm1 => ?_
  refine kb σ H1 env S (B + ca) _ _ (rl.fr A1.fr) A1.pb (by omega) hm1 fun ys H2 dys A2 hm2 => ?_
  refine k (x :: ys) H2 (dx :: dys) ⟨A1.fr.trans A2.fr, A2.pb.mono (by omega), .cons ?_ ?_⟩ hm2
  · exact A1.rep.goN fun a o s e => ⟨s.fwd (fun i h => List.mem_append_left _ h) A2.fr, A2.fr a o s.2.2 e⟩
  · exact A2.rep.mono fun a s => s.aft (fun i h => List.mem_append_right _ h) A1.fr
/-! ### the calls of defs, as expressions -/
variable {o : D → D → Prop} {f : Bool} {m : ME}
theorem ve_call (hp : ∀ {t : TA}, PA X es t → PE X e (tCallC (spV g.C fn c rk) t)) (ha : VA g X es ma R ca) : VE g X e (mCall fn ma) R (ca + c) rk := by
  obtain ⟨t, p, k⟩ := ha
  exact ⟨_, hp p, fun σ H env S B Qd Q rl pb hb hm q => k σ H env S B _ _ rl pb (by omega) hm fun vs H1 ds A z => spV_use A hb z q⟩
theorem aftL_app {S : SS} {H H1 H2 : Hp} {B : Nat} {vs zs : List V} {ds es : List D} (A : AftL g Ra S H H1 B ca vs ds) (A2 : AftL g Rb S H1 H2 (B + ca) cb zs es) : AftL g (Ra ++ Rb) S H H2 B (ca + cb) (vs ++ zs) (ds ++ es) :=
  ⟨A.fr.trans A2.fr, A2.pb.mono (by omega), (A.rep.goN fun a o s e => ⟨s.fwd (fun i h => List.mem_append_left _ h) A2.fr, A2.fr a o s.2.2 e⟩).append (A2.rep.mono fun a s => s.aft (fun i h => List.mem_append_right _ h) A.fr)⟩
def mCallK (n m : Nat) (π : List Nat) (fn : List D → (D → Prop) → Prop) (ma mk : MA) : ME := fun env Q => ma env fun ds => mk env fun es => (ds.length = n ∧ es.length = m) ∧ fn (pick .non π (ds ++ es)) Q
theorem ve_callK {n m : Nat} {π : List Nat} (hp : ∀ {t u : TA}, PA X es t → PK X kws u → PE X e (tCallKC n m π (spV g.C fn c rk) t u)) (ha : VA g X es ma Ra ca) (hk : VKw g X kws mk Rb cb) : VE g X e (mCallK n m π fn ma mk) (Ra ++ Rb) (ca + cb + c) rk := by
  obtain ⟨t, p, k⟩ := ha
  obtain ⟨u, q, j⟩ := hk
  refine ⟨_, hp p q, fun σ H env S B Qd Q rl pb hb hm h => k σ H env S B _ _ rl pb (by omega) hm fun vs H1 ds A z => ?_⟩
  refine j σ H1 env S (B + ca) _ _ (rl.fr A.fr) A.pb (by omega) z fun zs H2 es A2 z2 => ?_
  have A3 := aftL_app A A2
  exact ⟨⟨by rw [A.rep.length]; exact z2.1.1, by rw [A2.rep.length]; exact z2.1.2⟩, spV_use ⟨A3.fr, A3.pb, pick_rep A3.rep π⟩ hb z2.2 h⟩
end
/-! ### methods of a needle, a needle made, its fields -/
section
variable {X : Cx} {f C : Addr} {fd : FuncData} {ps ks : List Str} {sp : Sp} {k n c c' ca cb co : Nat} {x mN fN : Str} {p pos apos : Pos} {e o : Expr} {es : List Expr} {kws : List Keyword} {ta tk : TA} {te : TE} {g : Gm} {ma mk : MA} {mo : ME} {R Ra Rb Ro : List Nat} {rk fo : Bool} {fn : List D → (D → Prop) → Prop}
def tMethC (C : Addr) (m : Str) (sp : Sp) (te : TE) (t : TA) : TE := fun σ H Q => te σ H fun x H1 => ∃ a dx fs, x = .ref a ∧ H1 a = some (.ins C dx fs) ∧ fs.lookup m = none ∧ t σ H1 fun vs H2 => sp (x :: vs) H2 Q E0
theorem pe_methC {pl : Sem Bool} (he : PE X o te) (cl : Cls X.K C) (hm : Meth X.K C mN f) (F : Can X f fd ps sp) (hb : Binds X.K fd ps []) (ha : PA X (e :: es) ta) (hst : starEach (e :: es) X.env = (false, eval e X.env) :: starEach es X.env) (hpl : (backTo pos (starEach es X.env)).any (·.1) = false)
    (ht : eval (.Call (.Attribute o mN apos) (e :: es) [] pos) X.env = (do let r ← eval o X.env; standAt apos.atName; let (u, first) ← holding [r] (getMethod r mN pl); callWith pos u first (backTo pos (starEach (e :: es) X.env)) (backToKw pos (keywordEach [] X.env)))) : PE X (.Call (.Attribute o mN apos) (e :: es) [] pos) (tMethC C mN sp te ta) := by
  constructor
  intro pins s σ H Q I h
  refine PySem.W.methodCall_KW (pl := pl) (thn (he.run pins s σ H _ I h) ?_) ht
  rintro u s1 ⟨x, H1, I1, rx, a, dx, fs, rfl, ea, l, q⟩
  cases rx
  apply getmeth_ok I1 ea cl hm l
  apply PySem.W.callWith_K (first := [.ref a]) (h₀ := X.base) I.ok.mod.kin hm.kp ?_ hst hpl
  refine thn (ha.run pos pins s1 σ H1 _ I1 q) ?_
  rintro us s2 ⟨vs, H2, I2, r, q2⟩
  have hl : (Value.ref a :: us).length = ps.length := by
    rw [← F.len _ _ _ _ q2, List.length_cons, List.length_cons, r.length]
  exact ⟨I2.kIn, F.call (ws := []) (by simpa using hb s2 (.ref a :: us) I2.kIn (by simpa using hl)) I2 (.cons (show RelV (.ref a) (.ref a) from rfl) r) q2⟩
theorem pe_methC0 {pl : Sem Bool} (he : PE X o te) (cl : Cls X.K C) (hm : Meth X.K C mN f) (F : Can X f fd ps sp) (hb : Binds X.K fd ps [])
    (ht : eval (.Call (.Attribute o mN apos) [] [] pos) X.env = (do let r ← eval o X.env; standAt apos.atName; let (u, first) ← holding [r] (getMethod r mN pl); callWith pos u first (backTo pos (starEach [] X.env)) (backToKw pos (keywordEach [] X.env)))) : PE X (.Call (.Attribute o mN apos) [] [] pos) (tMethC C mN sp te tNil) := by
  constructor
  intro pins s σ H Q I h
  refine PySem.W.methodCall_KW (pl := pl) (thn (he.run pins s σ H _ I h) ?_) ht
  rintro u s1 ⟨x, H1, I1, rx, a, dx, fs, rfl, ea, l, q⟩
  cases rx
  apply getmeth_ok I1 ea cl hm l
  have hl : [Value.ref a].length = ps.length := by rw [← F.len _ _ _ _ q]; rfl
  exact PySem.W.callWith_K0 (first := [.ref a]) I1.kIn hm.kp (F.call (ws := []) (by simpa using hb s1 [.ref a] I1.kIn (by simpa using hl)) I1 (.cons (show RelV (.ref a) (.ref a) from rfl) .nil) q)
def tMethKC (C : Addr) (m : Str) (n : Nat) (π : List Nat) (sp : Sp) (te : TE) (t : TA) : TE := fun σ H Q => te σ H fun x H1 => ∃ a dx fs, x = .ref a ∧ H1 a = some (.ins C dx fs) ∧ fs.lookup m = none ∧ t σ H1 fun vs H2 => vs.length = n ∧ sp (pick .non π (x :: vs)) H2 Q E0
/-- o.m(k = v, ..) -/
theorem pe_methKC {pl : Sem Bool} {π : List Nat} (he : PE X o te) (cl : Cls X.K C) (hm : Meth X.K C mN f) (F : Can X f fd ps sp) (hb : KB X.K fd ps 1 ks π) (hkw : PK X kws tk) (hall : (backToKw pos (keywordEach kws X.env)).all (·.1.isSome) = true) (hks : (backToKw pos (keywordEach kws X.env)).filterMap (·.1) = ks)
    (hpl : ((backTo pos (starEach [] X.env)).any (·.1) || (backToKw pos (keywordEach kws X.env)).any (·.1.isNone)) = false)
    (ht : eval (.Call (.Attribute o mN apos) [] kws pos) X.env = (do let r ← eval o X.env; standAt apos.atName; let (u, first) ← holding [r] (getMethod r mN pl); callWith pos u first (backTo pos (starEach [] X.env)) (backToKw pos (keywordEach kws X.env)))) : PE X (.Call (.Attribute o mN apos) [] kws pos) (tMethKC C mN ks.length π sp te tk) := by
  constructor
  intro pins s σ H Q I h
  refine PySem.W.methodCall_KW (pl := pl) (thn (he.run pins s σ H _ I h) ?_) ht
  rintro u s1 ⟨x, H1, I1, rx, a, dx, fs, rfl, ea, l, q⟩
  cases rx
  apply getmeth_ok I1 ea cl hm l
  apply PySem.W.callWith_KW0 (first := [.ref a]) (h₀ := X.base) I.ok.mod.kin hm.kp hall ?_ hpl
  refine thn (hkw.run pos pins s1 σ H1 _ I1 q) ?_
  rintro ws s2 ⟨zs, H2, I2, rz, l1, q2⟩
  rw [hks]
  exact ⟨I2.kIn, F.call (ws := []) (hb s2 [.ref a] ws I2.kIn rfl (by rw [← rz.length]; exact l1)) I2 (pick_vals (.cons (show RelV (.ref a) (.ref a) from rfl) rz) π) q2⟩
/-- the receiver is a needle -/
def isNd : D → (D → Prop) → Prop
  | .ndl s p m, Q => Q (.ndl s p m)
  | _, _ => False
def mMeth (fn : List D → (D → Prop) → Prop) (mo : ME) (ma : MA) : ME := fun env Q => mo env fun d => isNd d fun d => ma env fun ds => fn (d :: ds) Q
theorem aftL_cons {S : SS} {H H1 H2 : Hp} {B : Nat} {v : V} {d : D} {zs : List V} {es : List D} (A : Aft g fo Ro S H H1 B co v d) (A2 : AftL g Rb S H1 H2 (B + co) cb zs es) : AftL g (Ro ++ Rb) S H H2 B (co + cb) (v :: zs) (d :: es) :=
  ⟨A.fr.trans A2.fr, A2.pb.mono (by omega), .cons (A.rep.goN fun a o s e => ⟨s.fwd (fun i h => List.mem_append_left _ h) A2.fr, A2.fr a o s.2.2 e⟩) (A2.rep.mono fun a s => s.aft (fun i h => List.mem_append_right _ h) A.fr)⟩
theorem nd_of {S : Addr → Prop} {H : Hp} {v : V} {d : D} {Q : D → Prop} (r : Rep g S H v d) (h : isNd d Q) : (∃ a dx t1 t2, v = .ref a ∧ H a = some (.ins g.C.nd dx [("passed", .ref t1), ("form", .ref t2)])) ∧ Q d := by
  unfold isNd at h
  split at h
  · cases r with
    | ndl s s1 s2 e e1 e2 => exact ⟨⟨_, _, _, _, rfl, e⟩, h⟩
  · exact h.elim
theorem look_no {m : Str} {t1 t2 : Addr} (h1 : (m == "passed") = false) (h2 : (m == "form") = false) : List.lookup m [(("passed" : Str), V.ref t1), ("form", .ref t2)] = none := by
  show (match m == "passed" with | true => some (V.ref t1) | false => (match m == "form" with | true => some (V.ref t2) | false => none)) = none
  rw [h1, h2]
theorem ve_meth (hp : ∀ {t : TE} {u : TA}, PE X o t → PA X es u → PE X e (tMethC g.C.nd mN (spV g.C fn c rk) t u)) (h1 : ∀ t1 t2 : Addr, List.lookup mN [(("passed" : Str), V.ref t1), ("form", .ref t2)] = none) (ho : VE g X o mo Ro co fo) (ha : VA g X es ma Ra ca) :
    VE g X e (mMeth fn mo ma) (Ro ++ Ra) (co + ca + c) rk := by
  obtain ⟨t, p, k⟩ := ho
  obtain ⟨u, q, j⟩ := ha
  refine ⟨_, hp p q, fun σ H env S B Qd Q rl pb hb hm h => k σ H env S B _ _ rl pb (by omega) hm fun v H1 d A z => ?_⟩
  obtain ⟨⟨a, dx, t1, t2, rfl, ea⟩, z⟩ := nd_of A.rep z
  refine ⟨a, dx, _, rfl, ea, h1 t1 t2, j σ H1 env S (B + co) _ _ (rl.fr A.fr) A.pb (by omega) z fun zs H2 es A2 z2 => ?_⟩
  exact spV_use (aftL_cons A A2) hb z2 h
def mMethK (n : Nat) (π : List Nat) (fn : List D → (D → Prop) → Prop) (mo : ME) (ma : MA) : ME := fun env Q => mo env fun d => isNd d fun d => ma env fun ds => ds.length = n ∧ fn (pick .non π (d :: ds)) Q
theorem ve_methK {π : List Nat} (hp : ∀ {t : TE} {u : TA}, PE X o t → PK X kws u → PE X e (tMethKC g.C.nd mN n π (spV g.C fn c rk) t u)) (h1 : ∀ t1 t2 : Addr, List.lookup mN [(("passed" : Str), V.ref t1), ("form", .ref t2)] = none) (ho : VE g X o mo Ro co fo) (ha : VKw g X kws ma Ra ca) :
    VE g X e (mMethK n π fn mo ma) (Ro ++ Ra) (co + ca + c) rk := by
  obtain ⟨t, p, k⟩ := ho
  obtain ⟨u, q, j⟩ := ha
  refine ⟨_, hp p q, fun σ H env S B Qd Q rl pb hb hm h => k σ H env S B _ _ rl pb (by omega) hm fun v H1 d A z => ?_⟩
  obtain ⟨⟨a, dx, t1, t2, rfl, ea⟩, z⟩ := nd_of A.rep z
  refine ⟨a, dx, _, rfl, ea, h1 t1 t2, j σ H1 env S (B + co) _ _ (rl.fr A.fr) A.pb (by omega) z fun zs H2 es A2 z2 => ?_⟩
  have A3 := aftL_cons A A2
  exact ⟨by rw [A2.rep.length]; exact z2.1, spV_use ⟨A3.fr, A3.pb, pick_rep A3.rep π⟩ hb z2.2 h⟩
/-- o.form, o.passed -/
def oForm : D → (D → Prop) → Prop
  | .ndl s p m, Q => Q (.tup [.int (s / fg s p), .int (p / fg s p), .int (m / fg s p)])
  | _, _ => False
def oPassed : D → (D → Prop) → Prop
  | .ndl s p m, Q => Q (.tup [.int s, .int p, .int m])
  | _, _ => False
theorem look_form (a b : V) : List.lookup ("form" : Str) [(("passed" : Str), a), ("form", b)] = some b := by
  have h : (("form" : Str) == ("passed" : Str)) = false := by decide +kernel
  simp [List.lookup, h]
theorem look_passed (a b : V) : List.lookup ("passed" : Str) [(("passed" : Str), a), ("form", b)] = some a := by simp [List.lookup]
theorem ve_form (hp : ∀ {t : TE}, PE X o t → PE X e (tFld X.K t "form")) (cl : Cls X.K g.C.nd) (hn : NoAttr X.K g.C.nd "form") (ho : VE g X o mo Ro co fo) : VE g X e (m1 oForm mo) Ro co false := by
  obtain ⟨t, p, k⟩ := ho
  refine ⟨_, hp p, fun σ H env S B Qd Q rl pb hb hm h => k σ H env S B _ _ rl pb hb hm fun v H1 d A z => ?_⟩
  have r := A.rep
  unfold oForm at z
  split at z
  · cases r with
    | ndl s s1 s2 e e1 e2 => exact ⟨_, _, _, _, _, rfl, e, cl, hn, look_form _ _, h _ H1 _ ⟨A.fr, A.pb, .tup s2 e2 (.cons (.int _) (.cons (.int _) (.cons (.int _) .nil))), fun q => nomatch q⟩ z⟩
  · exact z.elim
theorem ve_passed (hp : ∀ {t : TE}, PE X o t → PE X e (tFld X.K t "passed")) (cl : Cls X.K g.C.nd) (hn : NoAttr X.K g.C.nd "passed") (ho : VE g X o mo Ro co fo) : VE g X e (m1 oPassed mo) Ro co false := by
  obtain ⟨t, p, k⟩ := ho
  refine ⟨_, hp p, fun σ H env S B Qd Q rl pb hb hm h => k σ H env S B _ _ rl pb hb hm fun v H1 d A z => ?_⟩
  have r := A.rep
  unfold oPassed at z
  split at z
  · cases r with
    | ndl s s1 s2 e e1 e2 => exact ⟨_, _, _, _, _, rfl, e, cl, hn, look_passed _ _, h _ H1 _ ⟨A.fr, A.pb, .tup s1 e1 (.cons (.int _) (.cons (.int _) (.cons (.int _) .nil))), fun q => nomatch q⟩ z⟩
  · exact z.elim
/-- what __init__ promises: a needle's three integers, all fields laid -/
def spInit (C : Addr) : Sp := fun vs H Q _ => ∃ (x dx : Addr) (s p m : Int), vs = [.ref x, .int s, .int p, .int m] ∧ H x = some (.ins C dx []) ∧ (1 ≤ s ∧ s ≤ p ∧ 0 ≤ m ∧ m < p ∧ p < 10 ^ 60) ∧
  ∀ t1 t2 H', (∀ b o, b ≠ x → H b = some o → H' b = some o) → H t1 = none → H t2 = none → t1 ≠ t2 → H' x = some (.ins C dx [("passed", .ref t1), ("form", .ref t2)]) → H' t1 = some (.tup [.int s, .int p, .int m]) → H' t2 = some (.tup [.int (s / fg s p), .int (p / fg s p), .int (m / fg s p)]) → Q .non H'
def oNdl : List D → (D → Prop) → Prop
  | [.int s, .int p, .int m], Q => (1 ≤ s ∧ s ≤ p ∧ 0 ≤ m ∧ m < p ∧ p < 10 ^ 60) ∧ Q (.ndl s p m)
  | _, _ => False
theorem make_use {S : SS} {H H1 : Hp} {B : Nat} {vs : List V} {ds : List D} {Qd : D → Prop} {Q : VK} (A : AftL g R S H H1 B ca vs ds) (hm : oNdl ds Qd) (k : ∀ v H' d, Aft g false R S H H' B ca v d → Qd d → Q v H') (x dx : Addr) (hx : H1 x = none) (hdx : H1 dx = none) (ne : dx ≠ x) :
    spInit g.C.nd (.ref x :: vs) (upd (upd H1 dx (.own x)) x (.ins g.C.nd dx [])) (fun v H2 => v = .non ∧ Q (.ref x) H2) E0 := by
  unfold oNdl at hm
  split at hm
  · have r := A.rep
    cases r with
    | cons r1 r =>
      cases r1
      cases r with
      | cons r2 r =>
        cases r2
        cases r with
        | cons r3 r =>
          cases r3
          cases r
          rename_i s p m
          refine ⟨x, dx, s, p, m, rfl, upd_same, hm.1, fun t1 t2 H' ke h1 h2 n12 e e1 e2 => ⟨rfl, ?_⟩⟩
          have up : ∀ b, upd (upd H1 dx (.own x)) x (.ins g.C.nd dx []) b = none → H1 b = none := fun b hb => by
            by_cases q : b = x
            · rw [q, upd_same] at hb
              cases hb
            · rw [upd_ne q] at hb
              by_cases q2 : b = dx
              · rw [q2, upd_same] at hb
                cases hb
              · rw [upd_ne q2] at hb
                exact hb
          have sm : Same H1 H' := fun b o eb => by
            have nx := ne_of_none eb hx
            refine ke b o nx ?_
            rw [upd_ne nx, upd_ne (ne_of_none eb hdx)]
            exact eb
          have F := A.fr.trans (Fr.of sm)
          have new : ∀ b, H1 b = none → H' b ≠ none → Sr g R S H H' b := fun b hb hb' => ⟨.inl (A.fr.back (A.pb.not hb) hb), hb', A.pb.not hb⟩
          have some_ne : ∀ {b : Addr} {o : HO}, H' b = some o → H' b ≠ none := fun e q => by
            rw [e] at q
            cases q
          exact k (.ref x) H' _ ⟨F, A.pb.same sm, .ndl (new x hx (some_ne e)) (new t1 (up t1 h1) (some_ne e1)) (new t2 (up t2 h2) (some_ne e2)) e e1 e2, fun q => nomatch q⟩ hm.2
  · exact hm.elim
theorem ve_make (hp : ∀ {t : TA}, PA X es t → PE X e (tMake g.C.nd (spInit g.C.nd) [] E0 t)) (ha : VA g X es ma R ca) : VE g X e (mCall oNdl ma) R ca false := by
  obtain ⟨t, p, k⟩ := ha
  refine ⟨_, hp p, fun σ H env S B Qd Q rl pb hb hm q => k σ H env S B _ _ rl pb hb hm fun vs H1 ds A z => fun x dx hx hdx ne => ?_⟩
  rw [List.append_nil]
  exact make_use A z q x dx hx hdx ne
end
end VL

set_option Elab.async false
set_option linter.all false
set_option maxRecDepth 100000
set_option maxHeartbeats 4000000
/-! VL, part j: the rest of the calls; what the law's own draw gives; the end of a law whose stack is free of reprs. -/
namespace VL
open PySem PySem.Spec PyProof.Rows L2

theorem bl_nil : ∀ (ds : List D) (env : Env) (Q : Env → Prop), bNil ds env Q → ds.length = 0 := fun ds env Q h => by
  unfold bNil at h
  split at h
  · rfl
  · exact h.elim
theorem bl_cons {i n : Nat} {bs : MGs} (hb : ∀ (ds : List D) (env : Env) (Q : Env → Prop), bs ds env Q → ds.length = n) : ∀ (ds : List D) (env : Env) (Q : Env → Prop), bCons (bName i) bs ds env Q → ds.length = n + 1 := fun ds env Q h => by
  unfold bCons at h
  split at h
  · rw [List.length_cons, hb _ _ _ h]
  · exact h.elim
theorem bt2 {i j : Nat} : ∀ (ds : List D) (env : Env) (Q : Env → Prop), bCons (bName i) (bCons (bName j) bNil) ds env Q → ds.length = 2 := bl_cons (bl_cons bl_nil)
theorem bt3 {i j k : Nat} : ∀ (ds : List D) (env : Env) (Q : Env → Prop), bCons (bName i) (bCons (bName j) (bCons (bName k) bNil)) ds env Q → ds.length = 3 := bl_cons (bl_cons (bl_cons bl_nil))
section
variable {X : Cx} {fn : List D → (D → Prop) → Prop} {c ca cb co n m : Nat} {rk fo : Bool} {g : Gm} {e o : Expr} {mN : Str} {es : List Expr} {kws : List Keyword} {ma mk : MA} {mo : ME} {R Ra Rb Ro : List Nat} {π : List Nat}
theorem ve_callK0 (hp : ∀ {u : TA}, PK X kws u → PE X e (tCallKC n m π (spV g.C fn c rk) tNil u)) (hk : VKw g X kws mk Rb cb) : VE g X e (mCallK n m π fn mNil mk) (([] : List Nat) ++ Rb) (0 + cb + c) rk := by
  obtain ⟨u, q, j⟩ := hk
  refine ⟨_, hp q, fun σ H env S B Qd Q rl pb hb hm h => ?_⟩
  refine j σ H env S B _ _ rl pb (by omega) hm fun zs H2 es A2 z2 => ?_
  have A3 : AftL g ([] ++ Rb) S H H2 B (0 + cb) ([] ++ zs) ([] ++ es) := ⟨A2.fr, A2.pb.mono (by omega), A2.rep⟩
  exact ⟨⟨z2.1.1, by rw [A2.rep.length]; exact z2.1.2⟩, spV_use ⟨A3.fr, A3.pb, pick_rep A3.rep π⟩ hb z2.2 h⟩
theorem ve_meth0 (hp : ∀ {t : TE}, PE X o t → PE X e (tMethC g.C.nd mN (spV g.C fn c rk) t tNil)) (h1 : ∀ t1 t2 : Addr, List.lookup mN [(("passed" : Str), V.ref t1), ("form", .ref t2)] = none) (ho : VE g X o mo Ro co fo) : VE g X e (mMeth fn mo mNil) (Ro ++ ([] : List Nat)) (co + 0 + c) rk := by
  obtain ⟨t, p, k⟩ := ho
  refine ⟨_, hp p, fun σ H env S B Qd Q rl pb hb hm h => k σ H env S B _ _ rl pb (by omega) hm fun v H1 d A z => ?_⟩
  obtain ⟨⟨a, dx, t1, t2, rfl, ea⟩, z⟩ := nd_of A.rep z
  refine ⟨a, dx, _, rfl, ea, h1 t1 t2, ?_⟩
  exact spV_use (aftL_cons A ⟨Fr.refl, A.pb, .nil⟩) hb z h
end
theorem kb_of {K : PySem.W.Frag} {x qual : Str} {st : Stmt} {f : Addr} {fd : FuncData} {ps ks : List Str} {n : Nat} {π : List Nat} (F : Fun K x qual st f fd)
    (h : ∀ (kV doc pm : Value) (an : Option Addr) (cdv ct : Value) (us ws : List Value), us.length = n → ws.length = ks.length → bindArgs (PySem.W.fnOf x qual (defArgs st) (defBody st) (defScope st) .none kV doc pm an cdv ct) ⟨us, ks.zip ws⟩ = pure (ps.zip (pick .none π (us ++ ws)))) : KB K fd ps n ks π := by
  obtain ⟨oc, od, kV, doc, pm, an, cdv, ct, osl, rfl, lk, hcd⟩ := F.ex
  exact fun s us ws _ l1 l2 => .of_eq (h kV doc pm an cdv ct us ws l1 l2)
/-- what a draw gives: any integer from 0 to one less than so many -/
def oDraw : List D → (D → Prop) → Prop
  | [.pool, .int n], Q => (0 < n ∧ n.natAbs < 10 ^ 200) ∧ ∀ d : Int, 0 ≤ d → d < n → Q (.int d)
  | _, _ => False
theorem oDraw_len {ds : List D} {Q : D → Prop} (h : oDraw ds Q) : ds.length = 2 := by
  unfold oDraw at h
  split at h
  · rfl
  · exact h.elim
theorem n200 {n : Int} (h0 : 0 < n) (h : n.natAbs < 10 ^ 200) : CDivW 0 n := ⟨h0, Nat.lt_of_lt_of_le (log2_lt (k := 700) (Nat.lt_of_lt_of_le h (by decide +kernel)) (by decide)) (by decide)⟩
/-- the third power of a mixed number is within the line -/
theorem cube_ok {b : Int} (h : b.natAbs < 2 ^ 200000) : POk b 3 := by
  refine ⟨by decide, ?_⟩
  have z : Builtin.Int.intBits b ≤ b.natAbs.log2 + 1 := by
    unfold Builtin.Int.intBits
    split <;> omega
  have q := log2_lt h (by decide)
  have e : (2 : Int) ^ 27 = 134217728 := by decide
  rw [e]
  omega
theorem mix1 {p1 p2 k : Int} (h1 : p1.natAbs < 2 ^ 200) (h2 : 0 ≤ p2) (h3 : p2 ≤ (Bmax : Int)) (hk : 0 ≤ k) (hk2 : k < 2 ^ 30) : (p1 + k * p2).natAbs < 2 ^ 200000 := by
  have a : (p1 + k * p2).natAbs ≤ p1.natAbs + k.natAbs * p2.natAbs := by
    rw [← Int.natAbs_mul]
    exact Int.natAbs_add_le _ _
  have b : k.natAbs * p2.natAbs ≤ 2 ^ 30 * 2 ^ 100000 := by
    refine Nat.mul_le_mul (by omega) ?_
    have e : Bmax = 2 ^ 100000 := rfl
    omega
  have c : (2 : Nat) ^ 30 * 2 ^ 100000 = 2 ^ 100030 := (Nat.pow_add 2 30 100000).symm
  have d : (2 : Nat) ^ 200 + 2 ^ 100030 < 2 ^ 200000 := by
    have d1 : (2 : Nat) ^ 200 ≤ 2 ^ 100030 := Nat.pow_le_pow_right (by decide) (by decide)
    have d2 : (2 : Nat) ^ 100030 + 2 ^ 100030 = 2 ^ 100031 := by rw [Nat.pow_succ]; omega
    have d3 : (2 : Nat) ^ 100031 < 2 ^ 200000 := Nat.pow_lt_pow_right (by decide) (by decide)
    omega
  omega
/-! ### a block whatever the pool; a promise by hand -/
def tsAny (C : Kl) (rk : Bool) (ol : List Nat) (m : MS) (own own' : List Nat) (c : Nat) : TS := fun D' σ H => ∃ pa H0 A0 gs env S B M, Rs ⟨C, pa⟩ H0 A0 own gs σ H env S ∧ PB ⟨C, pa⟩ B H ∧ B + c ≤ Bmax ∧ m M env ∧ Br ⟨C, pa⟩ rk none ol H0 A0 gs own' (B + c) M D'
theorem vb_any {C : Kl} {rk : Bool} {ol : List Nat} {X : Cx} {st : List Stmt} {m : MS} {own own' : List Nat} {c : Nat} (h : ∀ pa, VB ⟨C, pa⟩ rk none ol X st m own own' c) : PSs X st (tsAny C rk ol m own own' c) :=
  ⟨fun pins s σ H D' I ⟨pa, H0, A0, gs, env, S, B, M, h1, h2, h3, h4, h5⟩ => by
    obtain ⟨t, p, k⟩ := h pa
    exact p.run pins s σ H D' I (k H0 A0 gs σ H env S B M D' h1 h2 h3 h4 h5)⟩
theorem vb_fin {g : Gm} {rk : Bool} {xw : Option WX} {ol : List Nat} {X : Cx} {st : List Stmt} {m : MS} {own own1 : List Nat} {c c1 : Nat} (h : VB g rk xw ol X st m own own1 c1) (hc : c1 ≤ c) : VB g rk xw ol X st m own [] c := by
  obtain ⟨t, p, k⟩ := h
  exact ⟨t, p, fun H0 A0 gs σ H env S B M D' r pb hb hm br => k H0 A0 gs σ H env S B M D' r pb (by omega) hm ⟨fun _ _ _ _ r p q => br.nx _ _ _ _ (r.less (fun _ z => (by cases z)) fun _ z => z) (p.mono (by omega)) q, fun _ _ _ r p q => br.rt _ _ _ r (p.mono (by omega)) q, fun _ _ _ _ r p q => br.bk _ _ _ _ r (p.mono (by omega)) q, fun _ _ _ _ r p q => br.ct _ _ _ _ r (p.mono (by omega)) q, fun W e _ _ _ _ _ _ _ _ r p x q => br.ex W e _ _ _ _ _ _ _ _ r (p.mono (by omega)) x q⟩⟩
theorem fn_g0 {P : Program} {w : World} {K : PySem.W.Frag} {mg : Str → Option Value} {base : Heap} {x qual : Str} {st : Stmt} {f : Addr} {fd : FuncData} {N ps : List Str} {k : Nat} {sp : Sp} (F : Fun K x qual st f fd) (S : FnScope N ps (defScope st)) (len : ∀ vs H Q E, sp vs H Q E → vs.length = ps.length)
    (hb : ∀ (cdv : Value) (A : Around) (outer : List PySem.Env) (s : Shared) (H : Hp) (vs : List V) (Q : VK) (E : XK), (A.deeper (envOfC qual (defScope st) s.heap.objs.size f cdv)).guards = some [] → Room k (A.deeper (envOfC qual (defScope st) s.heap.objs.size f cdv)) → sp vs H Q E →
      ∃ t, PSs (cxOf CX0 P w K mg base N qual (defScope st) f cdv A outer s H E).nox (defBody st) t ∧ t { nx := fun _ H' => Q .non H', rt := Q } (L2.start N vs) H) : FnG P w K mg base (k + 1) f fd ps sp := by
  refine ⟨len, fun A outer s H args us vs Q E hg hr e0 hbd rv h => ?_⟩
  obtain ⟨oc, od, kV, doc, pm, an, cdv, ct, osl, rfl, lk, hcd⟩ := F.ex
  refine fg_run lk hcd S hr e0 hbd rv (len _ _ _ _ h) (Q := Q) (E := E) ?_
  obtain ⟨t, p, q⟩ := hb cdv A outer s H vs Q E hg (hr.deeper _) h
  exact ⟨t, p.nox, q⟩
theorem put_two (a b : V) : putF "form" b (putF "passed" a []) = [(("passed" : Str), a), ("form", b)] := by
  have n : ¬ (("passed" : Str) = "form") := by decide +kernel
  show (if ("passed" : Str) = "form" then [(("passed" : Str), b)] else (("passed" : Str), a) :: putF "form" b []) = [(("passed" : Str), a), ("form", b)]
  rw [if_neg n]
  rfl
/-! ### the law's own promise, and the end -/
def spLaw (K : PySem.W.Frag) : Sp := fun vs H Q _ => ∃ (a : Addr) (ns : List Int), vs = [.ref a] ∧ SqL K H a (ns.map V.int) ∧ ns.length ≤ 63 ∧ ∀ H', Q (.bl true) H'
end VL

set_option Elab.async false
set_option linter.all false
set_option maxRecDepth 100000
set_option maxHeartbeats 4000000
/-! VL, part k: the end: the law is called on the script, where the stack is free of reprs. -/
namespace VL
open PySem PySem.Spec PyProof.Rows L2

/-! ### the turns of a law: right is asked again and again -/
section
variable {right : List D → (D → Prop) → Prop} {M : MEnds} {n : Nat} {a : Addr}
theorem turn_ok (hr : ∀ Q : D → Prop, Q (.bl true) → right [.pool] Q) {env : Env} (h2 : env[2]? = some (some .pool)) (hn : M.nx env) : mIfS (mNot (mB (mCall right (mCons (mVar 2) mNil)))) (mRet (mC (.bl false))) mNext M env := by
  show mVar 2 env _
  unfold mVar
  rw [h2]
  exact hr _ hn
def Turn0 (n : Nat) (a : Addr) (env : Env) : Prop := env.length = n ∧ env[0]? = some (some (.opq a)) ∧ env[2]? = some (some .pool)
theorem Turn0.set {env : Env} (h : Turn0 n a env) (d : D) : Turn0 n a (env.set 3 (some d)) :=
  ⟨by rw [List.length_set]; exact h.1, by rw [List.getElem?_set_ne (by decide)]; exact h.2.1, by rw [List.getElem?_set_ne (by decide)]; exact h.2.2⟩
theorem turns_ok (hr : ∀ Q : D → Prop, Q (.bl true) → right [.pool] Q) (hn : ∀ env, Turn0 n a env → M.nx env) : ∀ (items : List D) (env : Env), Turn0 n a env → forM (bName 3) (mIfS (mNot (mB (mCall right (mCons (mVar 2) mNil)))) (mRet (mC (.bl false))) mNext) M items env
  | [], env, h => hn env h
  | d :: ds, env, h => turn_ok hr (h.set d).2.2 (turns_ok hr hn ds _ (h.set d))
end
/-- nothing is tracked but the script; if it is one of the module's own objects, not even that -/
def scrH (K : PySem.W.Frag) (a : Addr) (o : Obj) (xs : List V) : Hp := fun b => if b = a ∧ K.lookup a = none then some (.frz o (.lst xs)) else none
theorem scrH_some {K : PySem.W.Frag} {a b : Addr} {o : Obj} {xs : List V} {u : HO} (h : scrH K a o xs b = some u) : b = a ∧ K.lookup a = none ∧ u = .frz o (.lst xs) := by
  unfold scrH at h
  split at h
  · rename_i c
    cases h
    exact ⟨c.1, c.2, rfl⟩
  · cases h
theorem scrH_none {K : PySem.W.Frag} {a b : Addr} {o : Obj} {xs : List V} (h : ¬ (b = a ∧ K.lookup a = none)) : scrH K a o xs b = none := if_neg h
section
variable {P : Program} {w : World} {K : PySem.W.Frag} {mg mb : Str → Option Value} {k : Nat} {fa a : Addr} {fd : FuncData} {x : Str} {s : Shared} {vs : List Value} {ns : List Int}
theorem law_end (KX : K.In s.heap) (hns : s.heap.Ns mainGlobals mg) (hbn : s.heap.Ns builtinsNs mb) (hbb : ∀ x : Str, x ≠ "__name__" → mb x = bootBuiltins x) (hlim : s.heap.NoLimit) (hgn : s.gens = #[])
    (ha : s.heap.get? a = some { cls := .type "list", data := .seq vs.toArray }) (hi : IntsAre vs ns) (hl : ns.length ≤ 63) (hr : Room k callerA)
    (F : ∀ base : Heap, K.In base → base.Ns mainGlobals mg → FnG P w K mg base k fa fd [x] (spLaw K)) (hbind : ∀ (s : Shared) (u : Value), BindsTo s fd ⟨[u], []⟩ [(x, u)]) :
    codeAny (model P w) callerA (.call (.ref fa) ⟨[.ref a], []⟩) (fun r s' => r = .ok (.ret (.bool true)) ∧ OldK s.heap s'.heap ∧ s'.os = s.os ∧ AllBare s'.gens) s := by
  have rv : Vals (ns.map V.int) vs := L2.vals_ints hi
  have small : ns.length ≤ sizeLine := Nat.le_trans hl (by decide)
  have H := scrH K a { cls := .type "list", data := .seq vs.toArray } (ns.map V.int)
  -- a dict, an object of the module: not tracked
  have nodict : ∀ {b : Addr} {o : Obj} {es : Array DictEntry} {ep : Nat}, s.heap.get? b = some o → o.data = .dict es ep → scrH K a { cls := .type "list", data := .seq vs.toArray } (ns.map V.int) b = none := fun {b o es ep} e d => scrH_none fun c => by
    rw [c.1, ha] at e
    cases e
    cases d
  have nomod : ∀ {b : Addr} {o : Obj}, K.lookup b = some o → scrH K a { cls := .type "list", data := .seq vs.toArray } (ns.map V.int) b = none := fun {b o} e => scrH_none fun c => by
    rw [c.1, c.2] at e
    cases e
  have hok : HOk P w (scrH K a { cls := .type "list", data := .seq vs.toArray } (ns.map V.int)) s.heap := fun b u e => by
    obtain ⟨rfl, _, rfl⟩ := scrH_some e
    exact ⟨ha, by rw [List.length_map]; exact small, vs, _, rv, ha⟩
  have hseq : SqL K (scrH K a { cls := .type "list", data := .seq vs.toArray } (ns.map V.int)) a (ns.map V.int) := by
    cases e : K.lookup a with
    | none => exact .inl (.inr ⟨_, if_pos ⟨rfl, e⟩⟩)
    | some o =>
      have z := KX a o e
      rw [ha] at z
      cases z
      exact .inr ⟨_, vs.toArray, _, e, rfl, rfl, rfl, by rw [List.size_toArray, hi.length]; exact small, by simpa using rv⟩
  have nsOf : ∀ {b : Addr} {m : Str → Option Value}, s.heap.Ns b m → (hidT s.heap (scrH K a { cls := .type "list", data := .seq vs.toArray } (ns.map V.int))).Ns b m := fun {b m} h => by
    obtain ⟨o, es, ep, e, d, r⟩ := h
    exact ⟨o, es, ep, hidT_get e (nodict e d), d, r⟩
  have inB : K.In (hidT s.heap (scrH K a { cls := .type "list", data := .seq vs.toArray } (ns.map V.int))) := fun b o e => hidT_get (KX b o e) (nomod e)
  obtain ⟨mc, l1, l2⟩ := hlim
  have e0 : Env0 P w K mg (hidT s.heap (scrH K a { cls := .type "list", data := .seq vs.toArray } (ns.map V.int))) callerA [] s (scrH K a { cls := .type "list", data := .seq vs.toArray } (ns.map V.int)) :=
    ⟨rfl, ⟨inB, nsOf hns, ⟨mb, nsOf hbn, hbb⟩, ⟨mc, nsOf l1, l2⟩⟩, fun b o e => of_hidT e, Nat.le_of_eq (hidT_size _ _), trivial, fun b hb => (nomatch hb), hok, .of_eq hgn⟩
  have run := (F _ inB (nsOf hns)).run callerA [] s _ ⟨[.ref a], []⟩ [.ref a] [.ref a] (fun v _ => v = .bl true) E0 rfl hr e0 (hbind s (.ref a)) (.cons (show RelV (.ref a) (.ref a) from rfl) .nil) ⟨a, ns, rfl, hseq, hl, fun _ => rfl⟩
  refine codeAny_mono run fun r s' h => ?_
  match r, h with
  | .error e, h => exact h.elim
  | .ok .next, h => exact h.elim
  | .ok .brk, h => exact h.elim
  | .ok .cont, h => exact h.elim
  | .ok (.ret u), h =>
    obtain ⟨v, H', os, bare, un, hok', r', q⟩ := h
    have q' : v = .bl true := q
    subst q'
    obtain rfl : u = Value.bool true := r'
    refine ⟨rfl, OldK.of_keep fun b o e => ?_, os, bare⟩
    cases z : scrH K a { cls := .type "list", data := .seq vs.toArray } (ns.map V.int) b with
    | none => exact un.keep b o e z (by intro h; cases h) (by intro h; cases h)
    | some u =>
      obtain ⟨rfl, _, rfl⟩ := scrH_some z
      have st := un.frzs b _ _ z
      obtain ⟨e2, _⟩ := hok' b _ st
      rw [ha] at e
      cases e
      exact e2
theorem walk_g {l : PySem.W.OpenLaw} {q : Program} {loose : List Str} {XP : (Str → Option Value) → Heap → Prop} {YP : World → Heap → Prop} {d : DefRec} {K : Params → PySem.W.Frag} (hn : l.most = some 63) (hdf : d.params.defaults = []) (hr : Room k callerA)
    (hY : ∀ (w : World) (h : Heap), YP w h → (K w.params).In h)
    (F : ∀ (w : World) (mg : Str → Option Value) (fa : Addr) (h : Heap), (K w.params).In h → h.Ns mainGlobals mg → mg d.name = some (.ref fa) →
      ∃ fd : FuncData, (∀ (s : Shared) (u : Value), BindsTo s fd ⟨[u], []⟩ [(x, u)]) ∧ ∀ base : Heap, (K w.params).In base → base.Ns mainGlobals mg → FnG l.prog w (K w.params) mg base k fa fd [x] (spLaw (K w.params))) :
    PySem.W.WalkO q loose XP YP l.row.toRowW d [] (fun f vs => PySem.call f vs) := by
  refine Att.attach_call hn hdf ?_
  intro w s₀ s₁ mg mb fa o pm cd doc a vs ns G Y ho hd hcd hmg hobj hints hlen hg
  have KX := hY w _ Y
  obtain ⟨fd, hb, hF⟩ := F w mg fa _ KX G.T.g hmg
  exact law_end KX G.T.g G.T.b G.T.builtins G.T.nolimit hg hobj hints hlen hr hF hb
end
end VL

set_option Elab.async false
set_option linter.all false
set_option maxRecDepth 100000
set_option maxHeartbeats 4000000
/-! VL, part m: tools for the plain laws. -/
namespace VL
open PySem PySem.Spec PyProof.Rows L2

/-! ### what is shown of data without texts is a right text -/
theorem sok_append (a b : Str) : PyData.strOk (a ++ b) = (PyData.strOk a && PyData.strOk b) := by
  show (a.cps ++ b.cps).all _ = _
  rw [Array.all_append]
  rfl
theorem sok_of (s : String) : PyData.strOk (Str.ofString s) = true := by
  rw [Str.ofString_eq_toList]
  show ((s.toList.map Char.toNat).toArray).all _ = true
  rw [List.all_toArray, List.all_eq_true]
  intro n hn
  obtain ⟨c, _, rfl⟩ := List.mem_map.mp hn
  have z := c.valid
  have e : c.toNat = c.val.toNat := rfl
  rcases z with z | z
  · have z2 : c.val.toNat < 0xd800 := z
    simp only [decide_eq_true_eq]
    omega
  · have z2 : c.val.toNat < 0x110000 := z.2
    simp only [decide_eq_true_eq]
    omega
mutual
/-- no texts within -/
def noS : D → Bool
  | .str _ => false
  | .lst xs => noSAll xs
  | .tup xs => noSAll xs
  | _ => true
def noSAll : List D → Bool
  | [] => true
  | x :: xs => noS x && noSAll xs
end
theorem sok_from : ∀ (ts : List Str) (k : Nat) (acc : Str), PyData.strOk acc = true → (∀ t ∈ ts, PyData.strOk t = true) → PyData.strOk (textFrom k acc ts) = true
  | [], _, _, h, _ => h
  | t :: r, k, acc, h, h2 => by
    show PyData.strOk (textFrom (k + 1) (acc ++ (if k > 0 then ", " else "" : String) ++ t) r) = true
    refine sok_from r (k + 1) _ ?_ fun u hu => h2 u (List.mem_cons_of_mem _ hu)
    rw [sok_append, sok_append, h, h2 t List.mem_cons_self, sok_of]
    rfl
theorem sok_join : ∀ ts : List Str, (∀ t ∈ ts, PyData.strOk t = true) → PyData.strOk (Str.join ", " ts) = true
  | [], _ => by decide +kernel
  | [x], h => h x List.mem_cons_self
  | x :: y :: r, h => by
    show PyData.strOk (x ++ ", " ++ Str.join ", " (y :: r)) = true
    rw [sok_append, sok_append, h x List.mem_cons_self, sok_join (y :: r) fun u hu => h u (List.mem_cons_of_mem _ hu), sok_of]
    rfl
mutual
theorem sok_shown : ∀ d : D, noS d = true → PyData.strOk (py d).shown = true
  | .non, _ => sok_of "None"
  | .bl true, _ => sok_of "True"
  | .bl false, _ => sok_of "False"
  | .int i, _ => sok_of _
  | .str _, h => nomatch h
  | .lst xs, h => by
    show PyData.strOk (textFrom 0 "[" (PyData.shownAll (pyAll xs)) ++ ("]" : Str)) = true
    rw [sok_append, sok_from _ 0 _ (sok_of "[") (sok_shownAll xs h)]
    exact sok_of "]"
  | .tup xs, h => by
    show PyData.strOk (("(" : Str) ++ Str.join ", " (PyData.shownAll (pyAll xs)) ++ (if (PyData.shownAll (pyAll xs)).length == 1 then ",)" else ")" : String)) = true
    rw [sok_append, sok_append, sok_join _ (sok_shownAll xs h), sok_of, sok_of]
    rfl
  | .ndl _ _ _, _ => sok_of "None"
  | .pool, _ => sok_of "None"
  | .opq _, _ => sok_of "None"
  | .err _ _ _, _ => sok_of "None"
  | .chn _, _ => sok_of "None"
  | .fnc _, _ => sok_of "None"
  | .exo _ _ _, _ => sok_of "None"
  | .dct _, _ => sok_of "None"
  | .exv _ _ _ _, _ => sok_of "None"
  | .gag _ _ _ _ _, _ => sok_of "None"
theorem sok_shownAll : ∀ xs : List D, noSAll xs = true → ∀ t ∈ PyData.shownAll (pyAll xs), PyData.strOk t = true
  | [], _, t, ht => by cases ht
  | x :: xs, h, t, ht => by
    have h2 : noS x = true ∧ noSAll xs = true := by simpa only [noSAll, Bool.and_eq_true] using h
    rcases List.mem_cons.mp ht with rfl | ht
    · exact sok_shown x h2.1
    · exact sok_shownAll xs h2.2 t ht
end

/-! ### ints compared; tests -/
theorem eqI (a b : Int) : eqD (.int a) (.int b) = decide (a = b) := by
  show PyData.eqv (.int a) (.int b) = _
  rw [PyData.eqv]
  by_cases h : a = b <;> simp [h]
theorem eqS (a b : Str) : eqD (.str a) (.str b) = decide (a = b) := by
  show PyData.eqv (.str a) (.str b) = _
  rw [PyData.eqv]
  by_cases h : a = b <;> simp [h]
theorem ifB {b : Bool} {A B : Prop} (h1 : b = true → A) (h2 : b = false → B) : if b = true then A else B := by
  cases b
  · exact h2 rfl
  · exact h1 rfl
theorem ifT {b : Bool} {A B : Prop} (hb : b = true) (h1 : A) : if b = true then A else B := by
  rw [hb]
  exact h1
theorem ifF {b : Bool} {A B : Prop} (hb : b = false) (h1 : B) : if b = true then A else B := by
  rw [hb]
  exact h1
theorem ifEq {a b : Int} {A B : Prop} (h1 : a = b → A) (h2 : a ≠ b → B) : if eqD (.int a) (.int b) = true then A else B := by
  rw [eqI]
  by_cases h : a = b
  · simpa [h] using h1 h
  · simpa [h] using h2 h
theorem ifNe {a b : Int} {A B : Prop} (h1 : a ≠ b → A) (h2 : a = b → B) : if (!eqD (.int a) (.int b)) = true then A else B := by
  rw [eqI]
  by_cases h : a = b
  · simpa [h] using h2 h
  · simpa [h] using h1 h
theorem ifNeS {a b : Str} {A B : Prop} (h : a = b) (h2 : B) : if (!eqD (.str a) (.str b)) = true then A else B := by
  rw [eqS]
  simpa [h] using h2
theorem ifD {p : Prop} [Decidable p] {A B : Prop} (h1 : p → A) (h2 : ¬p → B) : if decide p = true then A else B := by
  by_cases h : p
  · simpa [h] using h1 h
  · simpa [h] using h2 h
theorem ifP {p : Prop} [Decidable p] {A B : Prop} (h1 : p → A) (h2 : ¬p → B) : if p then A else B := by
  by_cases h : p
  · simpa [h] using h1 h
  · simpa [h] using h2 h

/-! ### a cut between two parts; turns of a loop -/
theorem seq_via {m1 m2 : MS} {M : MEnds} {env : Env} (I : Env → Prop) (h1 : ∀ N : MEnds, (∀ e, I e → N.nx e) → N.rt = M.rt → N.bk = M.bk → N.ct = M.ct → m1 N env) (h2 : ∀ e, I e → m2 M e) : mSeq m1 m2 M env :=
  h1 _ h2 rfl rfl rfl
theorem for_inv {b : MG} {mb : MS} {M : MEnds} (I : Nat → Env → Prop) (items : List D)
    (step : ∀ i d env, items[i]? = some d → I i env → ∀ N : MEnds, (∀ e, I (i + 1) e → N.nx e) → (∀ e, I (i + 1) e → N.ct e) → N.rt = M.rt → N.bk = M.nx → b d env fun e => mb N e)
    (stop : ∀ env, I items.length env → M.nx env) : ∀ env, I 0 env → forM b mb M items env := by
  have key : ∀ (rest done : List D), done ++ rest = items → ∀ env, I done.length env → forM b mb M rest env := by
    intro rest
    induction rest with
    | nil =>
      intro done e env h
      simp only [List.append_nil] at e
      subst e
      exact stop env h
    | cons d ds ih =>
      intro done e env h
      have k : ∀ env', I (done.length + 1) env' → forM b mb M ds env' := fun env' h' => ih (done ++ [d]) (by simp [← e]) env' (by simpa using h')
      exact step done.length d env (by simp [← e]) h ⟨forM b mb M ds, M.rt, M.nx, forM b mb M ds⟩ k k rfl rfl
  intro env h
  exact key items [] rfl env h
theorem rng_len (lo : Int) (n : Nat) : (rngD lo n).length = n := by simp [rngD]
theorem rng_get {lo : Int} {n i : Nat} {d : D} (h : (rngD lo n)[i]? = some d) : i < n ∧ d = .int (lo + i) := by
  have hi : i < n := by
    have z := (List.getElem?_eq_some_iff.mp h).1
    rwa [rng_len] at z
  refine ⟨hi, ?_⟩
  simp only [rngD, List.getElem?_map, List.getElem?_range hi, Option.map_some, Option.some.injEq] at h
  exact h.symm
/-- so many turns, the state always the same to look at -/
theorem turns_inv {b : MG} {mb : MS} {M : MEnds} (I : Env → Prop) {items : List D} {env : Env} (h : I env)
    (step : ∀ d env, I env → ∀ N : MEnds, (∀ e, I e → N.nx e) → (∀ e, I e → N.ct e) → N.rt = M.rt → N.bk = M.nx → b d env fun e => mb N e)
    (stop : ∀ env, I env → M.nx env) : forM b mb M items env :=
  for_inv (fun _ => I) items (fun i d env _ h N a b c d => step _ env h N a b c d) (fun env h => stop env h) env h

/-! ### lists and draws -/
theorem len_le {n m : Nat} (h : Nat.ble n m = true) : n ≤ m := Nat.le_of_ble_eq_true h
theorem at_in {xs : List D} {i : Int} (h0 : 0 ≤ i) (h1 : i < xs.length) : ∃ d, atI xs i = some d ∧ d ∈ xs := by
  have hi : i.toNat < xs.length := by omega
  refine ⟨xs[i.toNat], ?_, List.getElem_mem hi⟩
  have e : atI xs i = xs[i.toNat]? := by
    unfold atI ixN
    rw [if_pos h0, if_pos h1]
    rfl
  rw [e, List.getElem?_eq_getElem hi]
theorem pickL {xs : List D} {i : Int} {Q : D → Prop} (h0 : 0 ≤ i) (h1 : i < xs.length) (h : ∀ d ∈ xs, Q d) : oIx (.lst xs) (.int i) Q := by
  obtain ⟨d, e, m⟩ := at_in h0 h1
  show match atI xs i with | some d => Q d | none => False
  rw [e]
  exact h d m
theorem pickT {xs : List D} {i : Int} {Q : D → Prop} (h0 : 0 ≤ i) (h1 : i < xs.length) (h : ∀ d ∈ xs, Q d) : oIx (.tup xs) (.int i) Q := by
  obtain ⟨d, e, m⟩ := at_in h0 h1
  show match atI xs i with | some d => Q d | none => False
  rw [e]
  exact h d m
/-- one of some integers, whichever: what all keep -/
theorem pickI {xs : List D} {i : Int} {Q : D → Prop} (P : Int → Prop) (hP : ∀ d ∈ xs, ∃ x, d = .int x ∧ P x) (h0 : 0 ≤ i) (h1 : i < xs.length) (h : ∀ x, P x → Q (.int x)) : oIx (.lst xs) (.int i) Q :=
  pickL h0 h1 fun d m => by
    obtain ⟨x, rfl, p⟩ := hP d m
    exact h x p

/-! ### what the model can do at once -/
theorem big_log {i : Int} {k : Nat} (hk : 0 < k) (h : i.natAbs < 2 ^ k) : i.natAbs.log2 < k := log2_lt h hk
theorem mOk {i j : Int} (h : i.natAbs < 10 ^ 1000) (h2 : j.natAbs < 10 ^ 1000) : MOk i j := by
  have e : (10 : Nat) ^ 1000 ≤ 2 ^ 4000 := by decide +kernel
  have a := log2_lt (k := 4000) (Nat.lt_of_lt_of_le h e) (by decide)
  have b := log2_lt (k := 4000) (Nat.lt_of_lt_of_le h2 e) (by decide)
  refine .inr ?_
  show i.natAbs.log2 + j.natAbs.log2 < 1000000
  omega
theorem dOk {j : Int} (h0 : 0 < j) (h : j.natAbs < 10 ^ 1000) : DOk j := by
  have e : (10 : Nat) ^ 1000 ≤ 2 ^ 4000 := by decide +kernel
  have a := log2_lt (k := 4000) (Nat.lt_of_lt_of_le h e) (by decide)
  exact ⟨h0, by omega⟩
/-- smaller than ten to the k -/
def lt10 (k : Nat) (i : Int) : Prop := i.natAbs < 10 ^ k
theorem lt10.mono {k l : Nat} {i : Int} (h : lt10 k i) (hk : k ≤ l) : lt10 l i := Nat.lt_of_lt_of_le h (Nat.pow_le_pow_right (by decide) hk)
theorem lt10.mul {k l : Nat} {i j : Int} (h : lt10 k i) (h2 : lt10 l j) : lt10 (k + l) (i * j) := by
  unfold lt10 at *
  rw [Int.natAbs_mul, Nat.pow_add]
  exact Nat.mul_lt_mul'' h h2
theorem lt10.add {k : Nat} {i j : Int} (h : lt10 k i) (h2 : lt10 k j) : lt10 (k + 1) (i + j) := by
  unfold lt10 at *
  rw [Nat.pow_succ]
  have z := Int.natAbs_add_le i j
  omega
theorem lt10.neg {k : Nat} {i : Int} (h : lt10 k i) : lt10 k (-i) := by
  unfold lt10 at *
  rwa [Int.natAbs_neg]
theorem lt10.sub {k : Nat} {i j : Int} (h : lt10 k i) (h2 : lt10 k j) : lt10 (k + 1) (i - j) := h.add h2.neg
theorem lt10.div {k : Nat} {i j : Int} (h : lt10 k i) (h2 : 0 < j) : lt10 (k + 1) (i / j) := by
  unfold lt10 at *
  rw [Nat.pow_succ]
  have a : i / j ≤ i.natAbs := by
    rcases Int.lt_or_le i 0 with c | c
    · have z : i / j < 0 := Int.ediv_neg_of_neg_of_pos c h2
      omega
    · have z := Int.ediv_le_self j c
      omega
  have b : -(i.natAbs : Int) ≤ i / j := by
    refine (Int.le_ediv_iff_mul_le h2).mpr ?_
    have z : -(i.natAbs : Int) * j ≤ -(i.natAbs : Int) * 1 := Int.mul_le_mul_of_nonpos_left (by omega) (by omega)
    omega
  omega
theorem lt10.of {k : Nat} {i : Int} (n : Nat) (h : -(n : Int) ≤ i) (h2 : i ≤ n) (hn : n < 10 ^ k) : lt10 k i := by
  unfold lt10
  omega
theorem rep_ok {d : D} (h : pl 40 d = true) (h2 : sm d) (h3 : sz d ≤ 20000) : RepOk d := ⟨h, h2, h3⟩
end VL

set_option Elab.async false
set_option linter.all false
set_option maxRecDepth 100000
set_option maxHeartbeats 4000000
/-! VL, part n: what the needles do, in plain integers. -/
namespace VL
open PySem PySem.Spec PyProof.Rows L2
/-- the rule as it is written -/
def stp (s p m v x : Int) : Int := v + (s * (x - v) + m) / p
theorem fg_pos {s p : Int} (h : 0 < p) : 0 < fg s p := by
  unfold fg
  have z : Int.gcd s p ≠ 0 := fun e => by
    have q := (Int.gcd_eq_zero_iff.mp e).2
    omega
  omega
theorem fg_dvd1 (s p : Int) : fg s p ∣ s := Int.gcd_dvd_left ..
theorem fg_dvd2 (s p : Int) : fg s p ∣ p := Int.gcd_dvd_right ..
/-- the plain share, parts, more -/
theorem pl_parts {s p : Int} (h : 0 < p) : 0 < p / fg s p ∧ p / fg s p ≤ p := by
  have g := fg_pos (s := s) h
  refine ⟨?_, Int.ediv_le_self _ (by omega)⟩
  have z : 1 ≤ p / fg s p := (Int.le_ediv_iff_mul_le g).mpr (by rw [Int.one_mul]; exact Int.le_of_dvd h (fg_dvd2 s p))
  omega
theorem pl_share {s p : Int} (hs : 0 < s) (h : 0 < p) : 0 < s / fg s p ∧ s / fg s p ≤ s := by
  have g := fg_pos (s := s) h
  refine ⟨?_, Int.ediv_le_self _ (by omega)⟩
  have z : 1 ≤ s / fg s p := (Int.le_ediv_iff_mul_le g).mpr (by rw [Int.one_mul]; exact Int.le_of_dvd hs (fg_dvd1 s p))
  omega
theorem pl_le {s p : Int} (hs : 0 < s) (h : s ≤ p) : s / fg s p ≤ p / fg s p := Int.ediv_le_ediv (fg_pos (s := s) (by omega)) h
theorem pl_more {s p m : Int} (h : 0 < p) (h0 : 0 ≤ m) (h1 : m < p) : 0 ≤ m / fg s p ∧ m / fg s p < p / fg s p := by
  have g := fg_pos (s := s) h
  refine ⟨Int.ediv_nonneg h0 (by omega), ?_⟩
  refine Int.ediv_lt_of_lt_mul g ?_
  rw [Int.ediv_mul_cancel (fg_dvd2 s p)]
  exact h1
theorem pl_mul1 (s p : Int) : s / fg s p * fg s p = s := Int.ediv_mul_cancel (fg_dvd1 s p)
theorem pl_mul2 (s p : Int) : p / fg s p * fg s p = p := Int.ediv_mul_cancel (fg_dvd2 s p)
theorem fg_plain {s p : Int} (h : 0 < p) : fg (s / fg s p) (p / fg s p) = 1 := by
  have g := fg_pos (s := s) h
  unfold fg at *
  have z := Int.gcd_ediv_gcd_ediv_gcd (i := s) (j := p) (by omega)
  omega
/-- the plain form goes alike -/
theorem stp_plain {s p m v x : Int} (hp : 0 < p) : stp (s / fg s p) (p / fg s p) (m / fg s p) v x = stp s p m v x := by
  unfold stp
  have g := fg_pos (s := s) hp
  obtain ⟨a, ha⟩ := fg_dvd1 s p
  obtain ⟨b, hb⟩ := fg_dvd2 s p
  generalize fg s p = k at *
  subst ha
  subst hb
  rw [Int.mul_ediv_cancel_left _ (by omega), Int.mul_ediv_cancel_left _ (by omega)]
  have e : (k * a * (x - v) + m) / (k * b) = ((k * a * (x - v) + m) / k) / b := by rw [Int.ediv_ediv_of_nonneg (by omega)]
  have q : k * a * (x - v) + m = m + k * (a * (x - v)) := by rw [Int.mul_assoc, Int.add_comm]
  rw [e, q, Int.add_mul_ediv_left _ _ (by omega), Int.add_comm (m / k)]
/-- the needle turned about does to values and inputs with the other sign the same -/
theorem stp_turned {s p m v x : Int} (hp : 0 < p) : stp s p (p - 1 - m) (-v) (-x) = -stp s p m v x := by
  unfold stp
  have e : s * (-x - -v) + (p - 1 - m) = -(s * (x - v) + m) - 1 + p * 1 := by
    have z : -x - -v = -(x - v) := by omega
    rw [z, Int.mul_neg]
    omega
  rw [e, Int.add_mul_ediv_left _ _ (by omega)]
  generalize s * (x - v) + m = t
  have d := Int.emod_add_mul_ediv t p
  have r0 := Int.emod_nonneg t (show p ≠ 0 by omega)
  have r1 := Int.emod_lt_of_pos t hp
  have f : (-t - 1) / p = -(t / p) - 1 := by
    have a : -t - 1 = (p - 1 - t % p) + p * (-(t / p) - 1) := by
      rw [Int.mul_sub, Int.mul_neg]
      omega
    rw [a, Int.add_mul_ediv_left _ _ (by omega), Int.ediv_eq_zero_of_lt (by omega) (by omega)]
    omega
  rw [f]
  omega
theorem stp_same {s p m v : Int} (h0 : 0 ≤ m) (h1 : m < p) : stp s p m v v = v := by
  unfold stp
  rw [Int.sub_self, Int.mul_zero, Int.zero_add, Int.ediv_eq_zero_of_lt h0 h1]
  omega
theorem lt10_stp {s p m v x : Int} {k l : Nat} (hs : lt10 k s) (hm : lt10 k m) (hp : 0 < p) (hv : lt10 l v) (hx : lt10 l x) (hk : 1 ≤ k) : lt10 (k + l + 4) (stp s p m v x) := by
  unfold stp
  have a := (hs.mul (hx.sub hv)).add (hm.mono (show k ≤ k + (l + 1) by omega))
  exact ((hv.mono (show l ≤ k + (l + 1) + 1 + 1 by omega)).add (a.div hp)).mono (by omega)
end VL

set_option Elab.async false
set_option linter.all false
set_option maxRecDepth 100000
set_option maxHeartbeats 4000000
/-! VL, part o: list(range(..)); a needle's properties; a needle made by names. -/
namespace VL
open PySem PySem.Spec PyProof.Rows L2
section
variable {X : Cx} {g : Gm} {a b e o : Expr} {es : List Expr} {kws : List Keyword} {ma mb mo : ME} {ml mk : MA} {R Ra Rb Ro : List Nat} {c ca cb co n m : Nat} {f fa fb fo rk : Bool}
/-! ### list(range(..)) -/
def rLR (f : Bool) : R2 := fun x y H Q => ∃ i j, x = .int i ∧ y = .int j ∧ RgOk i j ∧ ∀ q, H q = none → Q (.ref q) (upd H q (.lst (rgV i j)))
def oLR (i j : D) (Q : D → Prop) : Prop := match i, j with
  | .int i, .int j => RgOk i j ∧ Q (.lst (rngD i (j - i).toNat))
  | _, _ => False
theorem rng_rep {S : Addr → Prop} {H : Hp} (i j : Int) : RepL g S H (rgV i j) (rngD i (j - i).toNat) := by
  unfold rgV rngD
  generalize List.range (j - i).toNat = l
  induction l with
  | nil => exact .nil
  | cons x l ih => exact .cons (.int _) ih
theorem sim_lr : Sim2 g true (rLR true) oLR := by
  intro S H B x y dx dy Qd Q hd pb rx ry hm k
  unfold oLR at hm
  split at hm
  · cases rx
    cases ry
    exact ⟨_, _, rfl, rfl, hm.1, fun q hq => give_lst pb hd hq (rng_rep _ _) k hm.2⟩
  · exact hm.elim
theorem ve_lr2 (hp : ∀ {ta tb : TE}, PE X a ta → PE X b tb → PE X e (tLstRg (tRg2 ta tb))) (ha : VE g X a ma Ra ca fa) (hb : VE g X b mb Rb cb fb) : VE g X e (m2 oLR ma mb) (Ra ++ Rb) (ca + cb) true := by
  obtain ⟨ta, pa, ka⟩ := ha
  obtain ⟨tb, pb, kb⟩ := hb
  refine ⟨_, hp pa pb, fun σ H env S B Qd Q rl pbd hbd hm k => ?_⟩
  have z := two_ok (sim_lr (g := g)) ka kb σ H env S B Qd Q rl pbd hbd hm k
  refine ka σ H env S B (fun x => mb env fun y => oLR x y Qd) _ rl pbd (by omega) hm fun x H1 dx A1 hm1 => ?_
  refine kb σ H1 env S (B + ca) _ _ (rl.fr A1.fr) A1.pb (by omega) hm1 fun y H2 dy A2 hm2 => ?_
  have F2 := A1.fr.trans A2.fr
  have w : rLR true x y H2 Q := by
    refine sim_lr (Sr g (Ra ++ Rb) S H H2) H2 (B + ca + cb) x y dx dy Qd Q (fun a s => s.2) A2.pb ?_ ?_ hm2 fun v H3 d sm rp fs q => ?_
    · exact A1.rep.goN fun a o s e => ⟨s.fwd (fun i h => List.mem_append_left _ h) A2.fr, A2.fr a o s.2.2 e⟩
    · exact A2.rep.mono fun a s => s.aft (fun i h => List.mem_append_right _ h) A1.fr
    · have F3 := F2.trans (Fr.of sm)
      have up : ∀ a, Res g (Sr g (Ra ++ Rb) S H H2) H2 H3 a → Sr g (Ra ++ Rb) S H H3 a := fun a s => ⟨s.1.elim (fun n => .inl (F2.back s.2.2 n)) fun s1 => s1.1, s.2⟩
      exact k v H3 d ⟨F3, (A2.pb.same sm).mono (by omega), rp.mono up, fun z => fsh_up (fun a n e => F2.back n e) A2.pb up (fs z)⟩ q
  exact w
def oLR1 (j : D) (Q : D → Prop) : Prop := match j with
  | .int j => RgOk 0 j ∧ Q (.lst (rngD 0 (j - 0).toNat))
  | _ => False
theorem ve_lr1 (hp : ∀ {ta : TE}, PE X a ta → PE X e (tLstRg (tRg1 ta))) (ha : VE g X a ma Ra ca fa) : VE g X e (m1 oLR1 ma) Ra ca true := by
  obtain ⟨ta, pa, ka⟩ := ha
  refine ⟨_, hp pa, fun σ H env S B Qd Q rl pbd hbd hm k => ?_⟩
  refine ka σ H env S B (fun x => oLR1 x Qd) _ rl pbd (by omega) hm fun x H1 dx A1 hm1 => ?_
  have rx := A1.rep
  unfold oLR1 at hm1
  split at hm1
  · cases rx
    refine ⟨_, rfl, hm1.1, fun q hq => ?_⟩
    refine give_lst (S := Sr g Ra S H H1) (Qd := Qd) (f := true) A1.pb (fun a s => s.2) hq (rng_rep _ _) (fun v H3 d sm rp fs qq => ?_) hm1.2
    have F3 := A1.fr.trans (Fr.of sm)
    have up : ∀ a, Res g (Sr g Ra S H H1) H1 H3 a → Sr g Ra S H H3 a := fun a s => ⟨s.1.elim (fun n => .inl (A1.fr.back s.2.2 n)) fun s1 => s1.1, s.2⟩
    exact k v H3 d ⟨F3, A1.pb.same sm, rp.mono up, fun z => fsh_up (fun a n e => A1.fr.back n e) A1.pb up (fs z)⟩ qq
  · exact hm1.elim
/-! ### a property of a needle -/
theorem ve_prop {fn : List D → (D → Prop) → Prop} (hp : ∀ {t : TE}, PE X o t → PE X e (tProp g.C.nd (spV g.C fn c rk) [] E0 t)) (ho : VE g X o mo Ro co fo) : VE g X e (mMeth fn mo mNil) (Ro ++ ([] : List Nat)) (co + 0 + c) rk := by
  obtain ⟨t, p, k⟩ := ho
  refine ⟨_, hp p, fun σ H env S B Qd Q rl pb hb hm h => k σ H env S B _ _ rl pb (by omega) hm fun v H1 d A z => ?_⟩
  obtain ⟨⟨a, dx, t1, t2, rfl, ea⟩, z⟩ := nd_of A.rep z
  refine ⟨a, dx, _, rfl, ea, ?_⟩
  exact spV_use (aftL_cons A ⟨Fr.refl, A.pb, .nil⟩) hb z h
/-! ### a needle made by names -/
theorem kbn_of {K : PySem.W.Frag} {fd : FuncData} {ps ks : List Str} {π : List Nat} (h : KB K fd ps n ks π) : KBn K fd ps n ks (fun us ws => pick .none π (us ++ ws)) (fun vs zs => pick .non π (vs ++ zs)) :=
  ⟨h, fun r1 r2 => pick_vals (r1.append r2) π⟩
theorem pick_head {α : Type} (z x : α) (ρ : List Nat) (xs : List α) : pick z (0 :: ρ.map (· + 1)) (x :: xs) = x :: pick z ρ xs := by
  unfold pick
  rw [List.map_cons, List.map_map]
  rfl
def mMakeK (n m : Nat) (ρ : List Nat) (ma mk : MA) : ME := fun env Q => ma env fun ds => mk env fun es => (ds.length = n ∧ es.length = m) ∧ oNdl (pick .non ρ (ds ++ es)) Q
theorem ve_makeK {ρ : List Nat} (hp : ∀ {t u : TA}, PA X es t → PK X kws u → PE X e (tMakeK g.C.nd n m (spInit g.C.nd) (fun vs zs => pick .non (0 :: ρ.map (· + 1)) (vs ++ zs)) E0 t u)) (ha : VA g X es ml Ra ca) (hk : VKw g X kws mk Rb cb) : VE g X e (mMakeK n m ρ ml mk) (Ra ++ Rb) (ca + cb) false := by
  obtain ⟨t, p, k⟩ := ha
  obtain ⟨u, q, j⟩ := hk
  refine ⟨_, hp p q, fun σ H env S B Qd Q rl pb hb hm h => k σ H env S B _ _ rl pb (by omega) hm fun vs H1 ds A z => ?_⟩
  refine j σ H1 env S (B + ca) _ _ (rl.fr A.fr) A.pb (by omega) z fun zs H2 es A2 z2 => ?_
  have A3 := aftL_app A A2
  refine ⟨by rw [A.rep.length]; exact z2.1.1, by rw [A2.rep.length]; exact z2.1.2, fun x dx hx hdx ne => ?_⟩
  show spInit g.C.nd (pick V.non (0 :: ρ.map (· + 1)) (V.ref x :: (vs ++ zs))) _ _ _
  rw [pick_head]
  exact make_use ⟨A3.fr, A3.pb, pick_rep A3.rep ρ⟩ z2.2 h x dx hx hdx ne
theorem ve_makeK0 {ρ : List Nat} (hp : ∀ {u : TA}, PK X kws u → PE X e (tMakeK g.C.nd 0 m (spInit g.C.nd) (fun vs zs => pick .non (0 :: ρ.map (· + 1)) (vs ++ zs)) E0 tNil u)) (hk : VKw g X kws mk Rb cb) : VE g X e (mMakeK 0 m ρ mNil mk) (([] : List Nat) ++ Rb) (0 + cb) false := by
  obtain ⟨u, q, j⟩ := hk
  refine ⟨_, hp q, fun σ H env S B Qd Q rl pb hb hm h => ?_⟩
  refine j σ H env S B _ _ rl pb (by omega) hm fun zs H2 es A2 z2 => ?_
  have A3 : AftL g ([] ++ Rb) S H H2 B (0 + cb) ([] ++ zs) ([] ++ es) := ⟨A2.fr, A2.pb.mono (by omega), A2.rep⟩
  refine ⟨z2.1.1, by rw [A2.rep.length]; exact z2.1.2, fun x dx hx hdx ne => ?_⟩
  show spInit g.C.nd (pick V.non (0 :: ρ.map (· + 1)) (V.ref x :: ([] ++ zs))) _ _ _
  rw [pick_head]
  exact make_use ⟨A3.fr, A3.pb, pick_rep A3.rep ρ⟩ z2.2 h x dx hx hdx ne
end
end VL

set_option Elab.async false
set_option linter.all false
set_option maxRecDepth 100000
set_option maxHeartbeats 4000000
/-! VL, part p: more tools for the plain laws. -/
namespace VL
open PySem PySem.Spec PyProof.Rows L2

/-! ### a loop that draws nothing, its costs told behind -/
theorem vs_whileZ {g : Gm} {rk : Bool} {xw : Option WX} {X : Cx} {e : Expr} {own ol : List Nat} {pos : Pos} {c c1 : Nat} {mt : MT} {bd : List Stmt} {mb : MS} (hpo : PassesOwn (model X.prog X.w) X.A X.env X.xe) (ht : VT g X e mt c) (h1 : VB g rk xw own X bd mb own own c1) (e0 : c = 0) (e1 : c1 = 0) : VS g rk xw ol X (.While e bd [] pos) (mWhile mt mb) own own 0 := by
  subst e0
  subst e1
  exact vs_while hpo ht h1
/-! ### a list made by a walk -/
theorem lc_law {b : MG} {mt : MT} {me : ME} {env : Env} {Q : List D → Prop} (T : D → Bool) (F : D → D) : ∀ (items acc : List D),
    (∀ d ∈ items, ∀ (P : D → Prop) (N : Prop), (T d = true → P (F d)) → (T d = false → N) → b d env fun env1 => mt env1 fun k => if k = true then me env1 P else N) →
    Q (acc ++ (items.filter T).map F) → lcM b mt me env items acc Q
  | [], acc, _, q => by
    show Q acc
    simpa using q
  | d :: ds, acc, h, q => by
    refine h d List.mem_cons_self _ _ (fun t => ?_) (fun t => ?_)
    · refine lc_law T F ds (acc ++ [F d]) (fun e he => h e (List.mem_cons_of_mem _ he)) ?_
      simpa [List.filter_cons, t] using q
    · refine lc_law T F ds acc (fun e he => h e (List.mem_cons_of_mem _ he)) ?_
      simpa [List.filter_cons, t] using q
/-- without a test -/
theorem lc_all {b : MG} {me : ME} {env : Env} {Q : List D → Prop} (F : D → D) (items : List D)
    (h : ∀ d ∈ items, ∀ (P : D → Prop), P (F d) → b d env fun env1 => me env1 P) (q : Q (items.map F)) : lcM b mYes me env items [] Q := by
  refine lc_law (fun _ => true) F items [] (fun d hd P N h1 _ => ?_) (by rw [List.filter_eq_self.mpr (fun _ _ => rfl)]; simpa using q)
  show b d env fun env1 => me env1 P
  exact h d hd P (h1 rfl)

/-! ### what is equal -/
mutual
theorem eqv_self : ∀ d : D, PyData.eqv (py d) (py d) = true
  | .non => by rw [py, PyData.eqv]
  | .bl b => by rw [py, PyData.eqv]; simp
  | .int i => by rw [py, PyData.eqv]; simp
  | .str x => by rw [py, PyData.eqv]; simp
  | .lst xs => by rw [py, PyData.eqv]; exact eqvAll_self xs
  | .tup xs => by rw [py, PyData.eqv]; exact eqvAll_self xs
  | .ndl _ _ _ => by rw [py, PyData.eqv]
  | .pool => by rw [py, PyData.eqv]
  | .opq _ => by rw [py, PyData.eqv]
  | .err _ _ _ => by rw [py, PyData.eqv]
  | .chn _ => by rw [py, PyData.eqv]
  | .fnc _ => by rw [py, PyData.eqv]
  | .exo _ _ _ => by rw [py, PyData.eqv]
  | .dct _ => by rw [py, PyData.eqv]
  | .exv _ _ _ _ => by rw [py, PyData.eqv]
  | .gag _ _ _ _ _ => by rw [py, PyData.eqv]
theorem eqvAll_self : ∀ xs : List D, PyData.eqvAll (pyAll xs) (pyAll xs) = true
  | [] => by rw [pyAll, PyData.eqvAll]
  | x :: xs => by rw [pyAll, PyData.eqvAll, eqv_self x, eqvAll_self xs]; rfl
end
theorem eqD_refl (d : D) : eqD d d = true := eqv_self d
mutual
/-- nothing that is equal to something of another form -/
def cl : D → Bool
  | .non => true
  | .int _ => true
  | .str _ => true
  | .lst xs => clAll xs
  | .tup xs => clAll xs
  | _ => false
def clAll : List D → Bool
  | [] => true
  | x :: xs => cl x && clAll xs
end
mutual
theorem eqv_inj : ∀ x y : D, cl x = true → cl y = true → PyData.eqv (py x) (py y) = true → x = y
  | .non, y, _, hy, h => by cases y <;> simp_all [py, PyData.eqv, cl]
  | .int i, y, _, hy, h => by cases y <;> simp_all [py, PyData.eqv, cl]
  | .str i, y, _, hy, h => by cases y <;> simp_all [py, PyData.eqv, cl]
  | .lst xs, .lst ys, hx, hy, h => by
    rw [py, py, PyData.eqv] at h
    rw [eqvAll_inj xs ys hx hy h]
  | .tup xs, .tup ys, hx, hy, h => by
    rw [py, py, PyData.eqv] at h
    rw [eqvAll_inj xs ys hx hy h]
  | .lst xs, .non, _, _, h => by simp [py, PyData.eqv] at h
  | .lst xs, .int _, _, _, h => by simp [py, PyData.eqv] at h
  | .lst xs, .str _, _, _, h => by simp [py, PyData.eqv] at h
  | .lst xs, .tup _, _, _, h => by simp [py, PyData.eqv] at h
  | .tup xs, .non, _, _, h => by simp [py, PyData.eqv] at h
  | .tup xs, .int _, _, _, h => by simp [py, PyData.eqv] at h
  | .tup xs, .str _, _, _, h => by simp [py, PyData.eqv] at h
  | .tup xs, .lst _, _, _, h => by simp [py, PyData.eqv] at h
theorem eqvAll_inj : ∀ xs ys : List D, clAll xs = true → clAll ys = true → PyData.eqvAll (pyAll xs) (pyAll ys) = true → xs = ys
  | [], [], _, _, _ => rfl
  | [], _ :: _, _, _, h => by simp [pyAll, PyData.eqvAll] at h
  | _ :: _, [], _, _, h => by simp [pyAll, PyData.eqvAll] at h
  | x :: xs, y :: ys, hx, hy, h => by
    rw [pyAll, pyAll, PyData.eqvAll, Bool.and_eq_true] at h
    rw [clAll, Bool.and_eq_true] at hx hy
    rw [eqv_inj x y hx.1 hy.1 h.1, eqvAll_inj xs ys hx.2 hy.2 h.2]
end
theorem eqD_ne {x y : D} (hx : cl x = true) (hy : cl y = true) (h : x ≠ y) : eqD x y = false := by
  cases e : eqD x y with
  | false => rfl
  | true => exact absurd (eqv_inj x y hx hy e) h
theorem eqD_dec {x y : D} (hx : cl x = true) (hy : cl y = true) {p : Prop} [Decidable p] (h : x = y ↔ p) : eqD x y = decide p := by
  by_cases e : p
  · rw [h.mpr e, eqD_refl]; simp [e]
  · rw [eqD_ne hx hy fun z => e (h.mp z)]; simp [e]

/-! ### lists of integers -/
def iD (xs : List Int) : List D := xs.map .int
theorem iD_len (xs : List Int) : (iD xs).length = xs.length := List.length_map ..
theorem iD_inj {xs ys : List Int} (h : iD xs = iD ys) : xs = ys := List.map_inj_right (fun _ _ e => by injection e) |>.mp h
theorem iD_pl (n : Nat) : ∀ xs : List Int, plAll n (iD xs) = true
  | [] => rfl
  | x :: xs => by
    show (pl n (.int x) && plAll n (iD xs)) = true
    rw [iD_pl n xs]
    cases n <;> rfl
theorem iD_cl : ∀ xs : List Int, clAll (iD xs) = true
  | [] => rfl
  | x :: xs => iD_cl xs
theorem iD_noS : ∀ xs : List Int, noSAll (iD xs) = true
  | [] => rfl
  | x :: xs => iD_noS xs
theorem iD_sm : ∀ xs : List Int, (∀ x ∈ xs, lt10 200 x) → smAll (iD xs)
  | [], _ => trivial
  | x :: xs, h => ⟨h x List.mem_cons_self, iD_sm xs fun y hy => h y (List.mem_cons_of_mem _ hy)⟩
theorem iD_sz : ∀ xs : List Int, szAll (iD xs) = xs.length
  | [] => rfl
  | x :: xs => by
    show 0 + 1 + szAll (iD xs) = xs.length + 1
    rw [iD_sz xs]
    omega
theorem iD_ints : ∀ xs : List Int, intsOf (iD xs) = some xs
  | [] => rfl
  | x :: xs => by
    show (intsOf (iD xs)).map (x :: ·) = some (x :: xs)
    rw [iD_ints xs]
    rfl
/-- lo, lo + 1, .. -/
def rng (lo : Int) (n : Nat) : List Int := (List.range n).map fun (i : Nat) => lo + (i : Int)
theorem rngD_eq (lo : Int) (n : Nat) : rngD lo n = iD (rng lo n) := by
  unfold rngD iD rng
  rw [List.map_map]
  rfl
theorem rng_length (lo : Int) (n : Nat) : (rng lo n).length = n := by simp [rng]
theorem mem_rng {lo : Int} {n : Nat} {x : Int} : x ∈ rng lo n ↔ lo ≤ x ∧ x < lo + n := by
  unfold rng
  simp only [List.mem_map, List.mem_range]
  constructor
  · rintro ⟨i, hi, rfl⟩
    omega
  · rintro ⟨h1, h2⟩
    exact ⟨(x - lo).toNat, by omega, by omega⟩
theorem rng_succ (lo : Int) (n : Nat) : rng lo (n + 1) = lo :: rng (lo + 1) n := by
  unfold rng
  rw [List.range_succ_eq_map, List.map_cons, List.map_map]
  congr 1
  · simp
  · apply List.map_congr_left
    intro i _
    show lo + ((i + 1 : Nat) : Int) = lo + 1 + (i : Int)
    omega
theorem rng_last (lo : Int) (n : Nat) : rng lo (n + 1) = rng lo n ++ [lo + n] := by
  unfold rng
  rw [List.range_succ, List.map_append]
  rfl
theorem rng_filter (a b : Int) : ∀ (n : Nat) (lo : Int), lo ≤ a → b < lo + n → a ≤ b + 1 → (rng lo n).filter (fun x => decide (a ≤ x ∧ x ≤ b)) = rng a (b + 1 - a).toNat
  | 0, lo, h1, h2, h3 => by
    have e : (b + 1 - a).toNat = 0 := by omega
    rw [e]
    rfl
  | n + 1, lo, h1, h2, h3 => by
    rw [rng_succ, List.filter_cons]
    by_cases h : lo = a
    · subst h
      by_cases hb : lo ≤ b
      · rw [if_pos (by simpa using hb)]
        have e : (b + 1 - lo).toNat = (b + 1 - (lo + 1)).toNat + 1 := by omega
        rw [e, rng_succ, ← rng_filter (lo + 1) b n (lo + 1) (by omega) (by omega) (by omega)]
        congr 1
        apply List.filter_congr
        intro x hx
        have z := (mem_rng.mp hx).1
        simp only [decide_eq_decide]
        omega
      · rw [if_neg (by simpa using hb)]
        have e : (b + 1 - lo).toNat = 0 := by omega
        rw [e]
        show _ = []
        rw [List.filter_eq_nil_iff]
        intro x hx
        have z := (mem_rng.mp hx).1
        simp only [decide_eq_true_eq]
        omega
    · rw [if_neg (by simp only [decide_eq_true_eq]; omega)]
      exact rng_filter a b n (lo + 1) (by omega) (by omega) h3
theorem at_iD {xs : List Int} {i : Int} (h0 : 0 ≤ i) (h1 : i < xs.length) (Q : D → Prop) (h : Q (.int (xs[i.toNat]'(by omega)))) : oIx (.lst (iD xs)) (.int i) Q := by
  have e : atI (iD xs) i = some (.int (xs[i.toNat]'(by omega))) := by
    unfold atI ixN
    rw [if_pos h0, if_pos (by rw [iD_len]; exact h1)]
    show (iD xs)[i.toNat]? = _
    unfold iD
    rw [List.getElem?_map, List.getElem?_eq_getElem (by omega)]
    rfl
  show match atI (iD xs) i with | some d => Q d | none => False
  rw [e]
  exact h
theorem at_rng {lo : Int} {n : Nat} {i : Int} (h0 : 0 ≤ i) (h1 : i < n) (Q : D → Prop) (h : Q (.int (lo + i))) : oIx (.lst (iD (rng lo n))) (.int i) Q := by
  refine at_iD h0 (by rw [rng_length]; exact h1) Q ?_
  have e : (rng lo n)[i.toNat]'(by rw [rng_length]; omega) = lo + i := by
    unfold rng
    rw [List.getElem_map, List.getElem_range]
    omega
  rw [e]
  exact h
theorem at_last {xs : List Int} {x : Int} (Q : D → Prop) (h : Q (.int x)) (hx : xs.getLast? = some x) : oIx (.lst (iD xs)) (.int (-1)) Q := by
  have hn : xs ≠ [] := fun e => by rw [e] at hx; cases hx
  have hl : 0 < xs.length := List.length_pos_iff.mpr hn
  have e : atI (iD xs) (-1) = some (.int x) := by
    unfold atI ixN
    rw [if_neg (by omega), if_pos (by rw [iD_len]; omega), iD_len]
    show (iD xs)[((-1 : Int) + xs.length).toNat]? = _
    have q : ((-1 : Int) + xs.length).toNat = xs.length - 1 := by omega
    rw [q]
    unfold iD
    rw [List.getElem?_map, ← List.getLast?_eq_getElem?, hx]
    rfl
  show match atI (iD xs) (-1) with | some d => Q d | none => False
  rw [e]
  exact h
theorem at_rng_last {lo : Int} {n : Nat} (hn : 0 < n) (Q : D → Prop) (h : Q (.int (lo + n - 1))) : oIx (.lst (iD (rng lo n))) (.int (-1)) Q := by
  refine at_last Q h ?_
  obtain ⟨k, rfl⟩ : ∃ k, n = k + 1 := ⟨n - 1, by omega⟩
  rw [rng_last, List.getLast?_append]
  simp only [List.getLast?_singleton, Option.some_or, Option.some.injEq]
  omega
theorem flat_iD (xs : List Int) : (iD xs).all flatD = true := by
  rw [List.all_eq_true]
  intro d hd
  obtain ⟨x, _, rfl⟩ := List.mem_map.mp hd
  rfl
theorem in_iD (a : Int) (xs : List Int) : inD (.int a) (iD xs) = decide (a ∈ xs) := by
  show ((iD xs).map vOf).any (fun y => eqV y (.int a)) = _
  induction xs with
  | nil => rfl
  | cons x xs ih =>
    show (eqV (.int x) (.int a) || ((iD xs).map vOf).any fun y => eqV y (.int a)) = _
    rw [ih]
    have e : eqV (.int x) (.int a) = decide (x = a) := by
      show (x == a) = decide (x = a)
      by_cases h : x = a <;> simp [h]
    rw [e]
    by_cases h : x = a
    · simp [h]
    · have h2 : ¬ a = x := fun e => h e.symm
      simp [h, h2]
theorem eqB (a b : Bool) : eqD (.bl a) (.bl b) = (a == b) := by
  show PyData.eqv (.bool a) (.bool b) = _
  rw [PyData.eqv]
theorem neg_ediv (t : Int) {p : Int} (hp : 0 < p) : (-t - 1) / p = -(t / p) - 1 := by
  have d := Int.emod_add_mul_ediv t p
  have r0 := Int.emod_nonneg t (show p ≠ 0 by omega)
  have r1 := Int.emod_lt_of_pos t hp
  have a : -t - 1 = (p - 1 - t % p) + p * (-(t / p) - 1) := by
    rw [Int.mul_sub, Int.mul_neg]
    omega
  rw [a, Int.add_mul_ediv_left _ _ (by omega), Int.ediv_eq_zero_of_lt (by omega) (by omega)]
  omega
/-- turns over given items -/
theorem turns_mem {b : MG} {mb : MS} {M : MEnds} (I : Env → Prop) {items : List D} {env : Env} (h : I env)
    (step : ∀ d ∈ items, ∀ env, I env → ∀ N : MEnds, (∀ e, I e → N.nx e) → (∀ e, I e → N.ct e) → N.rt = M.rt → N.bk = M.nx → b d env fun e => mb N e)
    (stop : ∀ env, I env → M.nx env) : forM b mb M items env :=
  for_inv (fun _ => I) items (fun i d env hd h N a b c e => step d (List.mem_of_getElem? hd) env h N a b c e) (fun env h => stop env h) env h
/-- two texts that show data -/
theorem rep_ne {x y : D} {A B : Prop} (h : x = y) (h2 : B) : if (!eqD (.str (py x).shown) (.str (py y).shown)) = true then A else B := ifNeS (by rw [h]) h2
theorem rep_pl {x : D} (h : noS x = true) (n : Nat) : pl n (.str (py x).shown) = true := by
  have z := sok_shown x h
  cases n <;> exact z
theorem neF {x y : D} {A B : Prop} (e : x = y) (h : B) : if (!eqD x y) = true then A else B := by
  rw [e, eqD_refl]
  simpa using h
theorem eqT {x y : D} {A B : Prop} (e : x = y) (h : A) : if eqD x y = true then A else B := by
  rw [e, eqD_refl]
  simpa using h
theorem retEq {x y : D} {Q : D → Prop} (e : x = y) (h : Q (.bl true)) : Q (.bl (eqD x y)) := by
  rw [e, eqD_refl]
  exact h
end VL

set_option Elab.async false
set_option linter.all false
set_option maxRecDepth 100000
set_option maxHeartbeats 4000000
/-! VL, part q: whole numbers without common divisors. -/
namespace VL
theorem bez (a b : Nat) : ∃ x y : Int, (a : Int) * x + b * y = Nat.gcd a b := by
  induction a, b using Nat.gcd.induction with
  | H0 n => exact ⟨0, 1, by simp⟩
  | H1 m n hm ih =>
    obtain ⟨x, y, h⟩ := ih
    refine ⟨y - (n / m : Nat) * x, x, ?_⟩
    rw [Nat.gcd_rec m n, ← h]
    have e : (n : Int) = (m : Int) * (n / m : Nat) + (n % m : Nat) := by
      have z := Nat.div_add_mod n m
      exact_mod_cast z.symm
    generalize ((n % m : Nat) : Int) = r at *
    generalize ((n / m : Nat) : Int) = q at *
    rw [e, Int.mul_sub, Int.add_mul, Int.mul_assoc]
    omega
theorem bezI {s p : Int} (hs : 0 ≤ s) (hp : 0 ≤ p) : ∃ x y : Int, s * x + p * y = fg s p := by
  obtain ⟨x, y, h⟩ := bez s.natAbs p.natAbs
  refine ⟨x, y, ?_⟩
  have e1 : (s.natAbs : Int) = s := by omega
  have e2 : (p.natAbs : Int) = p := by omega
  rw [e1, e2] at h
  exact h
theorem fg_comm (s p : Int) : fg s p = fg p s := by
  unfold fg
  rw [Int.gcd_comm]
/-- each remainder is come to -/
theorem solve {s p : Int} (r : Int) (hs : 0 ≤ s) (hp : 0 < p) (hg : fg s p = 1) : ∃ x k : Int, 0 ≤ x ∧ x < p ∧ s * x = r + p * k := by
  obtain ⟨u, v, h⟩ := bezI hs (by omega : 0 ≤ p)
  rw [hg] at h
  refine ⟨(u * r) % p, -(v * r) - s * ((u * r) / p), Int.emod_nonneg _ (by omega), Int.emod_lt_of_pos _ hp, ?_⟩
  have d : u * r % p = u * r - p * (u * r / p) := Int.emod_def ..
  have e : s * (u * r) + p * (v * r) = r := by
    have z : (s * u + p * v) * r = r := by rw [h, Int.one_mul]
    rw [Int.add_mul, Int.mul_assoc, Int.mul_assoc] at z
    exact z
  rw [d, Int.mul_sub, Int.mul_sub, Int.mul_neg]
  have q : s * (p * (u * r / p)) = p * (s * (u * r / p)) := by
    rw [← Int.mul_assoc, Int.mul_comm s p, Int.mul_assoc]
  omega
theorem dvd_of_cross {a b c d : Int} (hb : 0 ≤ b) (ha : 0 ≤ a) (g1 : fg a b = 1) (h : a * d = c * b) : b ∣ d := by
  obtain ⟨u, v, e⟩ := bezI ha hb
  rw [g1] at e
  refine ⟨c * u + d * v, ?_⟩
  have z : (a * u + b * v) * d = d := by rw [e, Int.one_mul]
  have z1 : a * u * d = b * (c * u) := by
    rw [Int.mul_right_comm, h, Int.mul_right_comm, Int.mul_comm (c * u)]
  have z2 : b * v * d = b * (d * v) := by
    rw [Int.mul_assoc, Int.mul_comm v d]
  rw [Int.add_mul, z1, z2] at z
  rw [Int.mul_add]
  exact z.symm
/-- a fraction in lowest terms is one alone -/
theorem frac_eq {a b c d : Int} (ha : 0 < a) (hb : 0 < b) (hc : 0 < c) (hd : 0 < d) (g1 : fg a b = 1) (g2 : fg c d = 1) (h : a * d = c * b) : a = c ∧ b = d := by
  have x := dvd_of_cross (by omega) (by omega) g1 h
  have y := dvd_of_cross (by omega) (by omega) g2 h.symm
  have e : b = d := by
    have x1 := Int.le_of_dvd hd x
    have y1 := Int.le_of_dvd hb y
    omega
  subst e
  exact ⟨Int.eq_of_mul_eq_mul_right (by omega) h, rfl⟩
/-- a loop that gives an answer at the first item that passes a test -/
theorem for_find {b : MG} {mb : MS} {M : MEnds} (I : Env → Prop) (T : D → Bool) (v : D) : ∀ (items : List D) (env : Env), I env →
    (∀ d ∈ items, ∀ env, I env → ∀ N : MEnds, (T d = false → ∀ e, I e → N.nx e) → (T d = false → ∀ e, I e → N.ct e) → (T d = true → N.rt v) → b d env fun e => mb N e) →
    ((∀ d ∈ items, T d = false) → ∀ e, I e → M.nx e) → ((∃ d, d ∈ items ∧ T d = true) → M.rt v) → forM b mb M items env
  | [], env, h, _, stop, _ => stop (fun _ hd => nomatch hd) env h
  | d :: ds, env, h, step, stop, found => by
    refine step d List.mem_cons_self env h _ (fun t e he => ?_) (fun t e he => ?_) (fun t => found ⟨d, List.mem_cons_self, t⟩)
    all_goals
      refine for_find I T v ds e he (fun d' hd' => step d' (List.mem_cons_of_mem _ hd')) (fun q => stop fun x hx => ?_) (fun q => ?_)
      · rcases List.mem_cons.mp hx with rfl | hx
        · exact t
        · exact q x hx
      · obtain ⟨x, hx, tx⟩ := q
        exact found ⟨x, List.mem_cons_of_mem _ hx, tx⟩
end VL

set_option Elab.async false
set_option linter.all false
set_option maxRecDepth 100000
set_option maxHeartbeats 4000000
/-! VL, part r: a needle's step, its inputs. -/
namespace VL
/-- the least input at which a value becomes at least g -/
def inp (s p m v g : Int) : Int := -((-(p * g - (p - s) * v - m)) / s)
theorem stp_ge {s p m v x g : Int} (hp : 0 < p) : g ≤ stp s p m v x ↔ p * g - p * v ≤ s * x - s * v + m := by
  unfold stp
  have e : g ≤ v + (s * (x - v) + m) / p ↔ g - v ≤ (s * (x - v) + m) / p := by omega
  rw [e, Int.le_ediv_iff_mul_le hp, Int.sub_mul, Int.mul_sub, Int.mul_comm g, Int.mul_comm v p]
theorem inp_iff {s p m v x g : Int} (hs : 0 < s) (hp : 0 < p) : g ≤ stp s p m v x ↔ inp s p m v g ≤ x := by
  rw [stp_ge hp]
  unfold inp
  have e : -(-(p * g - (p - s) * v - m) / s) ≤ x ↔ -x ≤ -(p * g - (p - s) * v - m) / s := by omega
  rw [e, Int.le_ediv_iff_mul_le hs, Int.sub_mul, Int.neg_mul, Int.mul_comm x s]
  omega
theorem stp_mono {s p m v x y : Int} (hs : 0 ≤ s) (hp : 0 < p) (h : x ≤ y) : stp s p m v x ≤ stp s p m v y := by
  rw [stp_ge hp]
  have z : stp s p m v x ≤ stp s p m v x := Int.le_refl _
  rw [stp_ge hp] at z
  have q := Int.mul_le_mul_of_nonneg_left h hs
  omega
theorem stp_monoV {s p m v w x : Int} (hs : s ≤ p) (hp : 0 < p) (h : v ≤ w) : stp s p m v x ≤ stp s p m w x := by
  rw [stp_ge hp]
  have z : stp s p m v x ≤ stp s p m v x := Int.le_refl _
  rw [stp_ge hp] at z
  have q := Int.mul_le_mul_of_nonneg_left h (show 0 ≤ p - s by omega)
  rw [Int.sub_mul, Int.sub_mul] at q
  omega
theorem stp_succ {s p m v x : Int} (hs : s ≤ p) (hp : 0 < p) : stp s p m v (x + 1) ≤ stp s p m v x + 1 := by
  have z : stp s p m v (x + 1) ≤ stp s p m v (x + 1) := Int.le_refl _
  rw [stp_ge hp] at z
  have q : stp s p m v (x + 1) - 1 ≤ stp s p m v x := by
    rw [stp_ge hp, Int.mul_sub]
    rw [Int.mul_add] at z
    omega
  omega
theorem stp_shift {s p m v x k : Int} : stp s p m (v + k) (x + k) = stp s p m v x + k := by
  unfold stp
  have e : x + k - (v + k) = x - v := by omega
  rw [e]
  omega
theorem inp_at {s p m v g : Int} (hs : 0 < s) (hsp : s ≤ p) : stp s p m v (inp s p m v g) = g ∧ stp s p m v (inp s p m v g - 1) = g - 1 := by
  have a := (inp_iff (s := s) (p := p) (m := m) (v := v) (x := inp s p m v g) (g := g) hs (by omega)).mpr (Int.le_refl _)
  have b : ¬ g ≤ stp s p m v (inp s p m v g - 1) := fun h => by
    have z := (inp_iff hs (by omega)).mp h
    omega
  have c := stp_succ (m := m) (v := v) (x := inp s p m v g - 1) hsp (by omega)
  rw [Int.sub_add_cancel] at c
  omega
theorem inp_uniq {s p m v g x : Int} (hs : 0 < s) (hp : 0 < p) (h1 : g ≤ stp s p m v x) (h2 : ¬ g ≤ stp s p m v (x - 1)) : x = inp s p m v g := by
  rw [inp_iff hs hp] at h1 h2
  omega
theorem inp_plain {s p m v g : Int} (hs : 0 < s) (hp : 0 < p) : inp (s / fg s p) (p / fg s p) (m / fg s p) v g = inp s p m v g := by
  have a := pl_share hs hp
  have b := pl_parts (s := s) hp
  refine inp_uniq hs hp ?_ ?_
  · rw [← stp_plain hp, inp_iff a.1 b.1]
    exact Int.le_refl _
  · rw [← stp_plain hp, inp_iff a.1 b.1]
    omega
/-- how far an input is from the value, where the step is so far -/
theorem inp_far {s p m v g : Int} (hs : 1 ≤ s) (hsp : s ≤ p) (h0 : 0 ≤ m) (h1 : m < p) (k : Int) (hk : 0 ≤ k) (hg : g - v ≤ k) (hg2 : -k ≤ g - v) : v - p * (k + 1) < inp s p m v g ∧ inp s p m v g ≤ v + p * k := by
  have hp : 0 < p := by omega
  constructor
  · have q : ¬ inp s p m v g ≤ v - p * (k + 1) := by
      rw [← inp_iff (s := s) (p := p) (m := m) (v := v) (g := g) (by omega) hp, stp_ge hp]
      have e1 : p * g - p * v = p * (g - v) := by rw [Int.mul_sub]
      have e2 : s * (v - p * (k + 1)) - s * v = -(s * (p * (k + 1))) := by rw [Int.mul_sub]; omega
      have e3 : p * (-k) ≤ p * (g - v) := Int.mul_le_mul_of_nonneg_left hg2 (by omega)
      have e4 : 1 * (p * (k + 1)) ≤ s * (p * (k + 1)) := Int.mul_le_mul_of_nonneg_right hs (Int.mul_nonneg (by omega) (by omega))
      rw [Int.mul_neg] at e3
      rw [Int.one_mul] at e4
      have e5 : p * (k + 1) = p * k + p := by rw [Int.mul_add, Int.mul_one]
      omega
    omega
  · rw [← inp_iff (s := s) (p := p) (m := m) (v := v) (g := g) (by omega) hp, stp_ge hp]
    have e1 : p * g - p * v = p * (g - v) := by rw [Int.mul_sub]
    have e2 : s * (v + p * k) - s * v = s * (p * k) := by rw [Int.mul_add]; omega
    have e3 : p * (g - v) ≤ p * k := Int.mul_le_mul_of_nonneg_left hg (by omega)
    have e4 : 1 * (p * k) ≤ s * (p * k) := Int.mul_le_mul_of_nonneg_right hs (Int.mul_nonneg (by omega) hk)
    omega
/-- the greatest input at which a value becomes g -/
theorem inp_top {s p m v g : Int} (hs : 0 < s) : (p * g - (p - s) * v - m + p - 1) / s = inp s p m v (g + 1) - 1 := by
  unfold inp
  have e : -(p * (g + 1) - (p - s) * v - m) = -(p * g - (p - s) * v - m + p - 1) - 1 := by
    rw [Int.mul_add]
    omega
  rw [e, neg_ediv _ hs]
  omega
/-- how many inputs there are for a step -/
theorem inp_many {s p m v g : Int} (hs : 0 < s) : inp s p m v (g + 1) - inp s p m v g = p / s ∨ inp s p m v (g + 1) - inp s p m v g = (p + s - 1) / s := by
  unfold inp
  have e : -(p * (g + 1) - (p - s) * v - m) = -(p * g - (p - s) * v - m) - p := by
    rw [Int.mul_add]
    omega
  rw [e]
  generalize -(p * g - (p - s) * v - m) = B
  have h1 := Int.emod_add_mul_ediv B s
  have h2 := Int.emod_add_mul_ediv p s
  have a0 := Int.emod_nonneg B (show s ≠ 0 by omega)
  have a1 := Int.emod_lt_of_pos B hs
  have b0 := Int.emod_nonneg p (show s ≠ 0 by omega)
  have b1 := Int.emod_lt_of_pos p hs
  have e1 : B - p = (B % s - p % s) + s * (B / s - p / s) := by rw [Int.mul_sub]; omega
  have e2 : p + s - 1 = (p % s + s - 1) + s * (p / s) := by omega
  rw [e1, e2, Int.add_mul_ediv_left _ _ (by omega), Int.add_mul_ediv_left _ _ (by omega)]
  by_cases c : p % s ≤ B % s
  · rw [Int.ediv_eq_zero_of_lt (a := B % s - p % s) (by omega) (by omega)]
    omega
  · have q1 : (B % s - p % s) / s = -1 := by
      have z : B % s - p % s = (B % s - p % s + s) + s * (-1) := by omega
      rw [z, Int.add_mul_ediv_left _ _ (by omega), Int.ediv_eq_zero_of_lt (by omega) (by omega)]
      rfl
    have q2 : (p % s + s - 1) / s = 1 := by
      have z : p % s + s - 1 = (p % s - 1) + s * 1 := by omega
      rw [z, Int.add_mul_ediv_left _ _ (by omega), Int.ediv_eq_zero_of_lt (by omega) (by omega)]
      rfl
    rw [q1, q2]
    omega
end VL

set_option Elab.async false
set_option linter.all false
set_option maxRecDepth 100000
set_option maxHeartbeats 4000000
/-! VL, part s: lists of drawn things; words done. -/
namespace VL
/-- each item gives a thing with P -/
theorem lc_any {b : MG} {me : ME} {env : Env} {Q : List D → Prop} (P : D → Prop) : ∀ (items acc : List D),
    (∀ d ∈ items, ∀ K : D → Prop, (∀ y, P y → K y) → b d env fun env1 => me env1 K) → (∀ ys : List D, ys.length = items.length → (∀ y ∈ ys, P y) → Q (acc ++ ys)) → lcM b mYes me env items acc Q
  | [], acc, _, q => by
    have z := q [] rfl (fun _ h => nomatch h)
    rw [List.append_nil] at z
    exact z
  | d :: ds, acc, h, q => by
    show b d env fun env1 => me env1 fun y => lcM b mYes me env ds (acc ++ [y]) Q
    refine h d List.mem_cons_self _ fun y hy => ?_
    refine lc_any P ds (acc ++ [y]) (fun e he => h e (List.mem_cons_of_mem _ he)) fun ys hl hp => ?_
    have z := q (y :: ys) (by simp [hl]) (fun z hz => by
      rcases List.mem_cons.mp hz with rfl | hz
      · exact hy
      · exact hp z hz)
    simpa using z
theorem ints_all {P : Int → Prop} : ∀ ys : List D, (∀ y ∈ ys, ∃ x, y = .int x ∧ P x) → ∃ xs : List Int, ys = iD xs ∧ ∀ x ∈ xs, P x
  | [], _ => ⟨[], rfl, fun _ h => nomatch h⟩
  | y :: ys, h => by
    obtain ⟨x, rfl, hx⟩ := h y List.mem_cons_self
    obtain ⟨xs, rfl, hxs⟩ := ints_all ys fun z hz => h z (List.mem_cons_of_mem _ hz)
    refine ⟨x :: xs, rfl, fun z hz => ?_⟩
    rcases List.mem_cons.mp hz with rfl | hz
    · exact hx
    · exact hxs z hz
/-! ### words done -/
def runS (s p m : Int) (v : Int) : List Int → List Int
  | [] => []
  | x :: r => stp s p m v x :: runS s p m (stp s p m v x) r
def endS (s p m : Int) (v : Int) (xs : List Int) : Int := xs.foldl (stp s p m) v
theorem runS_len (s p m : Int) : ∀ (xs : List Int) (v : Int), (runS s p m v xs).length = xs.length
  | [], _ => rfl
  | x :: xs, v => by
    show (runS s p m _ xs).length + 1 = xs.length + 1
    rw [runS_len s p m xs]
theorem runS_snoc (s p m y : Int) : ∀ (xs : List Int) (v : Int), runS s p m v (xs ++ [y]) = runS s p m v xs ++ [stp s p m (endS s p m v xs) y]
  | [], _ => rfl
  | x :: xs, v => by
    show stp s p m v x :: runS s p m _ (xs ++ [y]) = stp s p m v x :: (runS s p m _ xs ++ _)
    rw [runS_snoc s p m y xs]
    rfl
theorem endS_snoc (s p m v y : Int) (xs : List Int) : endS s p m v (xs ++ [y]) = stp s p m (endS s p m v xs) y := by
  unfold endS
  rw [List.foldl_append]
  rfl
theorem runS_last (s p m v : Int) (xs : List Int) : (v :: runS s p m v xs).getLast? = some (endS s p m v xs) := by
  induction xs generalizing v with
  | nil => rfl
  | cons x xs ih =>
    show (v :: stp s p m v x :: runS s p m (stp s p m v x) xs).getLast? = _
    rw [List.getLast?_cons_cons, ih]
    rfl
theorem stp_bd {s p m v x B : Int} (hs : 0 ≤ s) (hsp : s ≤ p) (h0 : 0 ≤ m) (h1 : m < p) (a : -B ≤ v ∧ v ≤ B) (b : -B ≤ x ∧ x ≤ B) : -B ≤ stp s p m v x ∧ stp s p m v x ≤ B := by
  have hp : 0 < p := by omega
  constructor
  · rw [stp_ge hp]
    have z : s * (-B) ≤ s * x := Int.mul_le_mul_of_nonneg_left b.1 hs
    have z2 : (p - s) * (-B) ≤ (p - s) * v := Int.mul_le_mul_of_nonneg_left a.1 (by omega)
    rw [Int.sub_mul, Int.sub_mul] at z2
    omega
  · have q : ¬ B + 1 ≤ stp s p m v x := by
      rw [stp_ge hp, Int.mul_add]
      have z : s * x ≤ s * B := Int.mul_le_mul_of_nonneg_left b.2 hs
      have z2 : (p - s) * v ≤ (p - s) * B := Int.mul_le_mul_of_nonneg_left a.2 (by omega)
      rw [Int.sub_mul, Int.sub_mul] at z2
      omega
    omega
theorem endS_bd {s p m B : Int} (hs : 0 ≤ s) (hsp : s ≤ p) (h0 : 0 ≤ m) (h1 : m < p) : ∀ (xs : List Int) (v : Int), (-B ≤ v ∧ v ≤ B) → (∀ x ∈ xs, -B ≤ x ∧ x ≤ B) → -B ≤ endS s p m v xs ∧ endS s p m v xs ≤ B
  | [], _, a, _ => a
  | x :: xs, v, a, b => endS_bd hs hsp h0 h1 xs (stp s p m v x) (stp_bd hs hsp h0 h1 a (b x List.mem_cons_self)) fun y hy => b y (List.mem_cons_of_mem _ hy)
theorem runS_bd {s p m B : Int} (hs : 0 ≤ s) (hsp : s ≤ p) (h0 : 0 ≤ m) (h1 : m < p) : ∀ (xs : List Int) (v : Int), (-B ≤ v ∧ v ≤ B) → (∀ x ∈ xs, -B ≤ x ∧ x ≤ B) → ∀ y ∈ runS s p m v xs, -B ≤ y ∧ y ≤ B
  | [], _, _, _, y, hy => nomatch hy
  | x :: xs, v, a, b, y, hy => by
    have z := stp_bd hs hsp h0 h1 a (b x List.mem_cons_self)
    rcases List.mem_cons.mp hy with rfl | hy
    · exact z
    · exact runS_bd hs hsp h0 h1 xs _ z (fun y hy => b y (List.mem_cons_of_mem _ hy)) y hy
theorem runS_plain {s p m : Int} (hp : 0 < p) : ∀ (xs : List Int) (v : Int), runS (s / fg s p) (p / fg s p) (m / fg s p) v xs = runS s p m v xs
  | [], _ => rfl
  | x :: xs, v => by
    show stp _ _ _ v x :: runS _ _ _ _ xs = stp s p m v x :: runS s p m _ xs
    rw [stp_plain hp, runS_plain hp xs]
/-- the list of values, after the first i inputs -/
theorem run_take (s p m v : Int) {xs : List Int} {i : Nat} {x : Int} (h : xs[i]? = some x) : v :: runS s p m v (xs.take (i + 1)) = v :: runS s p m v (xs.take i) ++ [stp s p m (endS s p m v (xs.take i)) x] := by
  rw [List.take_succ, h]
  show v :: runS s p m v (xs.take i ++ [x]) = _
  rw [runS_snoc]
  rfl
theorem iD_get {xs : List Int} {i : Nat} {d : D} (h : (iD xs)[i]? = some d) : ∃ x, d = .int x ∧ xs[i]? = some x := by
  unfold iD at h
  rw [List.getElem?_map] at h
  cases e : xs[i]? with
  | none => rw [e] at h; cases h
  | some x => rw [e] at h; cases h; exact ⟨x, rfl, rfl⟩
theorem iD_append (xs ys : List Int) : iD (xs ++ ys) = iD xs ++ iD ys := List.map_append ..
theorem iD_map (f : Int → Int) (F : D → D) (h : ∀ x, F (.int x) = .int (f x)) (xs : List Int) : (iD xs).map F = iD (xs.map f) := by
  unfold iD
  rw [List.map_map, List.map_map]
  apply List.map_congr_left
  intro x _
  exact h x
theorem cut_first (xs : List Int) : cutD (iD xs) none (some 1) = iD (xs.take 1) := by
  cases xs with
  | nil => rfl
  | cons x xs =>
    have e : cutD (iD (x :: xs)) none (some 1) = [D.int x] := by
      unfold cutD
      have l : (iD (x :: xs)).length = xs.length + 1 := by rw [iD_len]; rfl
      rw [l]
      have e1 : HT.sIx (xs.length + 1) 0 none = 0 := rfl
      have e2 : HT.sIx (xs.length + 1) (xs.length + 1) (some 1) = 1 := by
        simp [HT.sIx]
        all_goals omega
      rw [e1, e2]
      rfl
    rw [e]
    rfl
theorem rep_one (x : Int) (n : Nat) : (List.replicate n (iD [x])).flatten = iD (List.replicate n x) := by
  induction n with
  | zero => rfl
  | succ n ih =>
    rw [List.replicate_succ, List.flatten_cons, ih, List.replicate_succ]
    rfl
end VL

set_option Elab.async false
set_option linter.all false
set_option maxRecDepth 100000
set_option maxHeartbeats 4000000
/-! VL, part t: the rests of a word. -/
namespace VL
section
variable {s p m : Int}
theorem stp_hi {v x : Int} (hs : 0 ≤ s) (hsp : s ≤ p) (h0 : 0 ≤ m) (h1 : m < p) {B : Int} (a : v ≤ B) (b : x ≤ B) : stp s p m v x ≤ B := by
  have hp : 0 < p := by omega
  have q : ¬ B + 1 ≤ stp s p m v x := by
    rw [stp_ge hp, Int.mul_add]
    have z : s * x ≤ s * B := Int.mul_le_mul_of_nonneg_left b hs
    have z2 : (p - s) * v ≤ (p - s) * B := Int.mul_le_mul_of_nonneg_left a (by omega)
    rw [Int.sub_mul, Int.sub_mul] at z2
    omega
  omega
theorem stp_lo {v x : Int} (hs : 0 ≤ s) (hsp : s ≤ p) (h0 : 0 ≤ m) (h1 : m < p) {B : Int} (a : B ≤ v) (b : B ≤ x) : B ≤ stp s p m v x := by
  have hp : 0 < p := by omega
  rw [stp_ge hp]
  have z : s * B ≤ s * x := Int.mul_le_mul_of_nonneg_left b hs
  have z2 : (p - s) * B ≤ (p - s) * v := Int.mul_le_mul_of_nonneg_left a (by omega)
  rw [Int.sub_mul, Int.sub_mul] at z2
  omega
theorem endS_hi (hs : 0 ≤ s) (hsp : s ≤ p) (h0 : 0 ≤ m) (h1 : m < p) {B : Int} : ∀ (xs : List Int) (v : Int), v ≤ B → (∀ x ∈ xs, x ≤ B) → endS s p m v xs ≤ B
  | [], _, a, _ => a
  | x :: xs, v, a, b => endS_hi hs hsp h0 h1 xs (stp s p m v x) (stp_hi hs hsp h0 h1 a (b x List.mem_cons_self)) fun y hy => b y (List.mem_cons_of_mem _ hy)
theorem endS_lo (hs : 0 ≤ s) (hsp : s ≤ p) (h0 : 0 ≤ m) (h1 : m < p) {B : Int} : ∀ (xs : List Int) (v : Int), B ≤ v → (∀ x ∈ xs, B ≤ x) → B ≤ endS s p m v xs
  | [], _, a, _ => a
  | x :: xs, v, a, b => endS_lo hs hsp h0 h1 xs (stp s p m v x) (stp_lo hs hsp h0 h1 a (b x List.mem_cons_self)) fun y hy => b y (List.mem_cons_of_mem _ hy)
theorem stp_succV {v x : Int} (hs : 0 ≤ s) (hp : 0 < p) : stp s p m (v + 1) x ≤ stp s p m v x + 1 := by
  have e := stp_shift (s := s) (p := p) (m := m) (v := v) (x := x - 1) (k := 1)
  rw [Int.sub_add_cancel] at e
  have z := stp_mono (s := s) (p := p) (m := m) (v := v) hs hp (show x - 1 ≤ x by omega)
  omega
theorem endS_mono (hs : s ≤ p) (hp : 0 < p) : ∀ (xs : List Int) {v w : Int}, v ≤ w → endS s p m v xs ≤ endS s p m w xs
  | [], _, _, h => h
  | x :: xs, _, _, h => endS_mono hs hp xs (stp_monoV hs hp h)
/-- starts that are apart come no farther apart -/
theorem endS_near (hs : 0 ≤ s) (hsp : s ≤ p) (hp : 0 < p) : ∀ (xs : List Int) {v w : Int}, v ≤ w → endS s p m w xs - endS s p m v xs ≤ w - v
  | [], _, _, _ => Int.le_refl _
  | x :: xs, v, w, h => by
    have a := stp_monoV (m := m) (x := x) hsp hp h
    have b := endS_near hs hsp hp xs a
    have c : stp s p m w x - stp s p m v x ≤ w - v := by
      have e := stp_shift (s := s) (p := p) (m := m) (v := v) (x := x - (w - v)) (k := w - v)
      rw [show v + (w - v) = w by omega, Int.sub_add_cancel] at e
      have z := stp_mono (s := s) (p := p) (m := m) (v := v) hs hp (show x - (w - v) ≤ x by omega)
      omega
    show endS s p m (stp s p m w x) xs - endS s p m (stp s p m v x) xs ≤ w - v
    omega
theorem endS_shift (k : Int) : ∀ (xs : List Int) (v : Int), endS s p m (v + k) (xs.map (· + k)) = endS s p m v xs + k
  | [], _ => rfl
  | x :: xs, v => by
    show endS s p m (stp s p m (v + k) (x + k)) (xs.map (· + k)) = endS s p m (stp s p m v x) xs + k
    rw [stp_shift, endS_shift k xs]
/-- the least rest, the greatest rest -/
def IsBot (s p m : Int) (xs : List Int) (b : Int) : Prop := endS s p m b xs ≤ b ∧ ¬ endS s p m (b - 1) xs ≤ b - 1
def IsTop (s p m : Int) (xs : List Int) (t : Int) : Prop := t ≤ endS s p m t xs ∧ ¬ t + 1 ≤ endS s p m (t + 1) xs
/-- below the least rest a word goes up, from there on it does not -/
theorem bot_iff (hs : 0 ≤ s) (hsp : s ≤ p) (hp : 0 < p) {xs : List Int} {b v : Int} (h : IsBot s p m xs b) : endS s p m v xs ≤ v ↔ b ≤ v := by
  constructor
  · intro q
    refine Int.not_lt.mp fun lt => h.2 ?_
    have z := endS_near (m := m) hs hsp hp xs (show v ≤ b - 1 by omega)
    omega
  · intro q
    have z := endS_near (m := m) hs hsp hp xs q
    have a := h.1
    omega
theorem top_iff (hs : 0 ≤ s) (hsp : s ≤ p) (hp : 0 < p) {xs : List Int} {t v : Int} (h : IsTop s p m xs t) : v ≤ endS s p m v xs ↔ v ≤ t := by
  constructor
  · intro q
    refine Int.not_lt.mp fun lt => h.2 ?_
    have z := endS_near (m := m) hs hsp hp xs (show t + 1 ≤ v by omega)
    omega
  · intro q
    have z := endS_near (m := m) hs hsp hp xs q
    have a := h.1
    omega
theorem bot_uniq (hs : 0 ≤ s) (hsp : s ≤ p) (hp : 0 < p) {xs : List Int} {b c : Int} (h : IsBot s p m xs b) (k : IsBot s p m xs c) : b = c := by
  have x := (bot_iff hs hsp hp h).mp k.1
  have y := (bot_iff hs hsp hp k).mp h.1
  omega
theorem top_uniq (hs : 0 ≤ s) (hsp : s ≤ p) (hp : 0 < p) {xs : List Int} {b c : Int} (h : IsTop s p m xs b) (k : IsTop s p m xs c) : b = c := by
  have x := (top_iff hs hsp hp h).mp k.1
  have y := (top_iff hs hsp hp k).mp h.1
  omega
theorem bot_fix (hsp : s ≤ p) (hp : 0 < p) {xs : List Int} {b : Int} (h : IsBot s p m xs b) : endS s p m b xs = b := by
  have z := endS_mono (m := m) hsp hp xs (show b - 1 ≤ b by omega)
  have a := h.1
  have c := h.2
  omega
theorem top_fix (hsp : s ≤ p) (hp : 0 < p) {xs : List Int} {b : Int} (h : IsTop s p m xs b) : endS s p m b xs = b := by
  have z := endS_mono (m := m) hsp hp xs (show b ≤ b + 1 by omega)
  have a := h.1
  have c := h.2
  omega
/-- what stays is what lies between both rests -/
theorem fix_iff (hs : 0 ≤ s) (hsp : s ≤ p) (hp : 0 < p) {xs : List Int} {b t v : Int} (h : IsBot s p m xs b) (k : IsTop s p m xs t) : endS s p m v xs = v ↔ b ≤ v ∧ v ≤ t := by
  rw [← bot_iff hs hsp hp h, ← top_iff hs hsp hp k]
  omega
theorem bot_le_top (hs : 0 ≤ s) (hsp : s ≤ p) (hp : 0 < p) {xs : List Int} {b t : Int} (h : IsBot s p m xs b) (k : IsTop s p m xs t) : b ≤ t := by
  rw [← top_iff hs hsp hp k, bot_fix hsp hp h]
  exact Int.le_refl _
/-- far below a word goes up, far above it goes down -/
theorem far_low (hs : 1 ≤ s) (hsp : s ≤ p) (h0 : 0 ≤ m) (h1 : m < p) {lo : Int} : ∀ {xs : List Int}, xs ≠ [] → (∀ x ∈ xs, lo ≤ x) → ¬ endS s p m (lo - p) xs ≤ lo - p
  | [], e, _ => absurd rfl e
  | x :: xs, _, h => by
    have hp : 0 < p := by omega
    have a : lo - p + 1 ≤ stp s p m (lo - p) x := by
      rw [stp_ge hp]
      have z := h x List.mem_cons_self
      have q : s * p ≤ s * (x - (lo - p)) := Int.mul_le_mul_of_nonneg_left (by omega) (by omega)
      have q2 : 1 * p ≤ s * p := Int.mul_le_mul_of_nonneg_right hs (by omega)
      rw [Int.mul_sub] at q
      rw [Int.mul_add]
      omega
    have b := endS_lo (m := m) (by omega : 0 ≤ s) hsp h0 h1 xs (stp s p m (lo - p) x) a fun y hy => by
      have z := h y (List.mem_cons_of_mem _ hy)
      omega
    show ¬ endS s p m (stp s p m (lo - p) x) xs ≤ lo - p
    omega
theorem far_high (hs : 1 ≤ s) (hsp : s ≤ p) (h0 : 0 ≤ m) (h1 : m < p) {hi : Int} : ∀ {xs : List Int}, xs ≠ [] → (∀ x ∈ xs, x ≤ hi) → ¬ hi + p ≤ endS s p m (hi + p) xs
  | [], e, _ => absurd rfl e
  | x :: xs, _, h => by
    have hp : 0 < p := by omega
    have a : ¬ hi + p ≤ stp s p m (hi + p) x := by
      rw [stp_ge hp]
      have z := h x List.mem_cons_self
      have q : s * p ≤ s * ((hi + p) - x) := Int.mul_le_mul_of_nonneg_left (by omega) (by omega)
      have q2 : 1 * p ≤ s * p := Int.mul_le_mul_of_nonneg_right hs (by omega)
      rw [Int.mul_sub] at q
      omega
    have b := endS_hi (m := m) (by omega : 0 ≤ s) hsp h0 h1 (B := hi + p - 1) xs (stp s p m (hi + p) x) (by omega) fun y hy => by
      have z := h y (List.mem_cons_of_mem _ hy)
      omega
    show ¬ hi + p ≤ endS s p m (stp s p m (hi + p) x) xs
    omega
end
theorem maxL_law {xs : List Int} {Q : D → Prop} (hn : xs ≠ []) (h : ∀ M, M ∈ xs → (∀ y ∈ xs, y ≤ M) → Q (.int M)) : oMaxL [.lst (iD xs)] Q := by
  unfold oMaxL
  simp only [iD_ints]
  exact ⟨List.length_pos_iff.mpr hn, h⟩
theorem minL_law {xs : List Int} {Q : D → Prop} (hn : xs ≠ []) (h : ∀ M, M ∈ xs → (∀ y ∈ xs, M ≤ y) → Q (.int M)) : oMinL [.lst (iD xs)] Q := by
  unfold oMinL
  simp only [iD_ints]
  exact ⟨List.length_pos_iff.mpr hn, h⟩
end VL

set_option Elab.async false
set_option linter.all false
set_option maxRecDepth 100000
set_option maxHeartbeats 4000000
/-! VL, part u: errors: raised, handed on by calls, caught. -/
namespace VL
open PySem PySem.Spec PyProof.Rows L2

/-- what making an error of the class at C asks: its own dict stands at a new place -/
def tMkX (C : Addr) (t : TE) : L2.St → Hp → XK → Prop := fun σ H Q => t σ H fun v H1 => ∀ d, H1 d = none → Q (.ref C) (some d) (upd H1 d (.xd [("value", v)]))
def mRaise (k : Nat) (ma : ME) : MS := fun M env => ma env fun d => M.rt (.exo k d env)
/-- an answer that may be an error -/
def outX (M : MEnds) (env : Env) (K : D → Prop) : D → Prop := fun d => match d with
  | .exo k v _ => M.rt (.exo k v env)
  | d => K d
def noX (Q : D → Prop) : D → Prop := fun d => match d with
  | .exo _ _ _ => False
  | d => Q d
/-- f, where it lets nothing out -/
def fN (f : List D → (D → Prop) → Prop) : List D → (D → Prop) → Prop := fun ds Q => f ds (noX Q)
theorem outX_real {M : MEnds} {env : Env} {K : D → Prop} {g : Gm} {S : Addr → Prop} {H : Hp} {v : V} {d : D} (r : Rep g S H v d) (h : outX M env K d) : K d := by
  cases r <;> exact h
theorem noX_real {Q : D → Prop} {g : Gm} {S : Addr → Prop} {H : Hp} {v : V} {d : D} (r : Rep g S H v d) (h : noX Q d) : Q d := by
  cases r <;> exact h
theorem noX_of {Q : D → Prop} : ∀ {d : D}, noX Q d → Q d
  | .exo _ _ _, h => h.elim
  | .non, h => h
  | .bl _, h => h
  | .int _, h => h
  | .str _, h => h
  | .lst _, h => h
  | .tup _, h => h
  | .ndl _ _ _, h => h
  | .pool, h => h
  | .opq _, h => h
  | .err _ _ _, h => h
  | .chn _, h => h
  | .fnc _, h => h
  | .dct _, h => h
  | .exv _ _ _ _, h => h
  | .gag _ _ _ _ _, h => h
section
variable {g : Gm} {rk f fa fb : Bool} {xw : Option WX} {W : WX} {X : Cx} {e ex a b : Expr} {ma mb : ME} {R Ra Rb : List Nat} {c c1 c2 ca cb cc : Nat} {own own1 own2 own' ol : List Nat} {st st2 : Stmt} {rest : List Stmt} {m m1 m2 : MS} {pos : Pos}
theorem vs_raise (k : Nat) (tk : Takes X W) (hc : X.calm = true) (h : VE g X e ma R c f) (hp : ∀ {t : TE}, PE X e t → PMk X ex (tMkX (g.C.xc k) t)) : VS g rk (some W) ol X (.Raise (some ex) none pos) (mRaise k ma) own own' c := by
  obtain ⟨t, p, q⟩ := h
  refine ⟨_, ps_raise hc tk (hp p), fun H0 A0 gs σ H env S B M D' r pb hb hm br => q σ H env S B _ _ r.rl pb hb hm fun v H1 d A z => fun da hda => ?_⟩
  have nda : some da ≠ g.pa := A.pb.not hda
  have sm : Same H1 (upd H1 da (.xd [("value", v)])) := same_new hda
  refine br.ex W rfl σ _ env S k d _ _ (((r.go A.fr).go (Fr.of sm)).less (fun _ z => nomatch z) fun _ z => z) (A.pb.same sm) ⟨da, v, rfl, rfl, upd_same, r.fr.back nda (A.fr.back nda hda), nda, ?_⟩ z
  refine A.rep.goN fun a o s e => ⟨⟨sr_al r s, ?_, s.2.2⟩, sm a o e⟩
  rw [sm a o e]
  exact fun q => nomatch q

/-! ### a def that may raise -/
def spX (C : Kl) (f : List D → (D → Prop) → Prop) (c : Nat) (rk : Bool) : Sp := fun vs H Q E => ∃ (pa : Option Addr) (B : Nat) (ds : List D) (U : Addr → Prop) (Qd : D → Prop),
  RepL ⟨C, pa⟩ U H vs ds ∧ (∀ a, U a → H a ≠ none ∧ some a ≠ pa) ∧ PB ⟨C, pa⟩ B H ∧ B + c ≤ Bmax ∧ f ds Qd ∧ (∀ d v H', Qd d → RtOk ⟨C, pa⟩ rk H U H' v d → PB ⟨C, pa⟩ (B + c) H' → Q v H') ∧
  ∀ k v en cls d H', Qd (.exo k v en) → Fr ⟨C, pa⟩ H H' → Exf ⟨C, pa⟩ H U H' k v cls d → PB ⟨C, pa⟩ (B + c) H' → E cls d H'
end
section
variable {P : Program} {w : World} {K : PySem.W.Frag} {mg : Str → Option Value} {base : Heap} {x qual : Str} {st : Stmt} {C : Kl} {f : Addr} {fd : FuncData} {N ps : List Str} {k kN n c : Nat} {rk : Bool} {m : MS} {own' : List Nat} {fn : List D → (D → Prop) → Prop}
theorem body_okX {X : Cx} {vs : List V} {H : Hp} {Q : VK} {E : XK} (hN : N.length = kN)
    (hb : ∀ pa, VB ⟨C, pa⟩ rk (some (fun cls d _ H => E cls d H)) [] X (defBody st) m [] own' c) (h : spX C (runM kN n m) c rk vs H Q E) : ∃ t, PSs X (defBody st) t ∧ t { nx := fun _ H' => Q .non H', rt := Q } (L2.start N vs) H := by
  obtain ⟨pa, B, ds, U, Qd, r, hU, pb, hB, ⟨hl, hm⟩, k, kx⟩ := h
  obtain ⟨t, p, q⟩ := hb pa
  refine ⟨t, p, q H U [] (L2.start N vs) H (startE kN ds) (fun _ => U) B _ _ (start_rs hN r hU) pb hB hm ⟨fun σ' H' env' S' r' p' z => ?_, fun v H' d r' p' z => k d v H' z r' p', fun _ _ _ _ _ _ z => z.elim, fun _ _ _ _ _ _ z => z.elim, fun W e σ' H' env' S' k' v cls d r' p' x z => ?_⟩⟩
  · exact k .non .non H' z ⟨r'.fr, .non, fun _ xs e => (by cases xs <;> cases e)⟩ p'
  · cases e
    exact kx k' v env' cls d H' z r'.fr x p'
theorem spX_len {vs : List V} {H : Hp} {Q : VK} {E : XK} (h : spX C (runM kN n m) c rk vs H Q E) : vs.length = n := by
  obtain ⟨pa, B, ds, U, Qd, r, hU, pb, hB, ⟨hl, hm⟩, k⟩ := h
  rw [r.length, hl]
theorem fn_x (F : Fun K x qual st f fd) (S : FnScope N ps (defScope st)) (hN : N.length = kN) (hp : ps.length = n)
    (hb : ∀ pa (cdv : Value) (A : Around) (outer : List PySem.Env) (s : Shared) (H : Hp) (E : XK), Room k (A.deeper (envOfC qual (defScope st) s.heap.objs.size f cdv)) → VB ⟨C, pa⟩ rk (some (fun cls d _ H => E cls d H)) [] (cxOf (L2.CX P w) P w K mg base N qual (defScope st) f cdv A outer s H E) (defBody st) m [] own' c) :
    FnOk P w K mg base (L2.CX P w) (k + 1) f fd ps (spX C (runM kN n m) c rk) := by
  refine F.okX S (fun vs H Q E h => by rw [hp]; exact spX_len h) fun cdv A outer s H vs Q E hr h => ?_
  exact body_okX hN (fun pa => hb pa cdv A outer s H E hr) h
/-- .. where it lets nothing out -/
theorem ok_N (F : FnOk P w K mg base (L2.CX P w) k f fd ps (spX C fn c rk)) : FnOk P w K mg base CX0 k f fd ps (spV C (fN fn) c rk) := by
  have up : ∀ vs H Q E, spV C (fN fn) c rk vs H Q E → spX C fn c rk vs H Q E0 := fun vs H Q E ⟨pa, B, ds, U, Qd, r, hU, pb, hB, hm, k⟩ =>
    ⟨pa, B, ds, U, noX Qd, r, hU, pb, hB, hm, fun d v H' z => k d v H' (noX_of z), fun _ _ _ _ _ _ z => z.elim⟩
  refine ⟨fun vs H Q E h => F.len _ _ _ _ (up _ _ _ _ h), fun A outer s H args us vs Q E hr he hb hv hs => ?_⟩
  refine codeAny_mono (F.run A outer s H args us vs Q E0 hr he hb hv (up _ _ _ _ hs)) fun r s' hq => ?_
  match r, hq with
  | .error e, hq =>
    obtain ⟨_, _, _, _, _, _, _, _, _, _, _, _, z⟩ := hq
    exact z.elim
  | .ok (.ret u), hq => exact hq
  | .ok .next, hq => exact hq.elim
  | .ok .brk, hq => exact hq.elim
  | .ok .cont, hq => exact hq.elim
end
/-! ### its calls -/
structure CanX (X : Cx) (W : WX) (f : Addr) (fd : FuncData) (ps : List Str) (sp : Sp) : Prop where
  len : ∀ vs H Q E, sp vs H Q E → vs.length = ps.length
  run : ∀ (pins : List (Addr × Obj)) (σ : L2.St) (s : Shared) (H : Hp) (args : Args) (us : List Value) (vs : List V) (Q : VK), Inv X pins σ H s → BindsTo s fd args (ps.zip us) → Vals vs us → sp vs H Q (fun cls d H' => W cls d σ H') →
    codeAny (model X.prog X.w) X.A (.call (.ref f) args) (fun r s' => match r with | .ok (.ret u) => EP X pins σ Q u s' | .error e => X.xe e s' | _ => False) s
section
variable {X : Cx} {W : WX} {f C : Addr} {fd : FuncData} {ps ks : List Str} {sp : Sp} {k n c c' ca cb : Nat} {E : XK} {x mN : Str} {p pos apos : Pos} {e o : Expr} {es : List Expr} {kws : List Keyword} {t ta tk : TA} {te : TE} {g : Gm} {ma mk : MA} {m : ME} {R Ra Rb : List Nat} {rk fr' : Bool} {fn : List D → (D → Prop) → Prop}
theorem canX_of (F : FnOk X.prog X.w X.K X.mg X.base (L2.CX X.prog X.w) k f fd ps sp) (hr : Room k X.A) (tk : Takes X W) : CanX X W f fd ps sp := by
  refine ⟨F.len, fun pins σ s H args us vs Q I hb r h => codeAny_mono (F.run X.A X.stack s H args us vs Q _ hr I.env0 hb r h) fun r s' hq => ?_⟩
  match r, hq with
  | .error e, hq => exact tk e s' (XE.of_call I (fun _ _ _ h => h) hq)
  | .ok (.ret u), hq => exact I.after hq
  | .ok .next, hq => exact hq.elim
  | .ok .brk, hq => exact hq.elim
  | .ok .cont, hq => exact hq.elim
/-- one that raises nothing is such a one, too -/
theorem canX_no {fn : List D → (D → Prop) → Prop} {C : Kl} (F : Can X f fd ps (spV C fn c rk)) (W : WX) : CanX X W f fd ps (spX C fn c rk) := by
  have up : ∀ vs H Q E, spX C fn c rk vs H Q E → spV C fn c rk vs H Q E0 := fun vs H Q E ⟨pa, B, ds, U, Qd, r, hU, pb, hB, hm, k, _⟩ => ⟨pa, B, ds, U, Qd, r, hU, pb, hB, hm, k⟩
  refine ⟨fun vs H Q E h => F.len _ _ _ _ (up _ _ _ _ h), fun pins σ s H args us vs Q I hb r h => codeAny_mono (F.go hb I r (up _ _ _ _ h)) fun r s' hq => ?_⟩
  match r, hq with
  | .error e, hq => exact hq.elim
  | .ok (.ret u), hq => exact hq
  | .ok .next, hq => exact hq.elim
  | .ok .brk, hq => exact hq.elim
  | .ok .cont, hq => exact hq.elim
theorem CanX.call {pins : List (Addr × Obj)} {σ : L2.St} {H : Hp} {s : Shared} {Q : VK} {us ws : List Value} {kw : List (Str × Value)} {vs : List V} {xs : List Value} (F : CanX X W f fd ps sp) (hb : BindsTo s fd ⟨us, kw⟩ (ps.zip xs)) (I : Inv X pins σ H s) (r : Vals vs xs) (h : sp vs H Q (fun cls d H' => W cls d σ H')) :
    wpAny (model X.prog X.w) X.A (PySem.call (.ref f) us kw) (EP X pins σ Q) X.xe s := by
  refine wpAny_call (codeAny_mono (F.run pins σ s H _ _ vs Q I hb r h) fun r s' hq => ?_)
  match r, hq with
  | .error e, hq => exact hq
  | .ok (.ret u), hq => exact hq
  | .ok .next, hq => exact hq.elim
  | .ok .brk, hq => exact hq.elim
  | .ok .cont, hq => exact hq.elim
def tCallX (W : WX) (sp : Sp) (t : TA) : TE := fun σ H Q => t σ H fun vs H1 => sp vs H1 Q (fun cls d H' => W cls d σ H')
def tCallKX (W : WX) (n m : Nat) (π : List Nat) (sp : Sp) (t tk : TA) : TE := fun σ H Q => t σ H fun vs H1 => tk σ H1 fun zs H2 => (vs.length = n ∧ zs.length = m) ∧ sp (pick .non π (vs ++ zs)) H2 Q (fun cls d H' => W cls d σ H')
theorem pe_callX (F : CanX X W f fd ps sp) (hg : Gl X x) (hm : X.mg x = some (.ref f)) (hk : PySem.W.keepIn X.K (.ref f) = true) (hb : Binds X.K fd ps []) (ha : PA X (e :: es) ta) (hdb : (x == ("__debug__" : Str)) = false)
    (he : starEach (e :: es) X.env = (false, eval e X.env) :: starEach es X.env) (hpl : (backTo pos (starEach es X.env)).any (·.1) = false) : PE X (.Call (.Name x p) (e :: es) [] pos) (tCallX W sp ta) := by
  constructor
  intro pins s σ H Q I h
  apply wpAny_Call_Name_kw (ld_glob I hg hm ?_ hdb)
  apply PySem.W.callWith_K (h₀ := X.base) I.ok.mod.kin hk ?_ he hpl
  refine thn (ha.run pos pins s σ H _ I h) ?_
  rintro us s1 ⟨vs, H1, I1, r, q⟩
  have hl : us.length = ps.length := by rw [← r.length]; exact F.len _ _ _ _ q
  exact ⟨I1.kIn, F.call (ws := []) (by simpa using hb s1 us I1.kIn (by simpa using hl)) I1 r q⟩
theorem pe_callKX {π : List Nat} (F : CanX X W f fd ps sp) (hg : Gl X x) (hm : X.mg x = some (.ref f)) (hk : PySem.W.keepIn X.K (.ref f) = true) (hb : KB X.K fd ps n ks π) (ha : PA X (e :: es) ta) (hkw : PK X kws tk) (hall : (backToKw pos (keywordEach kws X.env)).all (·.1.isSome) = true) (hks : (backToKw pos (keywordEach kws X.env)).filterMap (·.1) = ks) (hdb : (x == ("__debug__" : Str)) = false)
    (he : starEach (e :: es) X.env = (false, eval e X.env) :: starEach es X.env) (hpl : ((backTo pos (starEach (e :: es) X.env)).any (·.1) || (backToKw pos (keywordEach kws X.env)).any (·.1.isNone)) = false) : PE X (.Call (.Name x p) (e :: es) kws pos) (tCallKX W n ks.length π sp ta tk) := by
  constructor
  intro pins s σ H Q I h
  apply wpAny_Call_Name_kw (ld_glob I hg hm ?_ hdb)
  apply PySem.W.callWith_KW (h₀ := X.base) I.ok.mod.kin hk hall ?_ hpl he
  refine thn (ha.run pos pins s σ H _ I h) ?_
  rintro us s1 ⟨vs, H1, I1, r, q⟩
  refine thn (hkw.run pos pins s1 σ H1 _ I1 q) ?_
  rintro ws s2 ⟨zs, H2, I2, rz, ⟨l1, l2⟩, q2⟩
  rw [hks]
  exact ⟨I2.kIn, F.call (ws := []) (hb s2 us ws I2.kIn (by rw [← r.length]; exact l1) (by rw [← rz.length]; exact l2)) I2 (pick_vals (r.append rz) π) q2⟩
theorem pe_callKX0 {π : List Nat} (F : CanX X W f fd ps sp) (hg : Gl X x) (hm : X.mg x = some (.ref f)) (hk : PySem.W.keepIn X.K (.ref f) = true) (hb : KB X.K fd ps 0 ks π) (hkw : PK X kws tk) (hall : (backToKw pos (keywordEach kws X.env)).all (·.1.isSome) = true) (hks : (backToKw pos (keywordEach kws X.env)).filterMap (·.1) = ks) (hdb : (x == ("__debug__" : Str)) = false)
    (hpl : ((backTo pos (starEach [] X.env)).any (·.1) || (backToKw pos (keywordEach kws X.env)).any (·.1.isNone)) = false) : PE X (.Call (.Name x p) [] kws pos) (tCallKX W 0 ks.length π sp tNil tk) := by
  constructor
  intro pins s σ H Q I h
  apply wpAny_Call_Name_kw (ld_glob I hg hm ?_ hdb)
  apply PySem.W.callWith_KW0 (h₀ := X.base) I.ok.mod.kin hk hall ?_ hpl
  refine thn (hkw.run pos pins s σ H _ I h) ?_
  rintro ws s2 ⟨zs, H2, I2, rz, ⟨l1, l2⟩, q2⟩
  rw [hks]
  exact ⟨I2.kIn, F.call (ws := []) (us := []) (hb s2 [] ws I2.kIn rfl (by rw [← rz.length]; exact l2)) I2 (pick_vals rz π) q2⟩
end
/-- an expression that may raise -/
def VX (g : Gm) (X : Cx) (W : WX) (e : Expr) (m : ME) (R : List Nat) (c : Nat) (f : Bool) : Prop := ∃ t, PE X e t ∧ ∀ (σ : L2.St) (H : Hp) (env : Env) (S : SS) (B : Nat) (Qd : D → Prop) (Q : VK),
  Rl g σ H env S → PB g B H → B + c ≤ Bmax → m env Qd → (∀ v H' d, Aft g f R S H H' B c v d → Qd d → Q v H') →
  (∀ k v en cls d H', Fr g H H' → PB g (B + c) H' → Exf g H (fun a => ∃ i, i ∈ R ∧ S i a) H' k v cls d → Qd (.exo k v en) → W cls d σ H') → t σ H Q
section
variable {g : Gm} {rk f fa fb : Bool} {xw : Option WX} {W : WX} {X : Cx} {e ex a b ec : Expr} {es : List Expr} {kws : List Keyword} {ma mb : ME} {ml mk : MA} {R Ra Rb : List Nat} {c c1 c2 ca cb cc n : Nat} {own own1 own2 own' ol : List Nat} {st st2 : Stmt} {rest : List Stmt} {m m1 m2 : MS} {pos : Pos} {fn : List D → (D → Prop) → Prop}
theorem vx_of (h : VE g X e ma R c f) : VX g X W e ma R c f := by
  obtain ⟨t, p, k⟩ := h
  exact ⟨t, p, fun σ H env S B Qd Q rl pb hb hm q _ => k σ H env S B Qd Q rl pb hb hm q⟩
theorem spX_use {S : SS} {H H1 : Hp} {B : Nat} {vs : List V} {ds : List D} {Qd : D → Prop} {Q : VK} {E : XK} (A : AftL g R S H H1 B ca vs ds) (hb : B + (ca + c) ≤ Bmax) (hm : fn ds Qd) (k : ∀ v H' d, Aft g rk R S H H' B (ca + c) v d → Qd d → Q v H')
    (kx : ∀ k v en cls d H', Fr g H H' → PB g (B + (ca + c)) H' → Exf g H (fun a => ∃ i, i ∈ R ∧ S i a) H' k v cls d → Qd (.exo k v en) → E cls d H') : spX g.C fn c rk vs H1 Q E := by
  obtain ⟨C, pa⟩ := g
  refine ⟨pa, B + ca, ds, Sr ⟨C, pa⟩ R S H H1, Qd, A.rep, fun a s => s.2, A.pb, by omega, hm, fun d v H' hd r p => ?_, fun k v en cls d H' z fr x p => ?_⟩
  · have up : ∀ a, (H1 a = none ∨ Sr ⟨C, pa⟩ R S H H1 a) ∧ H' a ≠ none ∧ some a ≠ pa → Sr ⟨C, pa⟩ R S H H' a := fun a s => ⟨s.1.elim (fun n => .inl (A.fr.back s.2.2 n)) fun s => s.1, s.2⟩
    exact k v H' d ⟨A.fr.trans r.fr, by rw [← Nat.add_assoc]; exact p, r.rep.mono up, fun q => fsh_up (fun a n e => A.fr.back n e) A.pb up (r.fsh q)⟩ hd
  · obtain ⟨da, u, h1, h2, h3, h4, h5, h6⟩ := x
    refine kx k v en cls d H' (A.fr.trans fr) (by rw [← Nat.add_assoc]; exact p) ⟨da, u, h1, h2, h3, A.fr.back h5 h4, h5, h6.mono fun a s => ⟨?_, s.2⟩⟩ z
    exact s.1.elim (fun n => .inl (A.fr.back s.2.2 n)) fun s => s.1
theorem vx_call (hp : ∀ {t : TA}, PA X es t → PE X e (tCallX W (spX g.C fn c rk) t)) (ha : VA g X es ml R ca) : VX g X W e (mCall fn ml) R (ca + c) rk := by
  obtain ⟨t, p, k⟩ := ha
  exact ⟨_, hp p, fun σ H env S B Qd Q rl pb hb hm q qx => k σ H env S B _ _ rl pb (by omega) hm fun vs H1 ds A z => spX_use A hb z q qx⟩
theorem vx_callK {n m : Nat} {π : List Nat} (hp : ∀ {t u : TA}, PA X es t → PK X kws u → PE X e (tCallKX W n m π (spX g.C fn c rk) t u)) (ha : VA g X es ml Ra ca) (hk : VKw g X kws mk Rb cb) : VX g X W e (mCallK n m π fn ml mk) (Ra ++ Rb) (ca + cb + c) rk := by
  obtain ⟨t, p, k⟩ := ha
  obtain ⟨u, q, j⟩ := hk
  refine ⟨_, hp p q, fun σ H env S B Qd Q rl pb hb hm h hx => k σ H env S B _ _ rl pb (by omega) hm fun vs H1 ds A z => ?_⟩
  refine j σ H1 env S (B + ca) _ _ (rl.fr A.fr) A.pb (by omega) z fun zs H2 es A2 z2 => ?_
  have A3 := aftL_app A A2
  exact ⟨⟨by rw [A.rep.length]; exact z2.1.1, by rw [A2.rep.length]; exact z2.1.2⟩, spX_use ⟨A3.fr, A3.pb, pick_rep A3.rep π⟩ hb z2.2 h hx⟩
theorem vx_callK0 {n m : Nat} {π : List Nat} (hp : ∀ {u : TA}, PK X kws u → PE X e (tCallKX W n m π (spX g.C fn c rk) tNil u)) (hk : VKw g X kws mk Rb cb) : VX g X W e (mCallK n m π fn mNil mk) (([] : List Nat) ++ Rb) (0 + cb + c) rk := by
  obtain ⟨u, q, j⟩ := hk
  refine ⟨_, hp q, fun σ H env S B Qd Q rl pb hb hm h hx => ?_⟩
  refine j σ H env S B _ _ rl pb (by omega) hm fun zs H2 es A2 z2 => ?_
  have A3 : AftL g ([] ++ Rb) S H H2 B (0 + cb) ([] ++ zs) ([] ++ es) := ⟨A2.fr, A2.pb.mono (by omega), A2.rep⟩
  exact ⟨⟨z2.1.1, by rw [A2.rep.length]; exact z2.1.2⟩, spX_use ⟨A3.fr, A3.pb, pick_rep A3.rep π⟩ hb z2.2 h hx⟩
theorem exf_up {H H1 H' : Hp} {A A' : Addr → Prop} {k : Nat} {v : D} {cls : Value} {d : Option Addr} (fr : Fr g H H1) (hA : ∀ a, A a → A' a) (x : Exf g H1 A H' k v cls d) : Exf g H A' H' k v cls d := by
  obtain ⟨da, u, h1, h2, h3, h4, h5, h6⟩ := x
  exact ⟨da, u, h1, h2, h3, fr.back h5 h4, h5, h6.mono fun a s => ⟨s.1.imp (fr.back s.2.2) (hA a), s.2⟩⟩
theorem vx_if {mt : MT} {c : Expr} (hc : VT g X c mt cc) (h : VX g X W a ma Ra ca fa) (h' : VX g X W b mb Rb cb fb) : VX g X W (.IfExp c a b pos) (mIf mt ma mb) (Ra ++ Rb) (cc + (ca + cb)) (fa && fb) := by
  obtain ⟨t0, p0, k0⟩ := hc
  obtain ⟨t, p, k⟩ := h
  obtain ⟨t', p', k'⟩ := h'
  refine ⟨_, pe_ifExp p0 p p', fun σ H env S B Qd Q rl pb hb hm q qx => ?_⟩
  refine k0 σ H env S B _ _ rl pb (by omega) hm fun b H1 fr pb1 z => ?_
  cases b with
  | true => exact k σ H1 env S (B + cc) _ _ (rl.fr fr) pb1 (by omega) z (fun v H2 d A2 z2 => q v H2 d ⟨fr.trans A2.fr, A2.pb.mono (by omega), (aft_afterL (Rb := Rb) fr pb1 A2).rep, fun z => (aft_afterL (Rb := Rb) fr pb1 A2).fsh (Bool.and_eq_true_iff.mp z).1⟩ z2) fun k v en cls d H' fr2 pb2 x z2 => qx k v en cls d H' (fr.trans fr2) (pb2.mono (by omega)) (exf_up fr (fun a ⟨i, h, s⟩ => ⟨i, List.mem_append_left _ h, s⟩) x) z2
  | false => exact k' σ H1 env S (B + cc) _ _ (rl.fr fr) pb1 (by omega) z (fun v H2 d A2 z2 => q v H2 d ⟨fr.trans A2.fr, A2.pb.mono (by omega), (aft_after (Ra := Ra) fr pb1 A2).rep, fun z => (aft_after (Ra := Ra) fr pb1 A2).fsh (Bool.and_eq_true_iff.mp z).2⟩ z2) fun k v en cls d H' fr2 pb2 x z2 => qx k v en cls d H' (fr.trans fr2) (pb2.mono (by omega)) (exf_up fr (fun a ⟨i, h, s⟩ => ⟨i, List.mem_append_right _ h, s⟩) x) z2
/-! ### statements with such an expression -/
theorem exf_br {H0 H H' : Hp} {A0 : Addr → Prop} {gs : Gh} {σ : L2.St} {env : Env} {S : SS} {B' : Nat} {M : MEnds} {D' : Ends} (r : Rs g H0 A0 own gs σ H env S) (br : Br g rk (some W) ol H0 A0 gs own' B' M D') {k : Nat} {v : D} {cls : Value} {d : Option Addr} (fr : Fr g H H') (pb : PB g B' H')
    (x : Exf g H (fun a => ∃ i, i ∈ R ∧ S i a) H' k v cls d) (z : M.rt (.exo k v env)) : W cls d σ H' := by
  obtain ⟨da, u, h1, h2, h3, h4, h5, h6⟩ := x
  exact br.ex W rfl σ H' env S k v cls d ((r.go fr).less (fun _ z => nomatch z) fun _ z => z) pb ⟨da, u, h1, h2, h3, r.fr.back h5 h4, h5, h6.mono fun a s => ⟨s.1.elim (fun n => .inl (r.fr.back s.2.2 n)) fun ⟨i, _, si⟩ => r.al i a si, s.2⟩⟩ z
def mDropX (ma : ME) : MS := fun M env => ma env (outX M env fun _ => M.nx env)
theorem vs_exprX (h : VX g X W e ma R c f) (hp : ∀ {t : TE}, PE X e t → PS X (.Expr e pos) (tDrop t)) : VS g rk (some W) ol X (.Expr e pos) (mDropX ma) own own c := by
  obtain ⟨t, p, k⟩ := h
  exact ⟨_, hp p, fun H0 A0 gs σ H env S B M D' r pb hb hm br => k σ H env S B _ _ r.rl pb hb hm (fun v H1 d A z => br.nx σ H1 env S (r.go A.fr) A.pb (outX_real A.rep z)) fun k v en cls d H' fr pb2 x z => exf_br r br fr pb2 x z⟩
def mRetX (ma : ME) : MS := fun M env => ma env (outX M env M.rt)
theorem vs_retX (h : VX g X W e ma R c f) (hf : rk = true → f = true) : VS g rk (some W) ol X (.Return (some e) pos) (mRetX ma) own own' c := by
  obtain ⟨t, p, k⟩ := h
  refine ⟨_, ps_ret p, fun H0 A0 gs σ H env S B M D' r pb hb hm br => k σ H env S B _ _ r.rl pb hb hm (fun v H1 d A z => ?_) fun k v en cls d H' fr pb2 x z => exf_br r br fr pb2 x z⟩
  have up : ∀ a, Sr g R S H H1 a → (H0 a = none ∨ A0 a) ∧ H1 a ≠ none ∧ some a ≠ g.pa := fun a s => ⟨sr_al r s, s.2⟩
  exact br.rt v H1 d ⟨r.fr.trans A.fr, A.rep.mono up, fun q => fsh_up (fun a n e => r.fr.back n e) pb up (A.fsh (hf q))⟩ A.pb (outX_real A.rep z)
def mSetX (md : Md) (i : Nat) (ma : ME) : MS := fun M env => ma env (outX M env fun d => mPut md i d env M.nx)
theorem vs_setX (md : Md) {i : Nat} {x : Str} {p : Pos} (h : VX g X W e ma R c f) (hp : ∀ {t : TE}, PE X e t → PS X (.Assign [.Name x p] e pos) (tAsg t (gName i))) (ok : okBy md i own R f = true) : VS g rk (some W) ol X (.Assign [.Name x p] e pos) (mSetX md i ma) own (ownBy md i own) c := by
  obtain ⟨t, p, k⟩ := h
  refine ⟨_, hp p, fun H0 A0 gs σ H env S B M D' r pb hb hm br => k σ H env S B _ _ r.rl pb hb hm (fun v H1 d A z => ?_) fun k v en cls d H' fr pb2 x z => exf_br r br fr pb2 x z⟩
  obtain ⟨S', P', q⟩ := (r.pst A.fr).put md r Fr.refl A pb Fr.refl ok (outX_real A.rep z)
  exact br.nx _ _ _ _ P'.rs A.pb q
/-! ### try -/
theorem Rs.drop1 {H0 H : Hp} {A0 : Addr → Prop} {gs : Gh} {σ : L2.St} {env : Env} {S : SS} (r : Rs g H0 A0 [] gs σ H env S) (i : Nat) : Rs g H0 A0 [] gs (σ.set i none) H (env.set i none) S := by
  refine ⟨⟨by rw [List.length_set, List.length_set, r.rl.len], fun j d e => ?_, r.rl.dom⟩, r.fr, r.al, r.gh, fun j hj => nomatch hj⟩
  by_cases h : j = i
  · subst h
    by_cases hl : j < env.length
    · rw [List.getElem?_set_self hl] at e
      cases e
    · rw [List.getElem?_eq_none_iff.mpr (by rw [List.length_set]; omega)] at e
      cases e
  · rw [List.getElem?_set_ne (Ne.symm h)] at e
    obtain ⟨v, h1, h2⟩ := r.rl.rep j d e
    exact ⟨v, by rw [List.getElem?_set_ne (Ne.symm h)]; exact h1, h2⟩
def mSuite (i : Nat) (M : MEnds) : MEnds := ⟨fun e => M.nx (e.set i none), M.rt, fun e => M.bk (e.set i none), fun e => M.ct (e.set i none)⟩
/-- try: mb / except C as n: su; hit tells which classes the clause takes; no other error may come -/
def mTry (i : Nat) (hit : Nat → Bool) (mb : MS) (su : Nat → Addr → Addr → MS) : MS := fun M env => mb ⟨M.nx, fun d => match d with
  | .exo k v en => hit k = true ∧ ∀ a da, su k a da (mSuite i M) (en.set i (some (.err a da v)))
  | d => M.rt d, M.bk, M.ct⟩ env
/-- what must hold so that mb does what it promises, told for any wish -/
def tsOf (g : Gm) (rk : Bool) (xw : Option WX) (ol : List Nat) (m : MS) (own own' : List Nat) (c : Nat) : TS := fun D' σ H => ∃ H0 A0 gs env S B M, Rs g H0 A0 own gs σ H env S ∧ PB g B H ∧ B + c ≤ Bmax ∧ m M env ∧ Br g rk xw ol H0 A0 gs own' (B + c) M D'
theorem vb_pss {b : List Stmt} (h : VB g rk xw ol X b m own own' c) : PSs X b (tsOf g rk xw ol m own own' c) :=
  ⟨fun pins s σ H D' I ⟨H0, A0, gs, env, S, B, M, h1, h2, h3, h4, h5⟩ => by
    obtain ⟨t, p, k⟩ := h
    exact p.run pins s σ H D' I (k H0 A0 gs σ H env S B M D' h1 h2 h3 h4 h5)⟩
theorem vs_try {i : Nat} {x nm : Str} {cv : Value} {hit : Nat → Bool} {su : Nat → Addr → Addr → MS} {body suite : List Stmt} {b₀ : Stmt} {np pos' : Pos} {cs : Nat} (hs : X.stack = X.env :: X.outer) (hf : X.env.frame = some X.env.locals) (hN : X.N.Nodup) (hi : X.N[i]? = some nm) (hln : X.env.kindOf nm = some .local) (hc : Names X x cv)
    (hb : ∀ (W : WX) (pn : List (Addr × Obj)) (xe : Value → Shared → Prop), Takes (X.tr pn xe) W → PassesOwn (model X.prog X.w) X.A X.env xe → VB g rk (some W) [] (X.tr pn xe) body m [] [] c)
    (hsu : ∀ (k : Nat) (a da : Addr) (oe : Obj) (pn : List (Addr × Obj)), Zc (.ref (g.C.xc k)) (some da) oe → (∃ vs, oe.data = .fields vs) → VB g rk none [] (X.suite a ((a, oe) :: pn)) (b₀ :: suite) (su k a da) [] [] cs)
    (hx : ∀ k, PySem.W.exmOne X.K (.ref (g.C.xc k)) cv = some (hit k)) :
    VS g rk xw [] X (.Try body [.ExceptHandler (some (.Name x np)) (some nm) (b₀ :: suite) pos'] [] [] pos) (mTry i hit m su) [] [] (c + cs) := by
  refine ⟨_, ps_try_as (i := i) (tb := fun W => tsOf g rk (some W) [] m [] [] c) (ts := fun a cls d D' σ H => ∃ k da, cls = .ref (g.C.xc k) ∧ d = some da ∧ tsOf g rk none [] (su k a da) [] [] cs D' σ H) hs hf hN hi hln hc takes0 (fun W pn xe tk po => vb_pss (hb W pn xe tk po)) (fun a oe cls d pn hz hd => ?_), fun H0 A0 gs σ H env S B M D' r pb hbm hm br => ?_⟩
  · refine ⟨fun pins s σ H D' I ⟨k, da, e1, e2, h⟩ => ?_⟩
    subst e1
    subst e2
    exact (vb_pss (hsu k a da oe pn hz hd)).run pins s σ H D' I h
  refine ⟨H0, A0, gs, env, S, B, _, r, pb, by omega, hm, ⟨fun σ' H' env' S' r' p' q => br.nx σ' H' env' S' r' (p'.mono (by omega)) q, fun v H' d r' p' q => ?_, fun σ' H' env' S' r' p' q => br.bk σ' H' env' S' r' (p'.mono (by omega)) q, fun σ' H' env' S' r' p' q => br.ct σ' H' env' S' r' (p'.mono (by omega)) q, fun W e σ' H' env' S' k v cls d r' p' x q => ?_⟩⟩
  · refine br.rt v H' d r' (p'.mono (by omega)) ?_
    have rep := r'.rep
    cases rep <;> exact q
  · cases e
    obtain ⟨hit1, q⟩ := q
    obtain ⟨da, u, e1, e2, e3, e4, e5, e6⟩ := x
    subst e1
    subst e2
    refine ⟨hit k, hx k, fun _ a na => ⟨k, da, rfl, rfl, ?_⟩, fun z => by rw [hit1] at z; cases z⟩
    have ne : H' da ≠ none := by rw [e3]; exact fun z => nomatch z
    have rp : Rep g (fun y => y = da ∨ ((H0 y = none ∨ A0 y) ∧ H' y ≠ none ∧ some y ≠ g.pa)) H' (.ref a) (.err a da v) := .err (.inl rfl) e3 (e6.mono fun y s => .inr s)
    refine ⟨H0, A0, gs, _, _, B + c, mSuite i M, r'.put (i := i) (own' := []) rp (fun y s => ?_) (fun j hj => nomatch hj) (fun j hj => nomatch hj) (fun hj => nomatch hj), p', by omega, q a da, ⟨fun σ2 H2 env2 S2 r2 p2 q2 => br.nx _ _ _ _ (r2.drop1 i) (p2.mono (by omega)) q2, fun v2 H2 d2 r2 p2 q2 => br.rt _ _ _ r2 (p2.mono (by omega)) q2, fun σ2 H2 env2 S2 r2 p2 q2 => br.bk _ _ _ _ (r2.drop1 i) (p2.mono (by omega)) q2, fun σ2 H2 env2 S2 r2 p2 q2 => br.ct _ _ _ _ (r2.drop1 i) (p2.mono (by omega)) q2, fun _ e => nomatch e⟩⟩
    rcases s with rfl | s
    · exact ⟨⟨ne, e5⟩, .inl e4⟩
    · exact ⟨s.2, s.1⟩
/-! ### in the suite: e.value, isinstance(e, ..) -/
def mErrV (i : Nat) (a da : Addr) : ME := fun env Q => match env[i]? with
  | some (some (.err a' d' v)) => (a' = a ∧ d' = da) ∧ Q v
  | _ => False
theorem ve_errv {C a da : Addr} {oe : Obj} {pn : List (Addr × Obj)} (i : Nat) (hp : PE (X.suite a ((a, oe) :: pn)) e (tVar i)) (T : XfC X.K C) (hno : PySem.W.findIn X.K (.ref C) "value" = some none) (hz : Zc (.ref C) (some da) oe) (hf : ∃ vs, oe.data = .fields vs)
    (hb : attributeBase e "value" X.env (eval e X.env) = eval e X.env := by rfl) : VE g (X.suite a ((a, oe) :: pn)) (.Attribute e "value" pos) (mErrV i a da) [i] 0 false := by
  refine ⟨_, pe_xf T hno hz hf hp hb, fun σ H env S B Qd Q rl pb hbm hm k => ?_⟩
  unfold mErrV at hm
  split at hm
  · rename_i a' d' v e1
    obtain ⟨⟨rfl, rfl⟩, hm⟩ := hm
    obtain ⟨w, h1, h2⟩ := rl.rep i _ e1
    cases h2 with
    | err s1 s2 s3 =>
      refine ⟨_, h1, rfl, rfl, d', _, _, rfl, s2, rfl, k _ H v ⟨Fr.refl, pb, ?_, fun q => nomatch q⟩ hm⟩
      exact s3.mono fun y s => ⟨.inr ⟨i, by simp, s⟩, rl.dom i y s⟩
  · exact hm.elim
/-- isinstance of the error at hand -/
def mIsE (i : Nat) (a : Addr) (b : Bool) : ME := fun env Q => match env[i]? with
  | some (some (.err a' _ _)) => a' = a ∧ Q (.bl b)
  | _ => False
end
end VL

set_option Elab.async false
set_option linter.all false
set_option maxRecDepth 100000
set_option maxHeartbeats 4000000
/-! VL, part v: errors of classes over one base whose __init__ says super().__init__(value), self.value = value: made, asked. -/
namespace VX
open PySem PySem.W PySem.Calls PyProof.Rows PySem.HandSPX
/-- what the text of __init__ is -/
structure InitText (st : Stmt) : Prop where
  bd : ∃ p0 p1 p2 p3 p4 p5 q1 q2 q3 q4 : Pos, L2.defBody st = [.Expr (.Call (.Attribute (.Call (.Name "super" p0) [] [] p1) "__init__" p2) [.Name "value" p3] [] p4) p5, .Assign [.Attribute (.Name "self" q1) "value" q2] (.Name "value" q3) q4] ∧
    ∀ env : Env, ∃ pl : Sem Bool, eval (.Call (.Attribute (.Call (.Name "super" p0) [] [] p1) "__init__" p2) [.Name "value" p3] [] p4) env = (do
      let ov ← attributeBase (.Call (.Name "super" p0) [] [] p1) "__init__" env (eval (.Call (.Name "super" p0) [] [] p1) env)
      standAt p2.atName
      let (f, first) ← holding [ov] (getMethod ov "__init__" pl)
      callWith p4 f first (backTo p4 (starEach [.Name "value" p3] env)) [])
  hs : (L2.defScope st).names.lookup ("super" : Str) = some .globalImplicit
  hc : (L2.defScope st).names.lookup ("__class__" : Str) = some .free
  hself : (L2.defScope st).names.lookup ("self" : Str) = some .local
  hval : (L2.defScope st).names.lookup ("value" : Str) = some .local
  hk : (L2.defScope st).kind = .function
  hco : (L2.defScope st).isCoroutine = false
  hgen : (L2.defScope st).isGenerator = false
  hcell : ∀ x ∈ (L2.defScope st).names, x.2 ≠ .cell
  hp : ∃ ar : Arg, ((L2.defArgs st).posonlyargs ++ (L2.defArgs st).args).head? = some ar ∧ ar.arg = "self"
  hb : ∀ (kV doc pm : Value) (an : Option Addr) (cdv ct : Value) (cc : Addr) (u v : Value), bindArgs (ksFn "__init__" "NeedleError.__init__" (L2.defArgs st) (L2.defBody st) (L2.defScope st) .none kV doc pm an cdv ct cc) ⟨[u, v], []⟩ = pure [(("self" : Str), u), (("value" : Str), v)]
/-- what the written part says of the base class and its __init__ -/
structure SupTxt (K : Frag) (prog : Program) (mg : Str → Option Value) (st : Stmt) (D fI : Addr) : Prop where
  tx : InitText st
  mS : mg "super" = none
  noA : nsIn K cStatics "thirdparty.any" = some none
  tI : typeIn K (.ref fI) = some (.type "function")
  fn : ∃ (oc : Value) (od : Option Addr) (kV doc pm : Value) (an : Option Addr) (ct : Value) (osl : Array (Option Value)) (cc cda : Addr) (ccl : Value) (cdd : Option Addr) (vs : Array Value) (ccs : Array (Option Value)) (file : Str) (tf : Tok) (cl : Value) (cld : Option Addr) (csl : Array (Option Value)),
    K.lookup fI = some ⟨oc, od, .func (ksFn "__init__" "NeedleError.__init__" (L2.defArgs st) (L2.defBody st) (L2.defScope st) .none kV doc pm an (.ref cda) ct cc), osl⟩ ∧ codeIn K (.ref cda) "NeedleError.__init__" = true ∧
      K.lookup cda = some ⟨ccl, cdd, .fields vs, ccs⟩ ∧ vs[2]? = some (.str file tf) ∧ ((prog.main.file : Str) == file) = true ∧ K.lookup cc = some ⟨cl, cld, .cell (some (.ref D)), csl⟩
  clD : (clsIn K D).isSome = true
  top : (prog.main.scope.names.lookup ("super" : Str)).isSome = false
/-- what it says of a class of errors -/
structure XcTxt (K : Frag) (C D fI : Addr) : Prop where
  cls : ∃ nm q N bs bm sn sub ab col dd k0 k1 k2 k3 k5, K.lookup C = some (excClassObj nm q C N bs bm true sn sub ab col dd k0 k1 k2 k3 k5 "ValueError.__new__") ∧ refsVE bm = true
  sa : findIn K (.ref C) "__setattr__" = some (some (.builtin "object.__setattr__"))
  ga : findIn K (.ref C) "__getattribute__" = some (some (.builtin "BaseException.__getattribute__"))
  gg : findIn K (.ref C) "__getattr__" = some none
  noN : findIn K (.ref C) "value" = some none
  iC : findIn K (.ref C) "__init__" = some (some (.ref fI))
  kC : keepIn K (.ref C) = true
  exC : subIn K (.ref C) (.type "BaseException") = some true
  tyC : typeIn K (.ref C) = some (.type "type")
  hdC : hasDictIn K C = true
  sub : mroIn K C (.ref D) = some true
  sup : ks_superIn K C D "__init__" = some (some (.builtin "ValueError.__init__"))
  sVE : subIn K (.ref C) (.type "ValueError") = some true
structure InitEnd (h h' : Heap) (x C dx t1 : Addr) (v : Value) : Prop where
  keep : ∀ b o, b ≠ x → h.get? b = some o → h'.get? b = some o
  obj : h'.get? x = some { cls := .ref C, dict := some dx, data := .fields #[.ref t1, .none, .none, .none, .bool false, .none] }
  dbig : h.objs.size ≤ dx
  dne : dx ≠ x
  ns : h'.Ns1 dx (fun y => if y = "value" then some v else none)
structure Made (h h' : Heap) (e C d : Addr) (v : Value) : Prop where
  keep : ∀ b o, h.get? b = some o → h'.get? b = some o
  new : h.objs.size ≤ e
  obj : ∃ oe vs, h'.get? e = some oe ∧ oe.cls = .ref C ∧ oe.dict = some d ∧ oe.data = .fields vs ∧ vs[1]? = some .none
  dbig : h.objs.size ≤ d
  dne : d ≠ e
  ns : h'.Ns1 d (fun y => if y = "value" then some v else none)
section
variable {prog : Program} {w : World} {A : Around} {E : Value → Shared → Prop} {R : Result → Shared → Prop} {s : Shared} {K : Frag} {mg mb : Str → Option Value} {C D fI : Addr} {st : Stmt}
theorem one_size (v : Value) : [v].length ≤ sizeLine := by
  rw [sizeLine_eq]
  exact (by decide : 1 ≤ 16777216)
theorem own_init (T : SupTxt K prog mg st D fI) (TC : XcTxt K C D fI) {x t0 : Addr} {v : Value} (X : K.In s.heap) (hlim : s.heap.NoLimit) (hg : s.heap.Ns mainGlobals mg) (hbn : s.heap.Ns builtinsNs mb) (hmb : mb "super" = some (.type "super"))
    (hx : s.heap.get? x = some (excO C t0)) (hnx : K.lookup x = none) (hroom : A.depth < recursionLimit)
    (hq : ∀ h' tk dx t1, InitEnd s.heap h' x C dx t1 v → R (.ok (.ret .none)) { s with heap := h', toks := tk }) :
    codeAny (model prog w) A (.call (.ref fI) ⟨[.ref x, v], []⟩) R s := by
  obtain ⟨oc, od, kV, doc, pm, an, ct, osl, cc, cda, ccl, cdd, vs, ccs, file, tf, cl, cld, csl, ho, hcd, hcode, hvs, hfile, hcell⟩ := T.fn
  obtain ⟨nm, q, N, bs, bm, sn, sub, ab, col, dd, k0, k1, k2, k3, k5, hC, hbm⟩ := TC.cls
  have hcl : clsIn K C = some { name := nm, bases := bs, mro := .ref C :: bm, ns := N, qualname := q, hasDict := true, slotNames := sn, subclasses := sub, abstract := ab, collection := col, hasDel := false } := by unfold clsIn; rw [hC] <;> rfl
  obtain ⟨p0, p1, p2, p3, p4, p5, q1, q2, q3, q4, hbd, hev⟩ := T.tx.bd
  obtain ⟨ar, har, harg⟩ := T.tx.hp
  have Tx := T.tx
  refine ks_codeAny_call_defAt (fd := ksFn "__init__" "NeedleError.__init__" (L2.defArgs st) (L2.defBody st) (L2.defScope st) .none kV doc pm an (.ref cda) ct cc) (body := L2.defBody st) (binds := [("self", .ref x), ("value", v)]) hroom (X _ _ ho) rfl hlim (codeRec_of X hcd) rfl (BindsTo.of_eq (Tx.hb _ _ _ _ _ _ _ _ _)) Tx.hcell (fun y hy => ?_) (fun h₁ hns k => ?_) Tx.hco Tx.hgen Tx.hk
  · rcases List.mem_cons.mp hy with rfl | hy
    · exact Tx.hself
    · rcases List.mem_cons.mp hy with rfl | hy
      · exact Tx.hval
      · cases hy
  have X₁ : K.In h₁ := X.keeps k
  have hx₁ := k _ _ hx
  have hxL : s.heap.objs.size ≠ x := Nat.ne_of_gt (Heap.lt_size hx)
  have hL : s.heap.objs.size < h₁.objs.size := hns.lt
  have mself : (fun y => List.lookup y [(("self" : Str), Value.ref x), ("value", v)].reverse) "self" = some (.ref x) := rfl
  have mval : (fun y => List.lookup y [(("self" : Str), Value.ref x), ("value", v)].reverse) "value" = some v := rfl
  obtain ⟨oD, cdD, hD0, hD1'⟩ : ∃ oD, ∃ cdD, K.lookup D = some oD ∧ oD.data = .cls cdD := by
    obtain ⟨cdD, e⟩ := Option.isSome_iff_exists.mp T.clD
    unfold clsIn at e
    split at e
    · rename_i h
      exact ⟨_, _, h, rfl⟩
    · cases e
  rw [hbd]
  -- super().__init__(value)
  obtain ⟨pl, hev⟩ := hev (callEnv (ksFn "__init__" "NeedleError.__init__" (L2.defArgs st) (L2.defBody st) (L2.defScope st) .none kV doc pm an (.ref cda) ct cc) s.heap.objs.size fI)
  rw [hbd] at hev
  have hint : interactive (callEnv (ksFn "__init__" "NeedleError.__init__" (L2.defArgs st) (L2.defBody st) (L2.defScope st) .none kV doc pm an (.ref cda) ct cc) s.heap.objs.size fI) = false := by
    unfold interactive
    simp [callEnv, newEnv, Tx.hk]
  rw [hbd] at hint
  refine ks_wpAt_execs_cons (ks_wpAt_Expr_any (ks_wpAt_MethodCall (pl := pl) ?_ hev) hint)
  have ho' := X₁ _ _ ho
  rw [hbd] at ho'
  refine ks_wpAt_super_base Tx.hs Tx.hc (by decide +kernel) rfl ho' rfl har rfl (X₁ _ _ hcode) rfl hvs hfile T.top ?_
  refine ks_loadName_global Tx.hk Tx.hs (loadGlobal_builtin (hg.keeps k) T.mS (hbn.keeps k) hmb ⟨rfl, ?_⟩)
  refine wpAny_loadName_free Tx.hk Tx.hc rfl ⟨_, X₁ _ _ hcell, rfl⟩ ?_
  rw [harg]
  refine wpAny_loadName_local Tx.hk Tx.hself hns mself ?_
  refine ks_wpAny_isType_cls (X₁ _ _ hD0) hD1' ⟨rfl, ?_⟩
  refine ks_wpAny_call_super (X₁ _ _ hD0) hD1' hx₁ rfl (fun c e => nomatch e) (looks_mroIn X₁ TC.sub) (fun h₂ e2 k2 => ?_)
  -- its __init__, bound
  have X₂ : K.In h₂ := X₁.keeps k2
  have hx₂ := k2 _ _ hx₁
  have hm := TC.sup
  unfold ks_superIn at hm
  rw [hcl] at hm
  have I₂ : InstAt h₂ x (excO C t0) C none := ⟨hx₂, rfl, rfl, trivial⟩
  refine kxs_getMethod kxs_ValueError e2 (looks_opaque X₂ T.noA) (l₀ := .ref C :: bm) ?_ rfl X₂ hm (I₂.type.andThen (looks_subIn X₂ TC.sVE)) (ks_ne X₂ I₂ hcl) (by decide +kernel) ?_
  · exact fun A Q E s k q => wpAny_bind ((looks_clsIn X₂ hcl) A _ E s k (wpAny_pure q))
  have k3 : ∀ b o, h₂.get? b = some o → (h₂.push (kxs_mw "ValueError.__init__" x)).get? b = some o := fun b o e => Heap.get?_push_of_some _ e
  have hu : (h₂.push (kxs_mw "ValueError.__init__" x)).get? h₂.objs.size = some (kxs_mw "ValueError.__init__" x) := Heap.get?_push_at rfl rfl
  have hns₃ := (hns.keeps k2).keeps k3
  refine kxs_callWith (i := "ValueError.__init__") (x := x) (by rfl) ?_
  show wpAny _ _ (evalArgs _ _ (backTo p4 (starEach [Expr.Name "value" p3] _)) []) _ _ _
  refine evalArgs_plain ?_
  refine Calls.spliced_cons ?_
  refine wpAny_Name (wpAny_loadName_local Tx.hk Tx.hval hns₃ mval ?_) (by decide +kernel)
  refine Calls.spliced_nil ⟨hu, ?_⟩
  show wpAny _ _ (call (.ref h₂.objs.size) [v]) _ _ _
  refine wpAny_call (codeAny_of_tree ?_)
  show wpAny _ _ (callAny (.ref h₂.objs.size) ⟨[v], []⟩) _ _ _
  simp only [callAny]
  refine wpAny_bind (wpAny_load hu ?_)
  simp only [kxs_mw, show (Value.type "method-wrapper" == Value.type "method" || Value.type "method-wrapper" == Value.type "builtin_function_or_method" || Value.type "method-wrapper" == Value.type "method-wrapper") = true by decide, if_true]
  refine KFB.if_so (by decide) ?_
  have X₃ : K.In (h₂.push (kxs_mw "ValueError.__init__" x)) := X₂.keeps k3
  have hx₃ := k3 _ _ hx₂
  refine wpAny_bind (check_bound_init F.excBase_ValueError.toExcCallFacts (X₃ _ _ hC) hx₃ rfl ?_)
  refine wpAny_bind (wpAny_pure (wpAny_pure ?_))
  refine ⟨plainId_quiet F.excBase_ValueError.init.plain _, codeAny_builtin F.excBase_ValueError.initEntry ?_⟩
  refine exc_init_tree (cls := .ref C) (t0 := t0) (dv := none) (c2 := .none) (c3 := .none) (b4 := .bool false) hx₃ (one_size v) (fun h₄ k4 hx₄ ht₄ => ?_)
  -- self.value = value
  have xL : s.heap.objs.size ≠ x := hxL
  have hns₄ : h₄.Ns s.heap.objs.size (fun y => List.lookup y [(("self" : Str), Value.ref x), ("value", v)].reverse) := by
    obtain ⟨oL, es, ep, e, r⟩ := hns₃
    exact ⟨oL, es, ep, k4 _ _ xL e, r⟩
  have X₄ : K.In h₄ := fun b o e => k4 b o (fun z => by rw [z, hnx] at e; cases e) (X₃ b o e)
  show PySem.wpAt _ _ _ (execs _ _) _ _ _
  refine wpAt_of_wpAny (wpAny_execs_cons (plainObj_wpAny_Assign_Attribute ?_))
  refine wpAny_Name (wpAny_loadName_local Tx.hk Tx.hval hns₄ mval ?_) (by decide +kernel)
  refine wpAny_Name (wpAny_loadName_local Tx.hk Tx.hself hns₄ mself ?_) (by decide +kernel)
  refine set_plain X₄ (ox := excO C (h₂.push (kxs_mw "ValueError.__init__" x)).objs.size) (od := none) ⟨hx₄, rfl, rfl, trivial⟩ TC.sa ?_
  refine exc_osa X₄ hx₄ hcl (show refsVE (.ref C :: bm) = true from hbm) rfl TC.noN (fun h₅ tk₅ dx k₅ dn dne hx₅ hn₅ => ?_)
  show wpAny _ _ (execs _ _) _ _ _
  have z4 : (h₂.push (kxs_mw "ValueError.__init__" x)).objs.size ≤ h₄.objs.size := Nat.le_of_lt (Heap.lt_size ht₄)
  have z3 : h₂.objs.size ≤ (h₂.push (kxs_mw "ValueError.__init__" x)).objs.size := by rw [Heap.size_push]; exact Nat.le_succ _
  have z2 : h₁.objs.size ≤ h₂.objs.size := Nat.le_of_lt (Heap.lt_size e2)
  have dn' : h₄.objs.size ≤ dx := dn
  exact wpAny_execs_nil (hq h₅ tk₅ dx _ ⟨fun b o hb e => k₅ b o hb (k4 b o hb (k3 _ _ (k2 _ _ (k b o e)))), hx₅, by omega, dne, hn₅⟩)
theorem own_made (T : SupTxt K prog mg st D fI) (TC : XcTxt K C D fI) {v : Value} (X : K.In s.heap) (hlim : s.heap.NoLimit) (hg : s.heap.Ns mainGlobals mg) (hbn : s.heap.Ns builtinsNs mb) (hmb : mb "super" = some (.type "super")) (hroom : A.depth + 1 < recursionLimit)
    (hq : ∀ h' tk e d, Made s.heap h' e C d v → R (.ok (.ret (.ref e))) { s with heap := h', toks := tk }) :
    codeAny (model prog w) A (.call (.ref C) ⟨[v], []⟩) R s := by
  obtain ⟨nm, q, N, bs, bm, sn, sub, ab, col, dd, k0, k1, k2, k3, k5, hC, hbm⟩ := TC.cls
  obtain ⟨hp, g, dr, tk, os⟩ := s
  have k : ∀ b o, hp.get? b = some o → ((hp.push (kdv_tup [v])).push (excO C hp.objs.size)).get? b = some o := fun b o e => Heap.get?_push_of_some _ (Heap.get?_push_of_some _ e)
  have hget : ((hp.push (kdv_tup [v])).push (excO C hp.objs.size)).get? (hp.objs.size + 1) = some (excO C hp.objs.size) := by heap_get
  have hnx : K.lookup (hp.objs.size + 1) = none := by
    cases e : K.lookup (hp.objs.size + 1) with
    | none => rfl
    | some o =>
      have z : hp.get? (hp.objs.size + 1) = some o := X _ _ e
      exact absurd (Nat.lt_of_succ_lt (Heap.lt_size z)) (Nat.lt_irrefl _)
  refine call_own F.excBase_ValueError (fun X => refsVE_contains X bm hbm) (X _ _ hC) (looks_findIn X TC.iC) (fun self => bind_fn X self T.tI) (one_size v) ?_
  refine own_init (s := ⟨(hp.push (kdv_tup [v])).push (excO C hp.objs.size), g, dr, tk, os⟩) T TC (X.keeps k) (hlim.keeps k) (hg.keeps k) (hbn.keeps k) hmb hget hnx ?_ fun h' tk' dx t1 ⟨k', hx, dn, dne, hns⟩ => ?_
  · show A.depth + 1 < recursionLimit
    exact hroom
  · have old : ∀ b o, hp.get? b = some o → h'.get? b = some o := fun b o e => k' b o (Nat.ne_of_lt (Nat.lt_succ_of_lt (Heap.lt_size e))) (k b o e)
    have z : hp.objs.size + 1 + 1 ≤ dx := by
      first
        | (simpa only [Heap.size_push] using dn)
        | exact dn
        | (have q := dn; rw [Heap.size_push, Heap.size_push] at q; exact q)
    exact ⟨rfl, hq h' tk' (hp.objs.size + 1) dx ⟨old, Nat.le_succ _, ⟨_, _, hx, rfl, rfl, rfl, rfl⟩, Nat.le_trans (Nat.le_trans (Nat.le_succ _) (Nat.le_succ _)) z, dne, hns⟩⟩
end
end VX
namespace VL
open PySem PySem.Spec PyProof.Rows L2
theorem relO_val {v : V} {v' : Value} (r : RelV v v') (f : Str) : RelO (List.lookup f [(("value" : Str), v)]) (if f = "value" then some v' else none) := by
  by_cases hw : f = "value"
  · subst hw
    rw [if_pos rfl]
    have q : List.lookup ("value" : Str) [(("value" : Str), v)] = some v := by simp [List.lookup]
    rw [q]
    exact r
  · rw [if_neg hw]
    have qw : (f == ("value" : Str)) = false := by simpa using hw
    have q2 : List.lookup f [(("value" : Str), v)] = none := by simp [List.lookup, qw]
    rw [q2]
    trivial
section
variable {X : Cx} {C D fI : Addr} {st : Stmt} {mg : Str → Option Value}
/-- C(e), C a class of errors; what is called: a call by a name, whose arguments are the one value e -/
theorem pmk_val {a : Expr} {x : Str} {ta : TE} {p pos : Pos} {k : Nat} (T : VX.SupTxt X.K X.prog X.mg st D fI) (TC : VX.XcTxt X.K C D fI) (hm : X.mg x = some (.ref C)) (hr : Room k X.A) (hg : Gl X x) (hdb : (x == ("__debug__" : Str)) = false) (ha : PE X a ta)
    (he : starEach (a :: []) X.env = (false, eval a X.env) :: starEach [] X.env) (hpl : (backTo pos (starEach [] X.env)).any (·.1) = false) :
    PMk X (.Call (.Name x p) [a] [] pos) (tMkX C ta) := by
  intro pins s σ H Q I h
  refine wpAny_Call_Name_kw (ld_glob I hg hm ?_ hdb)
  refine PySem.W.callWith_K (h₀ := X.base) I.ok.mod.kin TC.kC ?_ he hpl
  rw [he]
  show wpAny _ _ (spliced ((false, eval a X.env) :: backTo pos (starEach [] X.env))) _ _ s
  refine Calls.spliced_cons (thn (ha.run pins s σ H _ I h) fun u s1 ⟨v, H1, I1, r1, q1⟩ => ?_)
  refine Calls.spliced_nil ⟨I1.kIn, ?_⟩
  show wpAny _ _ (call (.ref C) [u]) _ _ _
  have hlim := I1.nolimit
  obtain ⟨mb, hb1, hb2⟩ := I1.ok.mod.blt
  have hmb : mb "super" = some (.type "super") := (hb2 _ (by decide +kernel)).trans (by first | rfl | kernel_rfl)
  have hgl := I1.ok.mod.glob.keeps I1.bk
  have hbl := hb1.keeps I1.bk
  have hin := I1.kIn
  obtain ⟨hp, g, dr, tk, os⟩ := s1
  refine wpAny_call (VX.own_made T TC hin hlim hgl hbl hmb (by have := hr.dp; omega) fun h' tk' e d M => ?_)
  show MkP X pins σ Q (.ref e) ⟨h', g, dr, tk', os⟩
  obtain ⟨oe, fv, hoe, hc, hd, hdat, h1⟩ := M.obj
  have hns := M.ns
  obtain ⟨G', g1, g2⟩ := restrict h' fun b => decide (b ≠ e)
  have gk : ∀ b, b ≠ e → G'.get? b = h'.get? b := fun b hb => g1 b (decide_eq_true hb)
  have ge : G'.get? e = none := g2 e (by simp)
  have old : ∀ b o, hp.get? b = some o → G'.get? b = some o := fun b o q => (gk b (Nat.ne_of_lt (Nat.lt_of_lt_of_le (Heap.lt_size q) M.new))).trans (M.keep b o q)
  have ob : ObjOk X.prog X.w (upd H1 d (.xd [(("value" : Str), v)])) G' d (.xd [(("value" : Str), v)]) :=
    ⟨_, hns.at (fun o q => (gk d M.dne).trans q), fun f => relO_val r1 f⟩
  have J : Inv X pins σ (upd H1 d (.xd [(("value" : Str), v)])) ⟨G', g, dr, tk', os⟩ := I1.laid (t' := tk') old M.dbig ob
  refine ⟨e, oe, fv, ⟨G', g, dr, tk', os⟩, _, .ref C, some d, rfl, J, fun b o q => ?_, ge, hoe, ⟨hc, hd⟩, hdat, h1, ?_, rfl, I1.bare, raises_own TC.exC TC.tyC, q1 d (I1.hok.fresh M.dbig)⟩
  · by_cases hb : b = e
    · have q' : G'.get? b = some o := q
      rw [hb, ge] at q'; cases q'
    · exact (gk b hb).symm.trans q
  · rw [upd_ne (Ne.symm M.dne)]
    exact I1.hok.fresh M.new
/-! ### isinstance of a caught error -/
/-- e, c: c a class, or a tuple of classes -/
def rIsX (K : PySem.W.Frag) (C a : Addr) : List V → Hp → VK → Prop := fun xs H Q => ∃ (c : V) (b : Bool), xs = [.ref a, c] ∧ ((∀ u, RelV c u → PySem.W.kitOne K (.ref C) u = some b) ∨ ∃ (p : Addr) (cs : List V), c = .ref p ∧ H p = some (.tup cs) ∧ ∀ us, Vals cs us → PySem.W.kitAny K (.ref C) us = some b) ∧ Q (.bl b) H
/-- facts of object's __class__ -/
structure KitO (K : PySem.W.Frag) (C : Addr) : Prop where
  ha : PySem.W.findIn K (.ref C) "__class__" = some (some (.builtin "object.__class__"))
  hn : PySem.W.specialIn K (.builtin "object.__class__") "__get__" = some (some (.builtin "getset_descriptor.__get__"))
  ht : PySem.W.takesIn K (.builtin "object.__class__") = some true
  hm : PySem.W.mroIn K C (.type "object") = some true
theorem call_isX {a da : Addr} {oe : Obj} {pn : List (Addr × Obj)} (TC : VX.XcTxt X.K C D fI) (KO : KitO X.K C) (hz : Zc (.ref C) (some da) oe) (hf : ∃ vs, oe.data = .fields vs) : CallR (X.suite a ((a, oe) :: pn)) (.builtin "isinstance") (fun xs H Q => (∃ fs, H da = some (.xd fs)) ∧ rIsX X.K C a xs H Q) := by
  intro pins s σ H xs us Q I r h
  obtain ⟨⟨fs, hda⟩, c, b, rfl, hcv, q⟩ := h
  obtain ⟨u1, u2, rfl, r1, r2⟩ := vals2 r
  cases (show u1 = Value.ref a from r1)
  obtain ⟨hget, _⟩ := I.pin (a, oe) (List.mem_append.mpr (.inl List.mem_cons_self))
  obtain ⟨vs, hv⟩ := hf
  have hx : ObjOk X.prog X.w H s.heap da (.xd fs) := I.hok da _ hda
  obtain ⟨mA, hns, hr⟩ := hx
  obtain ⟨od, ho, hl⟩ := lookIn_ns hns
  have hcl : (PySem.W.clsIn X.K C).isSome = true := by
    obtain ⟨cd, hc, _⟩ := PySem.W.any_some TC.hdC
    rw [hc]
    rfl
  have J : PySem.W.InstAt s.heap a oe C (some od) := ⟨hget, hz.1, by unfold PySem.W.notCls; rw [hv] <;> rfl, by rw [hz.2]; exact ho⟩
  have Z := PySem.W.kitx_exc (x := a) (ox := oe) (od := some od) hcl TC.ga TC.gg TC.exC KO.ha KO.hn KO.ht KO.hm
  rcases hcv with hcv | ⟨p, cs, rfl, hp, hcs⟩
  · exact PySem.W.kia_one Z I.kIn J (hcv _ r2) (fun z => nomatch z) fun tk => ⟨.bl b, H, I.tok tk, rfl, q⟩
  · cases (show u2 = Value.ref p from r2)
    obtain ⟨_, its, rv, o, h1, h2, n, h3⟩ := (show ObjOk X.prog X.w H s.heap p (.tup cs) from I.hok p _ hp)
    obtain ⟨oc, od', dt, sl⟩ := o
    simp only at h2 h3
    subst h2 h3
    exact PySem.W.kia_tup Z I.kIn J h1 (hcs _ rv) (fun z => nomatch z) fun tk => ⟨.bl b, H, I.tok tk, rfl, q⟩
end
end VL

set_option Elab.async false
set_option linter.all false
set_option maxRecDepth 100000
set_option maxHeartbeats 4000000
/-! VL, part w: isinstance of a caught error; constants of the module. -/
namespace VL
theorem cls_some {K : PySem.W.Frag} {C : PySem.Addr} (h : PySem.W.hasDictIn K C = true) : (PySem.W.clsIn K C).isSome = true := by
  obtain ⟨cd, hc, _⟩ := PySem.W.any_some h
  rw [hc]
  rfl
open PySem PySem.Spec PyProof.Rows L2
/-- isinstance of the error at hand: the answer is b -/
def mIsX (i : Nat) (a da : Addr) (b : Bool) : ME := fun env Q => match env[i]? with
  | some (some (.err a' d' _)) => (a' = a ∧ d' = da) ∧ Q (.bl b)
  | _ => False
section
variable {g : Gm} {X : Cx} {C D0 fI a da cj : Addr} {oe : Obj} {pn : List (Addr × Obj)} {e : Expr} {i : Nat} {b : Bool} {tas : TA} {cs : List Addr}
theorem ve_is1 (hp : PE X e (tCB (fun xs H Q => (∃ fs, H da = some (.xd fs)) ∧ rIsX X.K C a xs H Q) (tCons (tVar i) (tCons (tC (.ref cj)) tNil)))) (hk : PySem.W.kitOne X.K (.ref C) (.ref cj) = some b) : VE g X e (mIsX i a da b) [] 0 false := by
  refine ⟨_, hp, fun σ H env S B Qd Q rl pb hb hm k => ?_⟩
  unfold mIsX at hm
  split at hm
  · rename_i a' d' v e1
    obtain ⟨⟨rfl, rfl⟩, hm⟩ := hm
    obtain ⟨w, h1, h2⟩ := rl.rep i _ e1
    cases h2 with
    | err s1 s2 s3 =>
      refine ⟨_, h1, ⟨_, s2⟩, _, b, rfl, .inl fun u r => ?_, k _ H _ ⟨Fr.refl, pb, .bl b, fun q => nomatch q⟩ hm⟩
      cases (show u = Value.ref cj from r)
      exact hk
  · exact hm.elim
theorem ve_isT (hp : PE X e (tCB (fun xs H Q => (∃ fs, H da = some (.xd fs)) ∧ rIsX X.K C a xs H Q) (tCons (tVar i) (tCons (tTup tas) tNil)))) (ht : ∀ σ H (Q : List V → Hp → Prop), Q (cs.map V.ref) H → tas σ H Q) (hl : cs.length ≤ 100) (hk : PySem.W.kitAny X.K (.ref C) (cs.map Value.ref) = some b) : VE g X e (mIsX i a da b) [] 0 false := by
  refine ⟨_, hp, fun σ H env S B Qd Q rl pb hb hm k => ?_⟩
  unfold mIsX at hm
  split at hm
  · rename_i a' d' v e1
    obtain ⟨⟨rfl, rfl⟩, hm⟩ := hm
    obtain ⟨w, h1, h2⟩ := rl.rep i _ e1
    cases h2 with
    | err s1 s2 s3 =>
      refine ⟨_, h1, ht _ _ _ ⟨by rw [List.length_map]; exact Nat.le_trans hl (by decide), fun p np => ⟨⟨_, same_new np _ _ s2⟩, _, b, rfl, .inr ⟨p, _, rfl, upd_same, fun us r => ?_⟩, k _ _ _ ⟨Fr.of (same_new np), pb.same (same_new np), .bl b, fun q => nomatch q⟩ hm⟩⟩⟩
      have eu : us = cs.map Value.ref := by
        clear ht hl hk hp
        induction cs generalizing us with
        | nil => cases r; rfl
        | cons c cs ih =>
          cases r with
          | cons x y =>
            cases x
            rw [ih _ y]
            rfl
      rw [eu]
      exact hk
  · exact hm.elim
theorem ve_isB {T : String} (hp : PE X e (tCB (fun xs H Q => (∃ fs, H da = some (.xd fs)) ∧ rIsX X.K C a xs H Q) (tCons (tVar i) (tCons (tC (.ty T)) tNil)))) (hk : PySem.W.kitOne X.K (.ref C) (.type T) = some true) : VE g X e (mIsX i a da true) [] 0 false := by
  refine ⟨_, hp, fun σ H env S B Qd Q rl pb hb hm k => ?_⟩
  unfold mIsX at hm
  split at hm
  · rename_i a' d' v e1
    obtain ⟨⟨rfl, rfl⟩, hm⟩ := hm
    obtain ⟨w, h1, h2⟩ := rl.rep i _ e1
    cases h2 with
    | err s1 s2 s3 =>
      refine ⟨_, h1, ⟨_, s2⟩, _, true, rfl, .inl fun u r => ?_, k _ H _ ⟨Fr.refl, pb, .bl true, fun q => nomatch q⟩ hm⟩
      cases (show u = Value.type T from r)
      exact hk
  · exact hm.elim
theorem kany_nil {K : PySem.W.Frag} {t : Value} : PySem.W.kitAny K t [] = some false := rfl
theorem kany_cons {K : PySem.W.Frag} {t c : Value} {cs : List Value} {a b : Bool} (h : PySem.W.kitOne K t c = some a) (h2 : PySem.W.kitAny K t cs = some b) : PySem.W.kitAny K t (c :: cs) = some (a || b) := by
  unfold PySem.W.kitAny
  rw [h]
  cases a with
  | true => rfl
  | false => exact h2
/-- a name of the module that holds a plain constant -/
theorem ve_glob {x : Str} {v : V} {d : D} {pos : Pos} (h : PE X (.Name x pos) (tC v)) (hd : ∀ S H, Rep g S H v d) : VE g X (.Name x pos) (mC d) [] 0 false := ve_c h hd
end
end VL

set_option Elab.async false
set_option linter.all false
set_option maxRecDepth 100000
set_option maxHeartbeats 4000000
/-! VL, part x: more plain arithmetic: powers, fractions in lowest terms. -/
namespace VL
theorem powB {a : Int} (h0 : 0 ≤ a) (h1 : a ≤ 60) : ∀ {i : Nat}, i ≤ 60 → 0 ≤ a ^ i ∧ lt10 121 (a ^ i)
  | i, hi => by
    have key : ∀ i : Nat, 0 ≤ a ^ i ∧ a ^ i ≤ 100 ^ i := fun i => by
      induction i with
      | zero => exact ⟨by simp, by simp⟩
      | succ n ih =>
        rw [Int.pow_succ, Int.pow_succ]
        refine ⟨Int.mul_nonneg ih.1 h0, ?_⟩
        exact Int.mul_le_mul ih.2 (by omega) h0 (Int.le_trans ih.1 ih.2)
    have z := key i
    have e : ((100 : Int) ^ i) = ((100 ^ i : Nat) : Int) := by simp
    have y : (100 : Nat) ^ i ≤ 100 ^ 60 := Nat.pow_le_pow_right (by decide) hi
    have w : (100 : Nat) ^ 60 < 10 ^ 121 := by decide +kernel
    refine ⟨z.1, ?_⟩
    unfold lt10
    omega
theorem pow_pos {a : Int} (h : 0 < a) (i : Nat) : 0 < a ^ i := by
  induction i with
  | zero => simp
  | succ n ih => rw [Int.pow_succ]; exact Int.mul_pos ih h
/-- top over bottom in lowest terms -/
def lowA (t b : Int) : Int := t / fg t b
def lowB (t b : Int) : Int := b / fg t b
def lowD (t b : Int) : D := .tup [.int (lowA t b), .int (lowB t b)]
theorem fg_abs (t b : Int) : fg (if t < 0 then -t else t) b = fg t b := by
  unfold fg
  split
  · rw [Int.neg_gcd]
  · rfl
theorem fg_le {t b : Int} (h : 0 < b) : fg t b ≤ b := Int.le_of_dvd h (fg_dvd2 t b)
theorem low_cross {t b : Int} (h : 0 < b) : lowA t b * b = t * lowB t b := by
  have g := fg_pos (s := t) h
  unfold lowA lowB
  obtain ⟨x, hx⟩ := fg_dvd1 t b
  obtain ⟨y, hy⟩ := fg_dvd2 t b
  generalize fg t b = k at *
  subst hx
  subst hy
  rw [Int.mul_ediv_cancel_left _ (by omega), Int.mul_ediv_cancel_left _ (by omega)]
  rw [← Int.mul_assoc, Int.mul_comm x k]
theorem lowB_pos {t b : Int} (h : 0 < b) : 0 < lowB t b := by
  have g := fg_pos (s := t) h
  have z : 1 ≤ b / fg t b := (Int.le_ediv_iff_mul_le g).mpr (by rw [Int.one_mul]; exact fg_le h)
  unfold lowB
  omega
theorem low_cop {t b : Int} (h : 0 < b) : fg (lowA t b) (lowB t b) = 1 := fg_plain h
theorem bezZ (a b : Int) : ∃ x y : Int, a * x + b * y = fg a b := by
  obtain ⟨x, y, h⟩ := bez a.natAbs b.natAbs
  have e : fg a b = ((Nat.gcd a.natAbs b.natAbs : Nat) : Int) := rfl
  rw [e, ← h]
  rcases Int.le_total 0 a with p | p <;> rcases Int.le_total 0 b with q | q
  · exact ⟨x, y, by rw [Int.natAbs_of_nonneg p, Int.natAbs_of_nonneg q]⟩
  · exact ⟨x, -y, by rw [Int.natAbs_of_nonneg p, Int.ofNat_natAbs_of_nonpos q, Int.mul_neg, Int.neg_mul]⟩
  · exact ⟨-x, y, by rw [Int.ofNat_natAbs_of_nonpos p, Int.natAbs_of_nonneg q, Int.mul_neg, Int.neg_mul]⟩
  · exact ⟨-x, -y, by rw [Int.ofNat_natAbs_of_nonpos p, Int.ofNat_natAbs_of_nonpos q, Int.mul_neg, Int.mul_neg, Int.neg_mul, Int.neg_mul]⟩
theorem dvd_of_crossZ {a b c d : Int} (g1 : fg a b = 1) (h : a * d = c * b) : b ∣ d := by
  obtain ⟨u, v, e⟩ := bezZ a b
  rw [g1] at e
  refine ⟨c * u + d * v, ?_⟩
  have z : (a * u + b * v) * d = d := by rw [e, Int.one_mul]
  have z1 : a * u * d = b * (c * u) := by
    rw [Int.mul_right_comm, h, Int.mul_right_comm, Int.mul_comm (c * u)]
  have z2 : b * v * d = b * (d * v) := by
    rw [Int.mul_assoc, Int.mul_comm v d]
  rw [Int.add_mul, z1, z2] at z
  rw [Int.mul_add]
  exact z.symm
/-- a fraction in lowest terms is one alone, whatever its sign -/
theorem frac_one {a b c d : Int} (hb : 0 < b) (hd : 0 < d) (g1 : fg a b = 1) (g2 : fg c d = 1) (h : a * d = c * b) : a = c ∧ b = d := by
  have x := Int.le_of_dvd hd (dvd_of_crossZ g1 h)
  have y := Int.le_of_dvd hb (dvd_of_crossZ g2 h.symm)
  have e : b = d := by omega
  subst e
  exact ⟨Int.eq_of_mul_eq_mul_right (by omega) h, rfl⟩
theorem low_eq {t b t2 b2 : Int} (h : 0 < b) (h2 : 0 < b2) (e : t * b2 = t2 * b) : lowA t b = lowA t2 b2 ∧ lowB t b = lowB t2 b2 := by
  refine frac_one (lowB_pos h) (lowB_pos h2) (low_cop h) (low_cop h2) ?_
  have g := fg_pos (s := t) h
  have g2 := fg_pos (s := t2) h2
  have a1 : lowA t b * fg t b = t := Int.ediv_mul_cancel (fg_dvd1 t b)
  have a2 : lowB t b * fg t b = b := Int.ediv_mul_cancel (fg_dvd2 t b)
  have a3 : lowA t2 b2 * fg t2 b2 = t2 := Int.ediv_mul_cancel (fg_dvd1 t2 b2)
  have a4 : lowB t2 b2 * fg t2 b2 = b2 := Int.ediv_mul_cancel (fg_dvd2 t2 b2)
  generalize lowA t b = A at *
  generalize lowB t b = B at *
  generalize lowA t2 b2 = A2 at *
  generalize lowB t2 b2 = B2 at *
  generalize fg t b = k at *
  generalize fg t2 b2 = k2 at *
  subst a1 a2 a3 a4
  refine Int.eq_of_mul_eq_mul_right (a := k * k2) (Int.ne_of_gt (Int.mul_pos g g2)) ?_
  have e1 : A * k * (B2 * k2) = A * B2 * (k * k2) := by
    rw [Int.mul_assoc, Int.mul_left_comm k B2 k2, ← Int.mul_assoc]
  have e2 : A2 * k2 * (B * k) = A2 * B * (k * k2) := by
    rw [Int.mul_assoc, Int.mul_left_comm k2 B k, ← Int.mul_assoc, Int.mul_comm k2 k]
  omega
end VL

set_option Elab.async false
set_option linter.all false
set_option maxRecDepth 100000
set_option maxHeartbeats 4000000
/-! VL, part y: zip, enumerate, stars, lists backwards, defs that are handed on, values taken as scalars. -/
namespace VL
open PySem PySem.Spec PyProof.Rows L2 StX RZ
section
variable {g : Gm} {rk f fa fb : Bool} {xw : Option WX} {X : Cx} {e a b tg iter : Expr} {es : List Expr} {ma mb m : ME} {ml mr : MA} {R Ra Rb : List Nat} {c c1 c2 ca cb : Nat} {own own' ol : List Nat} {pos : Pos}
/-- a value without addresses -/
def mSc (m : ME) : ME := fun env Q => m env fun d => scD d = true ∧ Q d
theorem ve_sc (h : VE g X e m R c f) : VE g X e (mSc m) [] c false := by
  obtain ⟨t, p, k⟩ := h
  refine ⟨t, p, fun σ H env S B Qd Q rl pb hb hm q => k σ H env S B _ _ rl pb hb hm fun v H' d A z => ?_⟩
  exact q v H' d ⟨A.fr, A.pb, scD_rep A.rep z.1 _, fun q => nomatch q⟩ z.2
/-- a list the other way about -/
def oRev : D → (D → Prop) → Prop
  | .lst xs, Q => Q (.lst xs.reverse)
  | _, _ => False
theorem RepL.reverse {S : Addr → Prop} {H : Hp} : ∀ {ds : List D} {vs : List V}, RepL g S H vs ds → RepL g S H vs.reverse ds.reverse
  | [], _, h => by cases h; exact .nil
  | d :: ds, _, h => by
    cases h with
    | cons a b =>
      rw [List.reverse_cons, List.reverse_cons]
      exact (RepL.reverse b).append (.cons a .nil)
theorem ve_rev {e' : Expr} (hp : ∀ {t : TE}, PE X e t → PE X e' (tRevL X.K t)) (h : VE g X e m R c f) : VE g X e' (m1 oRev m) R c true := by
  obtain ⟨t, p, k⟩ := h
  refine ⟨_, hp p, fun σ H env S B Qd Q rl pb hb hm q => k σ H env S B _ _ rl pb hb hm fun v H1 d A z => ?_⟩
  have r := A.rep
  unfold oRev at z
  split at z
  · cases r with
    | lst s e r =>
      refine ⟨_, _, rfl, SqL.of e, fun p hp => ?_⟩
      refine give_lst (S := Sr g R S H H1) A.pb (fun a s => s.2) hp r.reverse (Q := Q) (Qd := Qd) (f := true) (fun w H' d' sm rp fs q' => ?_) z
      have up : ∀ a, Res g (Sr g R S H H1) H1 H' a → Sr g R S H H' a := fun a s => ⟨s.1.elim (fun n => .inl (A.fr.back s.2.2 n)) fun s1 => s1.1, s.2⟩
      exact q w H' d' ⟨A.fr.trans (Fr.of sm), A.pb.same sm, rp.mono up, fun z => fsh_up (fun a n e => A.fr.back n e) A.pb up (fs z)⟩ q'
  · exact z.elim
/-- [*e, ..] -/
def sqD : D → (List D → Prop) → Prop
  | .lst xs, Q => Q xs
  | .tup xs, Q => Q xs
  | _, _ => False
def mStar (ma : ME) (mr : MA) : MA := fun env Q => ma env fun d => sqD d fun xs => mr env fun ds => Q (xs ++ ds)
theorem va_star {p0 : Pos} (ha : VE g X e ma Ra ca fa) (hr : VA g X es mr Rb cb) (hp : ∀ {t : TE} {u : TA}, PE X e t → PA X es u → PA X (.Starred e p0 :: es) (tStar X.K t u)) : VA g X (.Starred e p0 :: es) (mStar ma mr) (Ra ++ Rb) (ca + cb) := by
  obtain ⟨ta, pa, ka⟩ := ha
  obtain ⟨tb, pb, kb⟩ := hr
  refine ⟨_, hp pa pb, fun σ H env S B Qd Q rl pb hb hm k => ?_⟩
  refine ka σ H env S B _ _ rl pb (by omega) hm fun x H1 dx A1 hm1 => ?_
  have go : ∀ {vs : List V} {xs : List D}, RepL g (Sr g Ra S H H1) H1 vs xs → (mr env fun ds => Qd (xs ++ ds)) → tb σ H1 fun ys H2 => Q (vs ++ ys) H2 := fun {vs xs} r1 hm1 => by
    refine kb σ H1 env S (B + ca) _ _ (rl.fr A1.fr) A1.pb (by omega) hm1 fun ys H2 dys A2 hm2 => ?_
    refine k (vs ++ ys) H2 (xs ++ dys) ⟨A1.fr.trans A2.fr, A2.pb.mono (by omega), RepL.append ?_ ?_⟩ hm2
    · exact r1.goN fun a o s e => ⟨s.fwd (fun i h => List.mem_append_left _ h) A2.fr, A2.fr a o s.2.2 e⟩
    · exact A2.rep.mono fun a s => s.aft (fun i h => List.mem_append_right _ h) A1.fr
  have r := A1.rep
  unfold sqD at hm1
  split at hm1
  · cases r with
    | lst s e r1 => exact ⟨_, _, rfl, .inr (SqL.of e), go r1 hm1⟩
  · cases r with
    | tup s e r1 => exact ⟨_, _, rfl, .inl (SqT.of e), go r1 hm1⟩
  · exact hm1.elim
/-! ### zip, enumerate -/
/-- a new pair -/
theorem pair_rep {S : Addr → Prop} {H : Hp} {B : Nat} {T : Addr} {x y : V} {dx dy : D} (hU : ∀ a, S a → H a ≠ none ∧ some a ≠ g.pa) (pb : PB g B H) (hT : H T = none) (rx : Rep g S H x dx) (ry : Rep g S H y dy) :
    Same H (upd H T (.tup [x, y])) ∧ Rep g (Res g S H (upd H T (.tup [x, y]))) (upd H T (.tup [x, y])) (.ref T) (.tup [dx, dy]) := by
  have z := res_new (o := .tup [x, y]) pb hU hT
  exact ⟨same_new hT, .tup z.1 upd_same ((RepL.cons rx (.cons ry .nil)).go z.2)⟩
def zipD : List D → List D → List D
  | x :: xs, y :: ys => .tup [x, y] :: zipD xs ys
  | _, _ => []
theorem zipD_get : ∀ {xs ys : List D} {i : Nat} {d : D}, (zipD xs ys)[i]? = some d → ∃ x y, xs[i]? = some x ∧ ys[i]? = some y ∧ d = .tup [x, y]
  | [], _, _, _, h => by simp [zipD] at h
  | _ :: _, [], _, _, h => by simp [zipD] at h
  | x :: xs, y :: ys, 0, d, h => ⟨x, y, rfl, rfl, by simpa [zipD] using h.symm⟩
  | x :: xs, y :: ys, i + 1, d, h => by
    obtain ⟨u, w, h1, h2, h3⟩ := zipD_get (xs := xs) (ys := ys) (i := i) (d := d) (by simpa [zipD] using h)
    exact ⟨u, w, by simpa using h1, by simpa using h2, h3⟩
theorem zipD_len : ∀ {xs ys : List D}, (zipD xs ys).length = min xs.length ys.length
  | [], _ => by simp [zipD]
  | _ :: _, [] => by simp [zipD]
  | x :: xs, y :: ys => by simp [zipD, zipD_len (xs := xs) (ys := ys)]
theorem src_zip {K : PySem.W.Frag} {a b : Addr} {xs ys : List D} : SrcOk g (Itz K a b) [(.ref a, .lst xs), (.ref b, .lst ys)] (zipD xs ys) := by
  intro U H B hU pb hg i
  have r1 := hg (.ref a, .lst xs) (by simp)
  have r2 := hg (.ref b, .lst ys) (by simp)
  cases r1 with
  | lst s1 e1 q1 =>
    cases r2 with
    | lst s2 e2 q2 =>
      refine ⟨fun d hd => ?_, fun hl => ⟨_, _, SqL.of e1, SqL.of e2, ?_⟩⟩
      · obtain ⟨x, y, h1, h2, rfl⟩ := zipD_get hd
        obtain ⟨u, hu, ru⟩ := q1.get h1
        obtain ⟨w, hw, rw'⟩ := q2.get h2
        refine ⟨⟨_, _, u, w, SqL.of e1, SqL.of e2, hu, hw⟩, fun v H' y => ?_⟩
        obtain ⟨T, x', y', rfl, hT, rfl, y1, y2⟩ := y
        have z1 := y1 _ (SqL.of e1)
        have z2 := y2 _ (SqL.of e2)
        rw [hu] at z1
        rw [hw] at z2
        cases z1
        cases z2
        exact pair_rep hU pb hT ru rw'
      · rw [zipD_len] at hl
        rw [q1.length, q2.length]
        omega
theorem src_zipT {K : PySem.W.Frag} {a b : Addr} {xs ys : List D} : SrcOk g (ItzT K a b) [(.ref a, .tup xs), (.ref b, .tup ys)] (zipD xs ys) := by
  intro U H B hU pb hg i
  have r1 := hg (.ref a, .tup xs) (by simp)
  have r2 := hg (.ref b, .tup ys) (by simp)
  cases r1 with
  | tup s1 e1 q1 =>
    cases r2 with
    | tup s2 e2 q2 =>
      refine ⟨fun d hd => ?_, fun hl => ⟨_, _, SqT.of e1, SqT.of e2, ?_⟩⟩
      · obtain ⟨x, y, h1, h2, rfl⟩ := zipD_get hd
        obtain ⟨u, hu, ru⟩ := q1.get h1
        obtain ⟨w, hw, rw'⟩ := q2.get h2
        refine ⟨⟨_, _, u, w, SqT.of e1, SqT.of e2, hu, hw⟩, fun v H' y => ?_⟩
        obtain ⟨T, x', y', rfl, hT, rfl, y1, y2⟩ := y
        have z1 := y1 _ (SqT.of e1)
        have z2 := y2 _ (SqT.of e2)
        rw [hu] at z1
        rw [hw] at z2
        cases z1
        cases z2
        exact pair_rep hU pb hT ru rw'
      · rw [zipD_len] at hl
        rw [q1.length, q2.length]
        omega
def oZip : List D → (List D → Prop) → Prop
  | [.lst xs, .lst ys], Q => Q (zipD xs ys)
  | [.tup xs, .tup ys], Q => Q (zipD xs ys)
  | _, _ => False
theorem vi_zip (h : VA g X es ml R c) (hp : ∀ {t : TA}, PA X es t → PI X tg iter (iZipA X.K t)) : VI g X tg iter (mIt oZip ml) R c := by
  obtain ⟨t, p, k⟩ := h
  refine ⟨_, hp p, fun σ H env S B Qd Rr rl pb hb hm q => k σ H env S B _ _ rl pb hb hm fun vs H1 ds A z => ?_⟩
  have r := A.rep
  unfold oZip at z
  split at z
  · obtain ⟨v, w, rfl, h, h'⟩ := repL2 r
    have k1 := h
    have k2 := h'
    cases h with
    | lst s1 e1 q1 =>
      cases h' with
      | lst s2 e2 q2 => exact ⟨_, _, _, _, rfl, .inl ⟨SqL.of e1, SqL.of e2, q _ H1 _ _ A.fr A.pb (fun p hp => by
          simp only [List.mem_cons, List.not_mem_nil, or_false] at hp
          rcases hp with rfl | rfl
          · exact k1
          · exact k2) src_zip z⟩⟩
  · obtain ⟨v, w, rfl, h, h'⟩ := repL2 r
    have k1 := h
    have k2 := h'
    cases h with
    | tup s1 e1 q1 =>
      cases h' with
      | tup s2 e2 q2 => exact ⟨_, _, _, _, rfl, .inr ⟨SqT.of e1, SqT.of e2, q _ H1 _ _ A.fr A.pb (fun p hp => by
          simp only [List.mem_cons, List.not_mem_nil, or_false] at hp
          rcases hp with rfl | rfl
          · exact k1
          · exact k2) src_zipT z⟩⟩
  · exact z.elim
/-- (0, x), (1, y), .. -/
def enumD (k : Nat) : List D → List D
  | [] => []
  | x :: xs => .tup [.int (k : Int), x] :: enumD (k + 1) xs
theorem enumD_get : ∀ {xs : List D} {k i : Nat} {d : D}, (enumD k xs)[i]? = some d → ∃ x, xs[i]? = some x ∧ d = .tup [.int ((k + i : Nat) : Int), x]
  | [], _, _, _, h => by simp [enumD] at h
  | x :: xs, k, 0, d, h => ⟨x, rfl, by simpa [enumD] using h.symm⟩
  | x :: xs, k, i + 1, d, h => by
    obtain ⟨y, h1, h2⟩ := enumD_get (xs := xs) (k := k + 1) (i := i) (d := d) (by simpa [enumD] using h)
    exact ⟨y, by simpa using h1, by rw [h2, Nat.add_right_comm, Nat.add_assoc]⟩
theorem enumD_len : ∀ {xs : List D} {k : Nat}, (enumD k xs).length = xs.length
  | [], _ => rfl
  | x :: xs, k => by simp [enumD, enumD_len (xs := xs)]
theorem src_enum {K : PySem.W.Frag} {a : Addr} {xs : List D} : SrcOk g (Ite K a) [(.ref a, .lst xs)] (enumD 0 xs) := by
  intro U H B hU pb hg i
  have r1 := hg (.ref a, .lst xs) (by simp)
  cases r1 with
  | lst s1 e1 q1 =>
    refine ⟨fun d hd => ?_, fun hl => ⟨_, SqL.of e1, ?_⟩⟩
    · obtain ⟨x, h1, rfl⟩ := enumD_get hd
      obtain ⟨u, hu, ru⟩ := q1.get h1
      refine ⟨⟨_, u, SqL.of e1, hu⟩, fun v H' y => ?_⟩
      obtain ⟨T, x', rfl, hT, rfl, y1⟩ := y
      have z1 := y1 _ (SqL.of e1)
      rw [hu] at z1
      cases z1
      rw [Nat.zero_add]
      exact pair_rep hU pb hT (.int _) ru
    · rw [enumD_len] at hl
      rw [q1.length]
      exact hl
def oEnum : List D → (List D → Prop) → Prop
  | [.lst xs], Q => Q (enumD 0 xs)
  | _, _ => False
theorem vi_enum (h : VA g X es ml R c) (hp : ∀ {t : TA}, PA X es t → PI X tg iter (iEnum X.K t)) : VI g X tg iter (mIt oEnum ml) R c := by
  obtain ⟨t, p, k⟩ := h
  refine ⟨_, hp p, fun σ H env S B Qd Rr rl pb hb hm q => k σ H env S B _ _ rl pb hb hm fun vs H1 ds A z => ?_⟩
  have r := A.rep
  unfold oEnum at z
  split at z
  · obtain ⟨v, rfl, h⟩ := repL1 r
    have k1 := h
    cases h with
    | lst s1 e1 q1 => exact ⟨_, _, rfl, SqL.of e1, q _ H1 _ _ A.fr A.pb (fun p hp => by
          rw [List.mem_singleton.mp hp]
          exact k1) src_enum z⟩
  · exact z.elim
/-! ### is, of truth values -/
def oIsB (neg : Bool) : D → D → (D → Prop) → Prop
  | .bl a, .bl b, Q => Q (.bl (if neg then !decide (a = b) else decide (a = b)))
  | _, _, _ => False
theorem sim_isB : Sim2 g f rIsB (oIsB false) := sim_i fun H x y dx dy S Qd Q rx ry hm k => by
  unfold oIsB at hm
  split at hm
  · cases rx; cases ry
    exact ⟨_, _, rfl, rfl, k _ _ (fun _ => .bl _) hm fun x e => (by cases x <;> cases e)⟩
  · exact hm.elim
theorem sim_notB : Sim2 g f rNotB (oIsB true) := sim_i fun H x y dx dy S Qd Q rx ry hm k => by
  unfold oIsB at hm
  split at hm
  · cases rx; cases ry
    exact ⟨_, _, rfl, rfl, k _ _ (fun _ => .bl _) hm fun x e => (by cases x <;> cases e)⟩
  · exact hm.elim
end
end VL

set_option Elab.async false
set_option linter.all false
set_option maxRecDepth 100000
set_option maxHeartbeats 4000000
/-! VL, part 1: a, b = x, y where a name is read within a comprehension; comprehensions with two fors; defs handed on. -/
namespace VL
open PySem PySem.Spec PyProof.Rows L2 StX RZ
section
variable {g : Gm} {rk f fa fb fc : Bool} {xw : Option WX} {X : Cx} {e a b c0 tg iter : Expr} {es : List Expr} {ma mb mc m : ME} {R Ra Rb Rc : List Nat} {c c1 c2 ca cb cc : Nat} {own own' ol : List Nat} {pos : Pos} {st : Stmt}
theorem vs_parT (md1 md2 : Md) {i j : Nat} (ha : VE g X a ma Ra ca fa) (hb : VE g X b mb Rb cb fb)
    (hp : ∀ {ta tb : TE}, PE X a ta → PE X b tb → PS X st (tAsg (tTup (tCons ta (tCons tb tNil))) (gTup X.K 2 (gCons (gName i) (gCons (gName j) gNil)))))
    (ok1 : okBy md1 i own Ra fa = true) (ok2 : okBy md2 j (ownBy md1 i own) Rb fb = true) :
    VS g rk xw ol X st (mPar md1 md2 i j ma mb) own (ownBy md2 j (ownBy md1 i own)) (ca + cb) := by
  obtain ⟨t, p, k⟩ := ha
  obtain ⟨t', p', k'⟩ := hb
  refine ⟨_, hp p p', fun H0 A0 gs σ H env S B M D' r pb hb hm br => ?_⟩
  refine k σ H env S B _ _ r.rl pb (by omega) hm fun v H1 d A z => ?_
  refine k' σ H1 env S (B + ca) _ _ (r.rl.fr A.fr) A.pb (by omega) z fun w H2 e A2 z2 => ?_
  refine ⟨by show 2 ≤ sizeLine; decide, fun q hq => ?_⟩
  have sm : Same H2 (upd H2 q (.tup [v, w])) := same_new hq
  refine ⟨q, _, rfl, SqT.of upd_same, rfl, _, _, rfl, _, _, rfl, rfl, ?_⟩
  obtain ⟨S1, P1, q1⟩ := (r.pst ((A.fr.trans A2.fr).trans (Fr.of sm))).put md1 r Fr.refl A pb (A2.fr.trans (Fr.of sm)) ok1 z2
  obtain ⟨S2, P2, q2⟩ := P1.put md2 r A.fr A2 A.pb (Fr.of sm) ok2 q1
  exact br.nx _ _ _ _ P2.rs ((A2.pb.same sm).mono (by omega)) q2
theorem vs_parT3 (md1 md2 md3 : Md) {i j l : Nat} (ha : VE g X a ma Ra ca fa) (hb : VE g X b mb Rb cb fb) (hc : VE g X c0 mc Rc cc fc)
    (hp : ∀ {ta tb tc : TE}, PE X a ta → PE X b tb → PE X c0 tc → PS X st (tAsg (tTup (tCons ta (tCons tb (tCons tc tNil)))) (gTup X.K 3 (gCons (gName i) (gCons (gName j) (gCons (gName l) gNil))))))
    (ok1 : okBy md1 i own Ra fa = true) (ok2 : okBy md2 j (ownBy md1 i own) Rb fb = true) (ok3 : okBy md3 l (ownBy md2 j (ownBy md1 i own)) Rc fc = true) :
    VS g rk xw ol X st (mPar3 md1 md2 md3 i j l ma mb mc) own (ownBy md3 l (ownBy md2 j (ownBy md1 i own))) (ca + cb + cc) := by
  obtain ⟨t, p, k⟩ := ha
  obtain ⟨t', p', k'⟩ := hb
  obtain ⟨t2, p2, k2⟩ := hc
  refine ⟨_, hp p p' p2, fun H0 A0 gs σ H env S B M D' r pb hb hm br => ?_⟩
  refine k σ H env S B _ _ r.rl pb (by omega) hm fun v H1 d A z => ?_
  refine k' σ H1 env S (B + ca) _ _ (r.rl.fr A.fr) A.pb (by omega) z fun w H2 e A2 z2 => ?_
  refine k2 σ H2 env S (B + ca + cb) _ _ ((r.rl.fr A.fr).fr A2.fr) A2.pb (by omega) z2 fun u H3 e3 A3 z3 => ?_
  refine ⟨by show 3 ≤ sizeLine; decide, fun q hq => ?_⟩
  have sm : Same H3 (upd H3 q (.tup [v, w, u])) := same_new hq
  refine ⟨q, _, rfl, SqT.of upd_same, rfl, _, _, rfl, _, _, rfl, _, _, rfl, rfl, ?_⟩
  obtain ⟨S1, P1, q1⟩ := (r.pst (((A.fr.trans A2.fr).trans A3.fr).trans (Fr.of sm))).put md1 r Fr.refl A pb ((A2.fr.trans A3.fr).trans (Fr.of sm)) ok1 z3
  obtain ⟨S2, P2, q2⟩ := P1.put md2 r A.fr A2 A.pb (A3.fr.trans (Fr.of sm)) ok2 q1
  obtain ⟨S3, P3, q3⟩ := P2.put md3 r (A.fr.trans A2.fr) A3 A2.pb (Fr.of sm) ok3 q2
  exact br.nx _ _ _ _ P3.rs ((A3.pb.same sm).mono (by omega)) q3
/-! ### a def that is handed on, called by its local name -/
theorem ve_fnc {x : Str} {k : Nat} (h : PE X (.Name x pos) (tC (.ref (g.C.fn k)))) : VE g X (.Name x pos) (mC (.fnc k)) [] 0 false := ve_c h fun _ _ => .fnc k
/-- the slot i holds one of two defs -/
def mCallL (i k1 k2 : Nat) (f1 f2 : List D → (D → Prop) → Prop) (ml : MA) : ME := fun env Q => match env[i]? with
  | some (some (.fnc k)) => (k = k1 ∧ ml env fun ds => f1 ds Q) ∨ (k = k2 ∧ ml env fun ds => f2 ds Q)
  | _ => False
theorem ve_callL {i k1 k2 : Nat} {f1 f2 : List D → (D → Prop) → Prop} {ml : MA} (hp : ∀ {t : TA}, PA X es t → PE X e (fun σ H Q => (tCallL i (g.C.fn k1) (spV g.C f1 c rk) [] E0 t σ H Q) ∨ tCallL i (g.C.fn k2) (spV g.C f2 c rk) [] E0 t σ H Q)) (ha : VA g X es ml R ca) : VE g X e (mCallL i k1 k2 f1 f2 ml) R (ca + c) rk := by
  obtain ⟨t, p, k⟩ := ha
  refine ⟨_, hp p, fun σ H env S B Qd Q rl pb hb hm q => ?_⟩
  unfold mCallL at hm
  split at hm
  · rename_i kk e1
    obtain ⟨w, h1, h2⟩ := rl.rep i _ e1
    cases h2
    rcases hm with ⟨rfl, hm⟩ | ⟨rfl, hm⟩
    · refine .inl ⟨h1, k σ H env S B _ _ rl pb (by omega) hm fun vs H1 ds A z => ?_⟩
      rw [List.append_nil]
      exact spV_use A hb z q
    · refine .inr ⟨h1, k σ H env S B _ _ rl pb (by omega) hm fun vs H1 ds A z => ?_⟩
      rw [List.append_nil]
      exact spV_use A hb z q
  · exact hm.elim
theorem ve_callL2 {i k1 k2 : Nat} {a1 a2 : Addr} {f1 f2 : List D → (D → Prop) → Prop} {ml : MA} (e1 : g.C.fn k1 = a1) (e2 : g.C.fn k2 = a2) (hp : ∀ {t : TA}, PA X es t → PE X e (fun σ H Q => (tCallL i a1 (spV g.C f1 c rk) [] E0 t σ H Q) ∨ tCallL i a2 (spV g.C f2 c rk) [] E0 t σ H Q)) (ha : VA g X es ml R ca) : VE g X e (mCallL i k1 k2 f1 f2 ml) R (ca + c) rk := by
  subst e1 e2
  exact ve_callL hp ha
theorem pe_or {t u : TE} (h : PE X e t) (h' : PE X e u) : PE X e (fun σ H Q => t σ H Q ∨ u σ H Q) :=
  ⟨fun pins s σ H Q I z => z.elim (h.run pins s σ H Q I) (h'.run pins s σ H Q I)⟩
end
end VL

set_option Elab.async false
set_option linter.all false
set_option maxRecDepth 100000
set_option maxHeartbeats 4000000
/-! VL, part 3: rounds of a word, in plain integers. -/
namespace VL
section
variable {s p m : Int}
/-- so many rounds -/
def itS (s p m : Int) (xs : List Int) : Nat → Int → Int
  | 0, v => v
  | n + 1, v => itS s p m xs n (endS s p m v xs)
theorem itS_succ (xs : List Int) : ∀ (n : Nat) (v : Int), itS s p m xs (n + 1) v = endS s p m (itS s p m xs n v) xs
  | 0, _ => rfl
  | n + 1, v => itS_succ xs n (endS s p m v xs)
theorem itS_add (xs : List Int) : ∀ (n k : Nat) (v : Int), itS s p m xs (n + k) v = itS s p m xs k (itS s p m xs n v)
  | 0, k, v => by rw [Nat.zero_add]; rfl
  | n + 1, k, v => by
    rw [Nat.add_right_comm]
    exact itS_add xs n k (endS s p m v xs)
theorem itS_fix {xs : List Int} {v : Int} (h : endS s p m v xs = v) : ∀ n : Nat, itS s p m xs n v = v
  | 0 => rfl
  | n + 1 => by
    show itS s p m xs n (endS s p m v xs) = v
    rw [h]
    exact itS_fix h n
theorem itS_rep (x : Int) : ∀ (n : Nat) (v : Int), endS s p m v (List.replicate n x) = itS s p m [x] n v
  | 0, _ => rfl
  | n + 1, v => itS_rep x n (stp s p m v x)
/-- the rest of a start -/
def rst (b t v : Int) : Int := if v < b then b else if t < v then t else v
theorem rst_mm {b t v : Int} (h : b ≤ t) : (if (if v < t then v else t) > b then (if v < t then v else t) else b) = rst b t v := by
  unfold rst
  (repeat' split) <;> omega
theorem round_lo (hs : 0 ≤ s) (hsp : s ≤ p) (hp : 0 < p) {xs : List Int} {b v : Int} (h : IsBot s p m xs b) (hv : v < b) : v < endS s p m v xs ∧ endS s p m v xs ≤ b := by
  have a := not_congr (bot_iff hs hsp hp (v := v) h)
  have c := endS_mono (m := m) hsp hp xs (show v ≤ b by omega)
  rw [bot_fix hsp hp h] at c
  omega
theorem round_hi (hs : 0 ≤ s) (hsp : s ≤ p) (hp : 0 < p) {xs : List Int} {t v : Int} (h : IsTop s p m xs t) (hv : t < v) : endS s p m v xs < v ∧ t ≤ endS s p m v xs := by
  have a := not_congr (top_iff hs hsp hp (v := v) h)
  have c := endS_mono (m := m) hsp hp xs (show t ≤ v by omega)
  rw [top_fix hsp hp h] at c
  omega
theorem rst_round (hs : 0 ≤ s) (hsp : s ≤ p) (hp : 0 < p) {xs : List Int} {b t v : Int} (h : IsBot s p m xs b) (k : IsTop s p m xs t) : rst b t (endS s p m v xs) = rst b t v := by
  have bt := bot_le_top hs hsp hp h k
  unfold rst
  rcases Int.lt_or_le v b with c | c
  · have z := round_lo hs hsp hp h c
    (repeat' split) <;> omega
  · rcases Int.lt_or_le t v with d | d
    · have z := round_hi hs hsp hp k d
      (repeat' split) <;> omega
    · rw [(fix_iff hs hsp hp h k).mpr ⟨c, d⟩]
theorem rst_fix (hs : 0 ≤ s) (hsp : s ≤ p) (hp : 0 < p) {xs : List Int} {b t v : Int} (h : IsBot s p m xs b) (k : IsTop s p m xs t) : endS s p m (rst b t v) xs = rst b t v := by
  have bt := bot_le_top hs hsp hp h k
  refine (fix_iff hs hsp hp h k).mpr ?_
  unfold rst
  (repeat' split) <;> omega
theorem rst_it (hs : 0 ≤ s) (hsp : s ≤ p) (hp : 0 < p) {xs : List Int} {b t : Int} (h : IsBot s p m xs b) (k : IsTop s p m xs t) : ∀ (n : Nat) (v : Int), rst b t (itS s p m xs n v) = rst b t v
  | 0, _ => rfl
  | n + 1, v => by
    show rst b t (itS s p m xs n (endS s p m v xs)) = _
    rw [rst_it hs hsp hp h k n, rst_round hs hsp hp h k]
theorem rst_of (hs : 0 ≤ s) (hsp : s ≤ p) (hp : 0 < p) {xs : List Int} {b t v : Int} (h : IsBot s p m xs b) (k : IsTop s p m xs t) (f : endS s p m v xs = v) : rst b t v = v := by
  have z := (fix_iff hs hsp hp h k).mp f
  unfold rst
  (repeat' split) <;> omega
/-- two starts come nearer by at least the parts-th of their distance -/
theorem stp_nearer {v w x : Int} (hs : 1 ≤ s) (hp : 0 < p) (h : v ≤ w) : stp s p m w x - stp s p m v x ≤ (w - v) - (w - v) / p := by
  unfold stp
  have e := Int.mul_ediv_add_emod (w - v) p
  have r := Int.emod_nonneg (w - v) (show p ≠ 0 by omega)
  have a : s * (w - v) ≥ 1 * (w - v) := Int.mul_le_mul_of_nonneg_right hs (by omega)
  have q : s * (x - w) + m ≤ (s * (x - v) + m) + p * (-((w - v) / p)) := by
    have e2 : s * (x - w) = s * (x - v) - s * (w - v) := by
      rw [← Int.mul_sub]
      congr 1
      omega
    rw [Int.mul_neg]
    omega
  have z := Int.ediv_le_ediv hp q
  rw [Int.add_mul_ediv_left _ _ (by omega : p ≠ 0)] at z
  omega
theorem endS_nearer (hs : 1 ≤ s) (hsp : s ≤ p) (hp : 0 < p) {xs : List Int} (hn : xs ≠ []) {v w : Int} (h : v ≤ w) : endS s p m w xs - endS s p m v xs ≤ (w - v) - (w - v) / p := by
  rcases xs with _ | ⟨x, r⟩
  · exact absurd rfl hn
  · have a := stp_nearer (m := m) (x := x) hs hp h
    have c := stp_monoV (m := m) (x := x) hsp hp h
    have b := endS_near (m := m) (by omega : 0 ≤ s) hsp hp r c
    show endS s p m (stp s p m w x) r - endS s p m (stp s p m v x) r ≤ _
    omega
theorem three_le {d : Int} (hp : 0 < p) (h : 3 * p ≤ d) : 3 ≤ d / p := (Int.le_ediv_iff_mul_le hp).mpr h
theorem itS_hi (hs : 1 ≤ s) (hsp : s ≤ p) (hp : 0 < p) {xs : List Int} (hn : xs ≠ []) {t : Int} (k : IsTop s p m xs t) : ∀ (n : Nat) (v : Int), t ≤ v → (v - t ≤ n ∨ v - t ≤ 3 * (n - 3 * p)) → itS s p m xs n v = t
  | 0, v, h, c => by
    show v = t
    omega
  | n + 1, v, h, c => by
    rcases Int.lt_or_le t v with d | d
    · have z := round_hi (by omega) hsp hp k d
      have y := endS_nearer (m := m) hs hsp hp hn h
      rw [top_fix hsp hp k] at y
      refine itS_hi hs hsp hp hn k n _ z.2 ?_
      rcases Int.lt_or_le (v - t) (3 * p) with q | q
      · left
        omega
      · have w := three_le hp q
        rcases c with c | c
        · left
          omega
        · right
          omega
    · have e : v = t := by omega
      rw [e]
      exact itS_fix (top_fix hsp hp k) (n + 1)
theorem itS_lo (hs : 1 ≤ s) (hsp : s ≤ p) (hp : 0 < p) {xs : List Int} (hn : xs ≠ []) {b : Int} (k : IsBot s p m xs b) : ∀ (n : Nat) (v : Int), v ≤ b → (b - v ≤ n ∨ b - v ≤ 3 * (n - 3 * p)) → itS s p m xs n v = b
  | 0, v, h, c => by
    show v = b
    omega
  | n + 1, v, h, c => by
    rcases Int.lt_or_le v b with d | d
    · have z := round_lo (by omega) hsp hp k d
      have y := endS_nearer (m := m) hs hsp hp hn h
      rw [bot_fix hsp hp k] at y
      refine itS_lo hs hsp hp hn k n _ z.2 ?_
      rcases Int.lt_or_le (b - v) (3 * p) with q | q
      · left
        omega
      · have w := three_le hp q
        rcases c with c | c
        · left
          omega
        · right
          omega
    · have e : v = b := by omega
      rw [e]
      exact itS_fix (bot_fix hsp hp k) (n + 1)
/-- so many rounds that nothing changes any more -/
theorem itS_far (hs : 1 ≤ s) (hsp : s ≤ p) (hp : 0 < p) {xs : List Int} (hn : xs ≠ []) {b t : Int} (h : IsBot s p m xs b) (k : IsTop s p m xs t) {n : Nat} {v : Int}
    (c : v - t ≤ n ∨ v - t ≤ 3 * (n - 3 * p)) (d : b - v ≤ n ∨ b - v ≤ 3 * (n - 3 * p)) : itS s p m xs n v = rst b t v := by
  have bt := bot_le_top (by omega) hsp hp h k
  unfold rst
  split
  · exact itS_lo hs hsp hp hn h n v (by omega) d
  · split
    · exact itS_hi hs hsp hp hn k n v (by omega) c
    · exact itS_fix ((fix_iff (by omega) hsp hp h k).mpr (by omega)) n
/-- the rest, and the least number of rounds until then -/
def Laps (s p m : Int) (xs : List Int) (v r : Int) (n : Nat) : Prop := itS s p m xs n v = r ∧ endS s p m r xs = r ∧ ∀ k : Nat, k < n → endS s p m (itS s p m xs k v) xs ≠ itS s p m xs k v
theorem laps_uniq {xs : List Int} {v r r' : Int} {n n' : Nat} (h : Laps s p m xs v r n) (h' : Laps s p m xs v r' n') : n = n' ∧ r = r' := by
  have e : n = n' := by
    rcases Nat.lt_trichotomy n n' with c | c | c
    · exact absurd (by rw [h.1]; exact h.2.1) (h'.2.2 n c)
    · exact c
    · exact absurd (by rw [h'.1]; exact h'.2.1) (h.2.2 n' c)
  subst e
  exact ⟨rfl, h.1.symm.trans h'.1⟩
theorem laps_ex (hs : 1 ≤ s) (hsp : s ≤ p) (hp : 0 < p) {xs : List Int} (hn : xs ≠ []) {b t : Int} (h : IsBot s p m xs b) (k : IsTop s p m xs t) (v : Int) : ∃ n, Laps s p m xs v (rst b t v) n := by
  have key : ∀ (N : Nat), endS s p m (itS s p m xs N v) xs = itS s p m xs N v → ∃ n, n ≤ N ∧ endS s p m (itS s p m xs n v) xs = itS s p m xs n v ∧ ∀ k : Nat, k < n → endS s p m (itS s p m xs k v) xs ≠ itS s p m xs k v := by
    intro N
    induction N using Nat.strongRecOn with
    | ind N ih =>
      intro hN
      rcases Classical.em (∃ k, k < N ∧ endS s p m (itS s p m xs k v) xs = itS s p m xs k v) with ⟨k, k1, k2⟩ | q
      · obtain ⟨n, n1, n2⟩ := ih k k1 k2
        exact ⟨n, by omega, n2⟩
      · exact ⟨N, Nat.le_refl _, hN, fun k k1 k2 => q ⟨k, k1, k2⟩⟩
  have f := itS_far hs hsp hp hn h k (n := (v - t).toNat + (b - v).toNat) (v := v) (by omega) (by omega)
  obtain ⟨n, _, n1, n2⟩ := key _ (by rw [f]; exact rst_fix (by omega) hsp hp h k)
  have r := rst_it (by omega : 0 ≤ s) hsp hp h k n v
  rw [rst_of (by omega) hsp hp h k n1] at r
  exact ⟨n, r, by rw [← r]; exact n1, n2⟩
theorem laps_le (hs : 1 ≤ s) (hsp : s ≤ p) (hp : 0 < p) {xs : List Int} (hn : xs ≠ []) {b t v r : Int} (h : IsBot s p m xs b) (k : IsTop s p m xs t) {n : Nat} (l : Laps s p m xs v r n) : n ≤ (v - t).toNat + (b - v).toNat := by
  rcases Nat.lt_or_ge ((v - t).toNat + (b - v).toNat) n with c | c
  · have f := itS_far hs hsp hp hn h k (n := (v - t).toNat + (b - v).toNat) (v := v) (by omega) (by omega)
    exact absurd (by rw [f]; exact rst_fix (by omega) hsp hp h k) (l.2.2 _ c)
  · exact c
theorem endS_plain (hp : 0 < p) : ∀ (xs : List Int) (v : Int), endS (s / fg s p) (p / fg s p) (m / fg s p) v xs = endS s p m v xs
  | [], _ => rfl
  | x :: xs, v => by
    show endS (s / fg s p) (p / fg s p) (m / fg s p) (stp (s / fg s p) (p / fg s p) (m / fg s p) v x) xs = endS s p m (stp s p m v x) xs
    rw [stp_plain hp, endS_plain hp xs]
/-! ### the ends are there -/
theorem cross_up (P : Int → Prop) : ∀ (n : Nat) (a : Int), ¬ P a → P (a + n) → ∃ b, a < b ∧ b ≤ a + n ∧ P b ∧ ¬ P (b - 1)
  | 0, a, h, k => absurd (by rw [show a + ((0 : Nat) : Int) = a by omega] at k; exact k) h
  | n + 1, a, h, k => by
    rcases Classical.em (P (a + 1)) with q | q
    · exact ⟨a + 1, by omega, by omega, q, by rw [show a + 1 - 1 = a by omega]; exact h⟩
    · obtain ⟨b, h1, h2, h3, h4⟩ := cross_up P n (a + 1) q (by rw [show a + 1 + (n : Int) = a + ((n + 1 : Nat) : Int) by omega]; exact k)
      exact ⟨b, by omega, by omega, h3, h4⟩
theorem bot_ex (hs : 1 ≤ s) (hsp : s ≤ p) (h0 : 0 ≤ m) (h1 : m < p) {xs : List Int} (hn : xs ≠ []) {lo hi : Int} (hl : ∀ x ∈ xs, lo ≤ x) (hh : ∀ x ∈ xs, x ≤ hi) (hlh : lo ≤ hi) : ∃ b, IsBot s p m xs b ∧ lo - p < b ∧ b ≤ hi + p := by
  have fl := far_low (m := m) hs hsp h0 h1 hn hl
  have fh := far_high (m := m) hs hsp h0 h1 hn hh
  obtain ⟨b, b1, b2, b3, b4⟩ := cross_up (fun v => endS s p m v xs ≤ v) (hi + p - (lo - p)).toNat (lo - p) fl (by
    show endS s p m _ xs ≤ _
    rw [show lo - p + ((hi + p - (lo - p)).toNat : Int) = hi + p by omega]
    omega)
  exact ⟨b, ⟨b3, b4⟩, b1, by omega⟩
theorem top_ex (hs : 1 ≤ s) (hsp : s ≤ p) (h0 : 0 ≤ m) (h1 : m < p) {xs : List Int} (hn : xs ≠ []) {lo hi : Int} (hl : ∀ x ∈ xs, lo ≤ x) (hh : ∀ x ∈ xs, x ≤ hi) (hlh : lo ≤ hi) : ∃ t, IsTop s p m xs t ∧ lo - p ≤ t ∧ t < hi + p := by
  have fl := far_low (m := m) hs hsp h0 h1 hn hl
  have fh := far_high (m := m) hs hsp h0 h1 hn hh
  obtain ⟨b, b1, b2, b3, b4⟩ := cross_up (fun v => ¬ v ≤ endS s p m v xs) (hi + p - (lo - p)).toNat (lo - p) (by omega) (by
    rw [show lo - p + ((hi + p - (lo - p)).toNat : Int) = hi + p by omega]
    exact fh)
  refine ⟨b - 1, ⟨Classical.not_not.mp b4, ?_⟩, by omega, by omega⟩
  rw [show b - 1 + 1 = b by omega]
  exact b3
end
end VL

set_option Elab.async false
set_option linter.all false
set_option maxRecDepth 100000
set_option maxHeartbeats 4000000
/-! VL, part 4: a list or a tuple walked; a range of any length. -/
namespace L2
open PySem PySem.Spec PyProof PyProof.Rows
variable {X : Cx} {tg : Expr}
def iSeqQ (K : PySem.W.Frag) (tl : TE) : TI := fun σ H R => tl σ H fun x H1 => ∃ a, x = .ref a ∧ (((∃ xs, SqL K H1 a xs) ∧ R (Itl K a) H1) ∨ ((∃ xs, SqT K H1 a xs) ∧ R (Itt K a) H1))
theorem pi_seqQ {l : Expr} {tl : TE} (hl : PE X l tl) : PI X tg l (iSeqQ X.K tl) := by
  refine ⟨fun pins s σ H R I h => ?_⟩
  refine thn (hl.run pins s σ H _ I h) fun v s1 ⟨x, H1, I1, r1, q1⟩ => ?_
  obtain ⟨a, e, q⟩ := q1
  subst e
  cases r1
  rcases q with ⟨⟨xs, hq⟩, q⟩ | ⟨⟨xs, hq⟩, q⟩
  · obtain ⟨its, rv, p, hz⟩ := I1.list hq
    refine wpAny_pyIter_list p.isList ?_
    refine ⟨s1.heap.objs.size, [s1.heap.objs.size], _, _, H1, rfl, I1.kept (t' := s1.toks) fun b o e => Heap.get?_push_of_some _ e, turn_list a _, ⟨_, Heap.get?_push_size _ rfl, rfl, rfl⟩, fun b hb => ?_, q⟩
    have e : b = s1.heap.objs.size := by simpa using hb
    subst e
    exact I1.fpOk (Nat.le_refl _) (I1.hok.fresh (Nat.le_refl _))
  · obtain ⟨its, rv, p, hz⟩ := I1.tuple hq
    refine wpAny_pyIter_tuple (show s1.heap.IsTuple a its.toArray from p) ?_
    refine ⟨s1.heap.objs.size, [s1.heap.objs.size], _, _, H1, rfl, I1.kept (t' := s1.toks) fun b o e => Heap.get?_push_of_some _ e, turn_tuple a _, ⟨_, Heap.get?_push_size _ rfl, rfl, rfl⟩, fun b hb => ?_, q⟩
    have e : b = s1.heap.objs.size := by simpa using hb
    subst e
    exact I1.fpOk (Nat.le_refl _) (I1.hok.fresh (Nat.le_refl _))
/-- a long range's iterator -/
theorem turn_longQ {P : Program} {w : World} {K : PySem.W.Frag} {tg : Expr} (it : Addr) (lo : Int) (n : Nat) : Turn P w K tg (Itr lo n) [it] it (fun i h => IsLongIter h it (lo + (i : Nat) * 1) ((n : Int) - (i : Nat)) 1) where
  mem := by simp
  obj := fun i h st b hb => by
    have e : b = it := by simpa using hb
    subst e
    exact ⟨_, st, fun v z => by
      have z' : Data.fields _ = Data.cell v := z
      cases z'⟩
  keep := fun i h h' st k => k it (by simp) _ st
  item := by
    intro X hP hw hK hc i pins s σ H E I hf st hg
    subst hP hw hK
    obtain ⟨f0, f1, f2, f3, f4, f5⟩ := hf it (by simp)
    have W := Walks.longrange (prog := X.prog) (w := X.w) (I.ok.hd hc) it lo 1 n
    refine W.item i s _ _ hg st fun v h' tk hv st' kk => ?_
    obtain ⟨t, rfl⟩ := hv
    have I1 : Inv X pins σ H { s with heap := h', toks := tk } := I.turned (fun b o hb e => kk b o (by simpa using hb) e) f0 f1 f3 f4 f5
    refine ⟨_, rfl, go_of (s := { s with heap := h', toks := tk }) (n := "longrange_iterator") st' rfl rfl (by decide) ⟨.int (lo + i), H, I1, ⟨t, ?_⟩, ⟨rfl, rfl⟩, st', fun b hb => (hf b hb).1⟩⟩
    rw [Int.mul_one]
  done := by
    intro X hP hw hK hc i pins s σ H E I hf st hg
    subst hP hw hK
    obtain ⟨f0, f1, f2, f3, f4, f5⟩ := hf it (by simp)
    exact wpAny_pyNext_long_end (I.ok.hd hc) st (by have : n ≤ i := hg; omega) fun h' eb => ⟨rfl, I.turned (t' := s.toks) (fun b o hb e => eb b o hb e) f0 f1 f3 f4 f5⟩
  self := fun _ _ _ _ _ st h => wpAny_pyIter_longiter st h
theorem range_itQ {pins : List (Addr × Obj)} {σ : St} {H : Hp} {s : Shared} {R : It → Hp → Prop} {E : Value → Shared → Prop} {lo hi : Int} {t u v : Tok} {tk : Nat} (I : Inv X pins σ H s)
    (q : R (Itr lo (hi - lo).toNat) H) : wpAny (model X.prog X.w) X.A (pyIter (.ref s.heap.objs.size)) (PIE X pins σ tg R) E { s with heap := s.heap.push { cls := .type "range", data := .fields #[.int lo t, .int hi u, .int 1 v] }, toks := tk } := by
  have e1 : lo + ((0 : Nat) : Int) * 1 = lo := by simp
  have e2 : (((hi - lo).toNat : Nat) : Int) - ((0 : Nat) : Int) = Builtin.Range.rangeSize lo hi 1 := by rw [rangeSize_one]; split <;> omega
  have I1 : Inv X pins σ H { s with heap := s.heap.push { cls := .type "range", data := .fields #[.int lo t, .int hi u, .int 1 v] }, toks := tk } := I.kept fun b o e => Heap.get?_push_of_some _ e
  have fp : ∀ b ∈ [(s.heap.push { cls := .type "range", data := .fields #[.int lo t, .int hi u, .int 1 v] }).objs.size], b = (s.heap.push { cls := .type "range", data := .fields #[.int lo t, .int hi u, .int 1 v] }).objs.size := fun b hb => by simpa using hb
  cases hs : Builtin.Range.small lo hi 1 with
  | true =>
    refine wpAny_pyIter_range (IsRange.new ..) hs ?_
    refine ⟨(s.heap.push { cls := .type "range", data := .fields #[.int lo t, .int hi u, .int 1 v] }).objs.size, [(s.heap.push { cls := .type "range", data := .fields #[.int lo t, .int hi u, .int 1 v] }).objs.size], _, _, H, rfl,
      I1.kept (t' := tk) fun b o e => Heap.get?_push_of_some _ e, turn_range _ lo (hi - lo).toNat, ?_, fun b hb => ?_, q⟩
    · show IsRangeIter _ _ (lo + ((0 : Nat) : Int) * 1) ((((hi - lo).toNat : Nat) : Int) - ((0 : Nat) : Int)) 1
      rw [e1, e2]
      exact Heap.get?_push_size _ rfl
    · rw [fp b hb]
      exact I1.fpOk (Nat.le_refl _) (I1.hok.fresh (Nat.le_refl _))
  | false =>
    refine wpAny_pyIter_longrange (IsRange.new ..) hs ?_
    refine ⟨(s.heap.push { cls := .type "range", data := .fields #[.int lo t, .int hi u, .int 1 v] }).objs.size, [(s.heap.push { cls := .type "range", data := .fields #[.int lo t, .int hi u, .int 1 v] }).objs.size], _, _, H, rfl,
      I1.kept (t' := tk) fun b o e => Heap.get?_push_of_some _ e, turn_longQ _ lo (hi - lo).toNat, ?_, fun b hb => ?_, q⟩
    · show IsLongIter _ _ (lo + ((0 : Nat) : Int) * 1) ((((hi - lo).toNat : Nat) : Int) - ((0 : Nat) : Int)) 1
      rw [e1, e2]
      exact Heap.get?_push_size _ rfl
    · rw [fp b hb]
      exact I1.fpOk (Nat.le_refl _) (I1.hok.fresh (Nat.le_refl _))
def iRngQ (ta : TA) : TI := fun σ H R => ta σ H fun vs H1 => ∃ j : Int, vs = [.int j] ∧ R (Itr 0 j.toNat) H1
theorem pi_rangeQ {a : Expr} {ta : TA} {p pos : Pos} (hg : Gl X "range") (hm : X.mg "range" = none) (ha : PA X [a] ta) (hs : starEach [a] X.env = [(false, eval a X.env)] := by rfl) : PI X tg (.Call (.Name "range" p) [a] [] pos) (iRngQ ta) := by
  refine ⟨fun pins s σ H R I h => ?_⟩
  refine Call_ (ld_blt I hg hm boot_range (PyProof.Rows.callWith_type1 (thn (ha.run pos pins s σ H _ I h) fun us s1 ⟨vs, H1, I1, r1, q1⟩ => ?_) hs rfl))
  obtain ⟨j, e, q⟩ := q1
  subst e
  cases r1 with
  | cons r rr =>
    cases rr
    obtain ⟨t, rfl⟩ := r
    exact call_range_1 (range_itQ I1 (by simpa using q))
end L2
namespace VL
open PySem PySem.Spec PyProof.Rows L2
def itQ : D → (List D → Prop) → Prop
  | .lst xs, Q => Q xs
  | .tup xs, Q => Q xs
  | _, _ => False
def mItQ (ma : ME) : MA := fun env Q => ma env fun d => itQ d Q
theorem vi_seq {g : Gm} {X : Cx} {tg e : Expr} {ma : ME} {R : List Nat} {c : Nat} {f : Bool} (h : VE g X e ma R c f) : VI g X tg e (mItQ ma) R c := by
  obtain ⟨t, p, k⟩ := h
  refine ⟨_, pi_seqQ p, fun σ H env S B Qd Rr rl pb hb hm q => k σ H env S B _ _ rl pb hb hm fun v H1 d A z => ?_⟩
  have r := A.rep
  unfold itQ at z
  split at z
  · have r' := r
    cases r with
    | lst s e0 rp => exact ⟨_, rfl, .inl ⟨⟨_, SqL.of e0⟩, q _ H1 _ _ A.fr A.pb (fun p hp => by
        rw [List.mem_singleton.mp hp]
        exact r') src_list z⟩⟩
  · have r' := r
    cases r with
    | tup s e0 rp => exact ⟨_, rfl, .inr ⟨⟨_, SqT.of e0⟩, q _ H1 _ _ A.fr A.pb (fun p hp => by
        rw [List.mem_singleton.mp hp]
        exact r') src_tup z⟩⟩
  · exact z.elim
/-- a range of any length -/
def oRQ : List D → (List D → Prop) → Prop
  | [.int j], Q => Q (rngD 0 j.toNat)
  | _, _ => False
theorem vi_rQ {g : Gm} {X : Cx} {tg iter : Expr} {ma : MA} {es : List Expr} {R : List Nat} {c : Nat} (h : VA g X es ma R c) (hp : ∀ {t : TA}, PA X es t → PI X tg iter (iRngQ t)) : VI g X tg iter (mIt oRQ ma) R c := by
  obtain ⟨t, p, k⟩ := h
  refine ⟨_, hp p, fun σ H env S B Qd Rr rl pb hb hm q => k σ H env S B _ _ rl pb hb hm fun vs H1 ds A z => ?_⟩
  have r := A.rep
  unfold oRQ at z
  split at z
  · obtain ⟨v, rfl, h⟩ := repL1 r
    cases h
    exact ⟨_, rfl, q _ H1 [] _ A.fr A.pb (fun p hp => by cases hp) src_rng z⟩
  · exact z.elim
end VL

set_option Elab.async false
set_option linter.all false
set_option maxRecDepth 100000
set_option maxHeartbeats 4000000
/-! VL, part 5: new lists of scalars lead nowhere. -/
namespace VL
open PySem PySem.Spec PyProof.Rows L2 StX RZ
def liD : D → Bool
  | .lst xs => xs.all scD
  | _ => false
/-- a new list of values without addresses -/
def mSi (m : ME) : ME := fun env Q => m env fun d => liD d = true ∧ Q d
theorem scL_rep {g : Gm} {S : Addr → Prop} {H : Hp} (U : Addr → Prop) : ∀ {ds : List D} {vs : List V}, RepL g S H vs ds → ds.all scD = true → RepL g U H vs ds
  | [], _, h, _ => by cases h; exact .nil
  | d :: ds, _, h, z => by
    cases h with
    | cons a b =>
      have z2 : scD d = true ∧ ds.all scD = true := by simpa using z
      exact .cons (scD_rep a z2.1 U) (scL_rep U b z2.2)
theorem ve_si {g : Gm} {X : Cx} {e : Expr} {m : ME} {R : List Nat} {c : Nat} (h : VE g X e m R c true) : VE g X e (mSi m) [] c true := by
  obtain ⟨t, p, k⟩ := h
  refine ⟨t, p, fun σ H env S B Qd Q rl pb hb hm q => k σ H env S B _ _ rl pb hb hm fun v H' d A z => ?_⟩
  obtain ⟨z1, z2⟩ := z
  unfold liD at z1
  split at z1
  · rename_i xs
    obtain ⟨l, vs, T, rfl, e1, e2, r, nt, tu⟩ := A.fsh rfl (.l xs) rfl
    have ne : some l ≠ g.pa := by
      have r2 := A.rep
      cases r2 with
      | lst s _ _ => exact s.2.2
    have s0 : Sr g [] S H H' l := ⟨.inl e2, by rw [e1]; exact fun q => (nomatch q), ne⟩
    exact q _ H' _ ⟨A.fr, A.pb, .lst s0 e1 (scL_rep _ r z1), fun _ ys ey => by
      obtain rfl := kx_lst ey
      exact ⟨l, vs, fun _ => False, rfl, e1, e2, scL_rep _ r z1, fun q => q, fun _ q => q.elim⟩⟩ z2
  · cases z1
theorem iD_sc : ∀ xs : List Int, (iD xs).all scD = true
  | [] => rfl
  | _ :: xs => by
    show ((iD xs).all scD) = true
    exact iD_sc xs
/-- x, (y, z) -/
theorem bt2n {i j k : Nat} : ∀ (ds : List D) (env : Env) (Q : Env → Prop), bCons (bName i) (bCons (bTup (bCons (bName j) (bCons (bName k) bNil))) bNil) ds env Q → ds.length = 2 := by
  intro ds env Q h
  match ds, h with
  | [], h => exact h.elim
  | [a], h => exact h.elim
  | [a, b], _ => rfl
  | a :: b :: c :: r, h =>
    exfalso
    have h2 : bTup (bCons (bName j) (bCons (bName k) bNil)) b (env.set i (some a)) (fun e => bNil (c :: r) e Q) := h
    unfold bTup at h2
    split at h2
    · rename_i ds
      match ds, h2 with
      | [], h2 => exact h2
      | [x], h2 => exact h2
      | [x, y], h2 => exact h2
      | x :: y :: z :: w, h2 => exact h2
    · exact h2
end VL

set_option Elab.async false
set_option linter.all false
set_option maxRecDepth 100000
set_option maxHeartbeats 4000000
/-! VL, part 2: comprehensions with two fors. -/
namespace VL
open PySem PySem.Spec PyProof.Rows L2
/-- all but the list that grows stands -/
structure FrX (g : Gm) (A : Addr) (H H' : Hp) : Prop where
  keep : ∀ a o, some a ≠ g.pa → a ≠ A → H a = some o → [NT o] → H' a = some o
  dom : ∀ a, some a ≠ g.pa → a ≠ A → H a ≠ none → H' a ≠ none
  all : g.C.tb = false → ∀ a o, some a ≠ g.pa → a ≠ A → H a = some o → H' a = some o
instance {g : Gm} {A : Addr} {H H' : Hp} : CoeFun (FrX g A H H') (fun _ => ∀ a o, some a ≠ g.pa → a ≠ A → H a = some o → [NT o] → H' a = some o) := ⟨FrX.keep⟩
theorem FrX.refl {g : Gm} {A : Addr} {H : Hp} : FrX g A H H := ⟨fun _ _ _ _ e => e, fun _ _ _ q => q, fun _ _ _ _ _ e => e⟩
theorem FrX.of {g : Gm} {A : Addr} {H H' : Hp} (f : Fr g H H') : FrX g A H H' := ⟨fun a o n _ e => f a o n e, fun a n _ q => f.dom a n q, fun t a o n _ e => f.all t a o n e⟩
theorem FrX.trans {g : Gm} {A : Addr} {H H1 H2 : Hp} (x : FrX g A H H1) (y : FrX g A H1 H2) : FrX g A H H2 := ⟨fun a o n m e => y a o n m (x a o n m e), fun a n m q => y.dom a n m (x.dom a n m q), fun t a o n m e => y.all t a o n m (x.all t a o n m e)⟩
theorem FrX.updA {g : Gm} {A : Addr} {H H1 : Hp} (o : HO) (x : FrX g A H H1) : FrX g A H (upd H1 A o) := ⟨fun a u n m e => by
  intro _
  rw [upd_ne m]
  exact x a u n m e, fun a n m q => by
  rw [upd_ne m]
  exact x.dom a n m q, fun t a u n m e => by
  rw [upd_ne m]
  exact x.all t a u n m e⟩
theorem FrX.toFr {g : Gm} {A : Addr} {H H1 H2 : Hp} (y : FrX g A H1 H2) (x : Fr g H H1) (hA : H A = none) (h2 : H2 A ≠ none) : Fr g H H2 := ⟨fun a o n e => y a o n (ne_of_none e hA) (x a o n e), fun a n q => by
  by_cases c : a = A
  · rw [c]
    exact h2
  · exact y.dom a n c (x.dom a n q), fun t a o n e => y.all t a o n (ne_of_none e hA) (x.all t a o n e)⟩
theorem FrX.back {g : Gm} {A a : Addr} {H H' : Hp} (f : FrX g A H H') (n : some a ≠ g.pa) (m : a ≠ A) (e : H' a = none) : H a = none :=
  Classical.byContradiction fun q => f.dom a n m q e
theorem Rl.frX {g : Gm} {A : Addr} {σ : L2.St} {H H' : Hp} {env : Env} {S : SS} (r : Rl g σ H env S) (f : FrX g A H H') (hS : ∀ j a, S j a → a ≠ A) : Rl g σ H' env S where
  len := r.len
  rep := fun i d e => by
    obtain ⟨v, h1, h2⟩ := r.rep i d e
    exact ⟨v, h1, h2.goN fun a o s q => ⟨s, f a o (r.dom i a s).2 (hS i a s) q⟩⟩
  dom := fun i a s => ⟨fun q => (r.dom i a s).1 (f.back (r.dom i a s).2 (hS i a s) q), (r.dom i a s).2⟩
/-- a source, the same in every context -/
def tiOf (g : Gm) (mi : MA) (R : List Nat) (c : Nat) : TI := fun σ H Rr => ∃ env S B Qd, Rl g σ H env S ∧ PB g B H ∧ B + c ≤ Bmax ∧ mi env Qd ∧ ∀ J H' gv items, Fr g H H' → PB g (B + c) H' → (∀ p, p ∈ gv → Rep g (Sr g R S H H') H' p.1 p.2) → SrcOk g J gv items → Qd items → Rr J H'
section
variable {g : Gm} {rk f : Bool} {xw : Option WX} {X : Cx} {e elt tg iter tg1 iter1 : Expr} {me : ME} {mi mi1 : MA} {mt mt1 : MT} {R R1 Re : List Nat} {ce ci ct ci1 ct1 : Nat} {own ol ix ix1 : List Nat}
theorem VI.pi (h : VI g X tg iter mi R ci) : PI X tg iter (tiOf g mi R ci) := by
  obtain ⟨wi, p, k⟩ := h
  exact ⟨fun pins s σ H Q I ⟨env, S, B, Qd, h1, h2, h3, h4, h5⟩ => p.run pins s σ H Q I (k σ H env S B Qd Q h1 h2 h3 h4 h5)⟩
/-- the inner loop: the list at A grows -/
theorem lcI_ok {b : MG} {vs : List Nat} (hix : ∀ i, i ∈ ix → i ∈ vs) {σ : L2.St} {H : Hp} {env : Env} {S : SS} {B L : Nat} {A : Addr} {O T : Addr → Prop} {xs : List V} {acc : List D} {Qd : List D → Prop} {Nx : Hp → Prop}
    (nA : some A ≠ g.pa) (rl : Rl g σ H env S) (pb : PB g B H) (hb : B + (ci + Nmax * (ct + ce)) ≤ Bmax) (hSA : ∀ j a, S j a → a ≠ A) (hSO : ∀ j a, j ∈ R ++ Re → S j a → O a) (hO : ∀ a, H a = none → some a ≠ g.pa → O a)
    (eA : H A = some (.lst xs)) (rA : RepL g T H xs acc) (nT : ¬ T A) (sT : ∀ a, T a → O a ∧ H a ≠ none ∧ some a ≠ g.pa) (hL : acc.length ≤ L) (hL2 : L + 1000 < sizeLine)
    (hm : mi env fun items => items.length ≤ 1000 ∧ lcM b mt me (wipeE env vs) items acc Qd)
    (k : ∀ H' xs' acc' (T' : Addr → Prop), FrX g A H H' → PB g (B + (ci + Nmax * (ct + ce))) H' → H' A = some (.lst xs') → RepL g T' H' xs' acc' → ¬ T' A → (∀ a, T' a → O a ∧ H' a ≠ none ∧ some a ≠ g.pa) → acc'.length ≤ L + 1000 → Qd acc' → Nx H') :
    tiOf g mi R ci σ H fun J1 H4 => ∃ W1 : Nat → Nat → Hp → Prop, (∃ m, W1 0 m H4) ∧ ∀ j k H, W1 j k H →
      (J1.stop j H ∧ Nx H) ∨ (J1.go j H ∧ ∃ Nx1 : Hp → Prop, (∀ H', Nx1 H' → ∃ k', k' < k ∧ W1 (j + 1) k' H') ∧ ∀ x H', J1.yld j H x H' → tgOf g b ix x (wipe σ vs) H' fun σ3 H5 => wipe σ3 vs = wipe σ vs ∧ ttOf g mt ct σ3 H5 fun b H6 =>
        if b = true then teOf g me Re ce f σ3 H6 fun y H7 => ∃ acc, H7 A = some (.lst acc) ∧ acc.length < sizeLine ∧ Nx1 (upd H7 A (.lst (acc ++ [y]))) else Nx1 H6) := by
  refine ⟨env, S, B, _, rl, pb, by omega, hm, fun J H1 gv items fr1 pb1 rgv src hq => ?_⟩
  obtain ⟨hlen, hq⟩ := hq
  have hN : items.length ≤ Nmax := Nat.le_trans hlen (by decide)
  have cost : ∀ n, n ≤ items.length → B + ci + n * (ct + ce) ≤ B + (ci + Nmax * (ct + ce)) := fun n hn => by
    have z : n * (ct + ce) ≤ Nmax * (ct + ce) := Nat.mul_le_mul_right _ (Nat.le_trans hn hN)
    omega
  have eA1 : H1 A = some (.lst xs) := fr1 A _ nA eA
  refine ⟨fun i n Hc => n = items.length - i ∧ i ≤ items.length ∧ ∃ acc xs, ∃ T : Addr → Prop, Hc A = some (.lst xs) ∧ RepL g T Hc xs acc ∧ ¬ T A ∧ (∀ a, T a → O a ∧ Hc a ≠ none ∧ some a ≠ g.pa) ∧ FrX g A H1 Hc ∧ PB g (B + ci + i * (ct + ce)) Hc ∧ acc.length ≤ L + i ∧ lcM b mt me (wipeE env vs) (items.drop i) acc Qd,
    ⟨items.length, by simp, Nat.zero_le _, acc, xs, T, eA1, rA.goN (fun a o t e => ⟨t, fr1 a o (sT a t).2.2 e⟩), nT, fun a t => ⟨(sT a t).1, fun q => (sT a t).2.1 (fr1.back (sT a t).2.2 q), (sT a t).2.2⟩, FrX.refl, by simpa using pb1, by omega, by simpa using hq⟩, ?_⟩
  rintro i n Hc ⟨rfl, hi, acc, xs, T, e1, r1, nT, sT, frc, pbc, hacc, hlc⟩
  have UA : ∀ a, Sr g R S H H1 a → a ≠ A := fun a s e => by
    subst e
    rcases s.1 with q | ⟨j, _, q⟩
    · rw [eA] at q; cases q
    · exact hSA j a q rfl
  have UO : ∀ a, Sr g R S H H1 a → O a := fun a s => by
    rcases s.1 with q | ⟨j, hj, q⟩
    · exact hO a q s.2.2
    · exact hSO j a (List.mem_append_left _ hj) q
  have dom : ∀ a, Sr g R S H H1 a → Hc a ≠ none ∧ some a ≠ g.pa := fun a s => ⟨fun q => s.2.1 (frc.back s.2.2 (UA a s) q), s.2.2⟩
  have ghg : ∀ p, p ∈ gv → Rep g (Sr g R S H H1) Hc p.1 p.2 := fun p hp => (rgv p hp).goN fun a o s e => ⟨s, frc a o s.2.2 (UA a s) e⟩
  have sr := src (Sr g R S H H1) Hc _ dom pbc ghg i
  have fx : FrX g A H Hc := (FrX.of fr1).trans frc
  have fresh : ∀ a, Hc a = none → some a ≠ g.pa → a ≠ A ∧ O a := fun a q n => by
    have m : a ≠ A := fun e => by
      subst e
      rw [e1] at q
      cases q
    exact ⟨m, hO a (fx.back n m q) n⟩
  by_cases hlt : i < items.length
  · obtain ⟨go, yl⟩ := sr.1 items[i] (by simp [hlt])
    have c1 := cost (i + 1) hlt
    rw [Nat.succ_mul] at c1
    rw [List.drop_eq_getElem_cons hlt] at hlc
    refine .inr ⟨go, fun Hd => ∃ acc xs, ∃ T : Addr → Prop, Hd A = some (.lst xs) ∧ RepL g T Hd xs acc ∧ ¬ T A ∧ (∀ a, T a → O a ∧ Hd a ≠ none ∧ some a ≠ g.pa) ∧ FrX g A H1 Hd ∧ PB g (B + ci + (i + 1) * (ct + ce)) Hd ∧ acc.length ≤ L + (i + 1) ∧ lcM b mt me (wipeE env vs) (items.drop (i + 1)) acc Qd,
      fun Hd h => ⟨items.length - (i + 1), by omega, rfl, hlt, h⟩, fun x H3 y => ?_⟩
    obtain ⟨sm, rx⟩ := yl x H3 y
    have rl3 : Rl g (wipe σ vs) H3 (wipeE env vs) S := (rl.frX (fx.trans (FrX.of (Fr.of sm))) hSA).wipe vs
    have rs3 : Rs g H3 (fun _ => True) [] [] (wipe σ vs) H3 (wipeE env vs) S := ⟨rl3, Fr.refl, fun _ _ _ => .inr trivial, fun p hp => (by cases hp), fun j hj => (by cases hj)⟩
    refine ⟨H3, fun _ => True, [], [], wipeE env vs, S, Res g (Sr g R S H H1) Hc H3, items[i], _, rs3, rx, fun a s => ⟨s.2, .inr trivial⟩, fun j hj => (by cases hj), fun j hj => (by cases hj), hlc, fun σ4 env4 S4 r4 un hm4 => ?_⟩
    refine ⟨wipe_back un hix, ?_⟩
    have pb3 := pbc.same sm
    refine ⟨env4, S4, B + ci + i * (ct + ce), _, r4.rl, pb3, by omega, hm4, fun k2 H4 fr4 pb4 hm5 => ?_⟩
    have A3 : H3 A = some (.lst xs) := sm _ _ e1
    have A4 : H4 A = some (.lst xs) := fr4 _ _ nA A3
    have F4 : Fr g Hc H4 := (Fr.of sm).trans fr4
    have keepT : ∀ {Hx : Hp}, Fr g Hc Hx → RepL g T Hx xs acc ∧ ∀ a, T a → O a ∧ Hx a ≠ none ∧ some a ≠ g.pa := fun {Hx} fx => ⟨r1.goN fun a o t e => ⟨t, fx a o (sT a t).2.2 e⟩, fun a t => ⟨(sT a t).1, fun q => (sT a t).2.1 (fx.back (sT a t).2.2 q), (sT a t).2.2⟩⟩
    cases k2 with
    | false =>
      rw [if_neg Bool.false_ne_true] at hm5
      refine iteF ?_
      have z := keepT F4
      exact ⟨acc, xs, T, A4, z.1, nT, z.2, frc.trans (FrX.of F4), pb4.mono (by rw [Nat.succ_mul]; omega), by omega, hm5⟩
    | true =>
      rw [if_pos rfl] at hm5
      refine iteT ?_
      refine ⟨env4, S4, B + ci + i * (ct + ce) + ct, _, r4.rl.fr fr4, pb4, by omega, hm5, fun w H5 d A5 hm6 => ?_⟩
      have e5 : H5 A = some (.lst xs) := A5.fr _ _ nA A4
      have F5 : Fr g Hc H5 := F4.trans A5.fr
      have z := keepT F5
      refine ⟨xs, e5, by rw [r1.length]; omega, ?_⟩
      have src4 : ∀ a, Sr g Re S4 H4 H5 a → a ≠ A ∧ O a := fun a s => by
        rcases s.1 with q | ⟨j, hj, sj⟩
        · exact fresh a (F4.back s.2.2 q) s.2.2
        · rcases un.sub j a sj with sa | ua
          · exact ⟨hSA j a sa, hSO j a (List.mem_append_right _ hj) sa⟩
          · rcases ua.1 with q | q
            · exact fresh a q s.2.2
            · exact ⟨UA a q, UO a q⟩
      have off : ∀ {W : Addr → Prop}, ¬ W A → ∀ a o, W a → H5 a = some o → W a ∧ upd H5 A (.lst (xs ++ [w])) a = some o := fun {W} nw a o hw e => by
        have na : a ≠ A := fun q => nw (by rw [← q]; exact hw)
        refine ⟨hw, ?_⟩
        rw [upd_ne na]
        exact e
      have new : RepL g (fun a => T a ∨ (Sr g Re S4 H4 H5 a)) H5 (xs ++ [w]) (acc ++ [d]) := (z.1.mono fun a t => .inl t).append (.cons (A5.rep.mono fun a s => .inr s) .nil)
      have nN : ¬ (T A ∨ Sr g Re S4 H4 H5 A) := fun q => q.elim nT fun s => (src4 A s).1 rfl
      have dm : ∀ a, H5 a ≠ none → upd H5 A (.lst (xs ++ [w])) a ≠ none := fun a n => by
        by_cases q : a = A
        · rw [q, upd_same]
          exact fun z => nomatch z
        · rw [upd_ne q]
          exact n
      refine ⟨acc ++ [d], xs ++ [w], _, upd_same, new.go (off nN), nN, fun a t => ?_, (frc.trans (.of F5)).updA _, ?_, by simp; omega, hm6⟩
      · rcases t with t | s
        · have y := z.2 a t
          exact ⟨y.1, dm a y.2.1, y.2.2⟩
        · exact ⟨(src4 a s).2, dm a s.2.1, s.2.2⟩
      · have pp := A5.pb.mono (B' := B + ci + (i + 1) * (ct + ce)) (by rw [Nat.succ_mul]; omega)
        exact pp.put1 nA e5
  · have e : i = items.length := by omega
    subst e
    rw [List.drop_length] at hlc
    exact .inl ⟨sr.2 (Nat.le_refl _), k Hc xs acc T fx (pbc.mono (cost _ (Nat.le_refl _))) e1 r1 nT sT (by omega) hlc⟩
/-- [elt for target in iter if .. for target in iter if ..] -/
def lc2M (b : MG) (mt : MT) (mi1 : MA) (vs1 : List Nat) (b1 : MG) (mt1 : MT) (me : ME) (env : Env) : List D → List D → (List D → Prop) → Prop
  | [], acc, Q => Q acc
  | d :: ds, acc, Q => b d env fun env1 => mt env1 fun k => if k = true then mi1 env1 fun items1 => items1.length ≤ 1000 ∧ lcM b1 mt1 me (wipeE env1 vs1) items1 acc fun acc => lc2M b mt mi1 vs1 b1 mt1 me env ds acc Q
      else lc2M b mt mi1 vs1 b1 mt1 me env ds acc Q
def mLc2 (mi : MA) (vs : List Nat) (b : MG) (mt : MT) (mi1 : MA) (vs1 : List Nat) (b1 : MG) (mt1 : MT) (me : ME) : ME := fun env Q => mi env fun items => items.length ≤ 1000 ∧ lc2M b mt mi1 vs1 b1 mt1 me (wipeE env vs) items [] fun acc => Q (.lst acc)
theorem lc2_ok {b b1 : MG} {wi : TI} {vs vs1 : List Nat} (hix : ∀ i, i ∈ ix → i ∈ vs) (hix1 : ∀ i, i ∈ ix1 → i ∈ vs1)
    (ki : ∀ (σ : L2.St) (H : Hp) (env : Env) (S : SS) (B : Nat) (Qd : List D → Prop) (Rr : It → Hp → Prop), Rl g σ H env S → PB g B H → B + ci ≤ Bmax → mi env Qd → (∀ J H' gv items, Fr g H H' → PB g (B + ci) H' → (∀ p, p ∈ gv → Rep g (Sr g R S H H') H' p.1 p.2) → SrcOk g J gv items → Qd items → Rr J H') → wi σ H Rr) :
    SimT g (tLc2 wi (tgOf g b ix) (ttOf g mt ct) (tiOf g mi1 R1 ci1) (tgOf g b1 ix1) (ttOf g mt1 ct1) (teOf g me Re ce f) vs vs1) (mLc2 mi vs b mt mi1 vs1 b1 mt1 me) (R ++ (R1 ++ Re)) (ci + Nmax * (ct + (ci1 + Nmax * (ct1 + ce)))) true := by
  intro σ H env S B Qd Q rl pb hb hm k
  generalize hcc : ci1 + Nmax * (ct1 + ce) = cc at hb k ⊢
  refine ki σ H env S B _ _ rl pb (by omega) hm fun J H1 gv items fr1 pb1 rgv src hq => ?_
  obtain ⟨hlen, hq⟩ := hq
  intro A hA
  have nA : some A ≠ g.pa := pb1.not hA
  have hN : items.length ≤ Nmax := Nat.le_trans hlen (by decide)
  have cost : ∀ n, n ≤ items.length → B + ci + n * (ct + cc) ≤ B + (ci + Nmax * (ct + cc)) := fun n hn => by
    have z : n * (ct + cc) ≤ Nmax * (ct + cc) := Nat.mul_le_mul_right _ (Nat.le_trans hn hN)
    omega
  have frA : ∀ o, Fr g H1 (upd H1 A o) := fun o => Fr.of (same_new hA)
  have sz : 1000 * 1000 + 1000 < sizeLine := by decide
  refine ⟨fun i n Hc => n = items.length - i ∧ i ≤ items.length ∧ ∃ acc xs, ∃ T : Addr → Prop, Hc A = some (.lst xs) ∧ RepL g T Hc xs acc ∧ ¬ T A ∧ (∀ a, T a → Sr g (R ++ (R1 ++ Re)) S H Hc a) ∧ Fr g H1 Hc ∧ PB g (B + ci + i * (ct + cc)) Hc ∧ acc.length ≤ i * 1000 ∧ lc2M b mt mi1 vs1 b1 mt1 me (wipeE env vs) (items.drop i) acc fun acc => Qd (.lst acc),
    ⟨items.length, by simp, Nat.zero_le _, [], [], fun _ => False, upd_same, .nil, fun q => q, fun _ q => q.elim, frA _, by simpa using pb1.same (same_new hA), Nat.zero_le _, by simpa using hq⟩, ?_⟩
  rintro i n Hc ⟨rfl, hi, acc, xs, T, e1, r1, nT, sT, frc, pbc, hacc, hlc⟩
  have dom : ∀ a, Sr g R S H H1 a → Hc a ≠ none ∧ some a ≠ g.pa := fun a s => ⟨fun q => s.2.1 (frc.back s.2.2 q), s.2.2⟩
  have ghg : ∀ p, p ∈ gv → Rep g (Sr g R S H H1) Hc p.1 p.2 := fun p hp => (rgv p hp).goN fun a o s e => ⟨s, frc a o s.2.2 e⟩
  have sr := src (Sr g R S H H1) Hc _ dom pbc ghg i
  by_cases hlt : i < items.length
  · obtain ⟨go, yl⟩ := sr.1 items[i] (by simp [hlt])
    have c1 := cost (i + 1) hlt
    rw [Nat.succ_mul] at c1
    rw [List.drop_eq_getElem_cons hlt] at hlc
    refine .inr ⟨go, fun Hd => ∃ acc xs, ∃ T : Addr → Prop, Hd A = some (.lst xs) ∧ RepL g T Hd xs acc ∧ ¬ T A ∧ (∀ a, T a → Sr g (R ++ (R1 ++ Re)) S H Hd a) ∧ Fr g H1 Hd ∧ PB g (B + ci + (i + 1) * (ct + cc)) Hd ∧ acc.length ≤ (i + 1) * 1000 ∧ lc2M b mt mi1 vs1 b1 mt1 me (wipeE env vs) (items.drop (i + 1)) acc fun acc => Qd (.lst acc),
      fun Hd h => ⟨items.length - (i + 1), by omega, rfl, hlt, h⟩, fun x H3 y => ?_⟩
    obtain ⟨sm, rx⟩ := yl x H3 y
    have rl3 : Rl g (wipe σ vs) H3 (wipeE env vs) S := (rl.fr ((fr1.trans frc).trans (Fr.of sm))).wipe vs
    have rs3 : Rs g H3 (fun _ => True) [] [] (wipe σ vs) H3 (wipeE env vs) S := ⟨rl3, Fr.refl, fun _ _ _ => .inr trivial, fun p hp => (by cases hp), fun j hj => (by cases hj)⟩
    refine ⟨H3, fun _ => True, [], [], wipeE env vs, S, Res g (Sr g R S H H1) Hc H3, items[i], _, rs3, rx, fun a s => ⟨s.2, .inr trivial⟩, fun j hj => (by cases hj), fun j hj => (by cases hj), hlc, fun σ4 env4 S4 r4 un hm4 => ?_⟩
    refine ⟨wipe_back un hix, ?_⟩
    have pb3 := pbc.same sm
    refine ⟨env4, S4, B + ci + i * (ct + cc), _, r4.rl, pb3, by omega, hm4, fun k2 H4 fr4 pb4 hm5 => ?_⟩
    have A3 : H3 A = some (.lst xs) := sm _ _ e1
    have A4 : H4 A = some (.lst xs) := fr4 _ _ nA A3
    have F4 : Fr g Hc H4 := (Fr.of sm).trans fr4
    have z : RepL g T H4 xs acc ∧ ∀ a, T a → Sr g (R ++ (R1 ++ Re)) S H H4 a := ⟨r1.goN fun a o t e => ⟨t, F4 a o (sT a t).2.2 e⟩, fun a t => (sT a t).fwd (fun _ q => q) F4⟩
    cases k2 with
    | false =>
      rw [if_neg Bool.false_ne_true] at hm5
      refine iteF ?_
      exact ⟨acc, xs, T, A4, z.1, nT, z.2, frc.trans F4, pb4.mono (by rw [Nat.succ_mul]; omega), by omega, hm5⟩
    | true =>
      rw [if_pos rfl] at hm5
      refine iteT ?_
      have HA : H A = none := fr1.back nA hA
      have SA : ∀ j a, S4 j a → a ≠ A := fun j a sj e => by
        subst e
        rcases un.sub j a sj with sa | ua
        · exact (rl.dom j _ sa).1 HA
        · rcases ua.1 with q | q
          · rw [e1] at q; cases q
          · exact q.2.1 hA
      have SO : ∀ j a, j ∈ R1 ++ Re → S4 j a → (H a = none ∨ ∃ i, i ∈ R ++ (R1 ++ Re) ∧ S i a) := fun j a hj sj => by
        rcases un.sub j a sj with sa | ua
        · exact .inr ⟨j, List.mem_append_right _ hj, sa⟩
        · rcases ua.1 with q | q
          · exact .inl (fr1.back ua.2.2 (frc.back ua.2.2 q))
          · exact q.1.imp id fun ⟨i, h1, h2⟩ => ⟨i, List.mem_append_left _ h1, h2⟩
      have il : i * 1000 ≤ 999 * 1000 := Nat.mul_le_mul_right _ (by omega)
      refine lcI_ok (f := f) (ix := ix1) (B := B + ci + i * (ct + cc) + ct) (L := i * 1000) (O := fun a => H a = none ∨ ∃ i, i ∈ R ++ (R1 ++ Re) ∧ S i a) hix1 nA (r4.rl.fr fr4) pb4 (by rw [hcc]; omega) SA SO (fun a q n => .inl (fr1.back n (frc.back n (F4.back n q)))) A4 z.1 nT (fun a t => z.2 a t) hacc (by omega) hm5 ?_
      intro H' xs' acc' T' fx' pb' eA' r' nT' sT' ha' hm6
      refine ⟨acc', xs', T', eA', r', nT', sT', fx'.toFr (frc.trans F4) hA (by rw [eA']; exact (fun z => nomatch z)), pb'.mono (by rw [hcc, Nat.succ_mul]; omega), by rw [Nat.succ_mul]; exact ha', hm6⟩
  · have e : i = items.length := by omega
    subst e
    rw [List.drop_length] at hlc
    refine .inl ⟨sr.2 (Nat.le_refl _), k _ Hc _ ⟨fr1.trans frc, pbc.mono (cost _ (Nat.le_refl _)), ?_, fun _ ys q => ?_⟩ hlc⟩
    · exact .lst ⟨.inl (fr1.back nA hA), (by rw [e1]; exact fun q => nomatch q), nA⟩ e1 (r1.mono sT)
    · obtain rfl := kx_lst q
      exact ⟨A, xs, T, rfl, e1, fr1.back nA hA, r1, nT, sT⟩
theorem ve_lc2 {b b1 : MG} {vs vs1 : List Nat} {ifs ifs1 : List Expr} {blk : Shared → Hp → Addr → List (Str × Addr) → List Addr → Cx} (hi : VI g X tg iter mi R ci) (hg : ∀ s H C cl fp, VG g (blk s H C cl fp) tg b ix) (ht : ∀ s H C cl fp, VTs g (blk s H C cl fp) ifs mt ct)
    (hi1 : ∀ s H C cl fp, VI g (blk s H C cl fp) tg1 iter1 mi1 R1 ci1) (hg1 : ∀ s H C cl fp, VG g (blk s H C cl fp) tg1 b1 ix1) (ht1 : ∀ s H C cl fp, VTs g (blk s H C cl fp) ifs1 mt1 ct1) (he : ∀ s H C cl fp, VE g (blk s H C cl fp) elt me Re ce f)
    (hix : (ix.all fun i => vs.contains i) = true) (hix1 : (ix1.all fun i => vs1.contains i) = true)
    (hp : ∀ {wi wi1 : TI} {t t1 : TG} {tt tt1 : TT} {te : TE}, PI X tg iter wi → (∀ s H C cl fp, PG (blk s H C cl fp) tg t) → (∀ s H C cl fp, PTs (blk s H C cl fp) ifs tt) → (∀ s H C cl fp, PI (blk s H C cl fp) tg1 iter1 wi1) → (∀ s H C cl fp, PG (blk s H C cl fp) tg1 t1) → (∀ s H C cl fp, PTs (blk s H C cl fp) ifs1 tt1) → (∀ s H C cl fp, PE (blk s H C cl fp) elt te) → PE X e (tLc2 wi t tt wi1 t1 tt1 te vs vs1)) :
    VE g X e (mLc2 mi vs b mt mi1 vs1 b1 mt1 me) (R ++ (R1 ++ Re)) (ci + Nmax * (ct + (ci1 + Nmax * (ct1 + ce)))) true := by
  obtain ⟨wi, pi, ki⟩ := hi
  rw [List.all_eq_true] at hix hix1
  exact ⟨_, hp pi (fun s H C cl fp => (hg s H C cl fp).pg) (fun s H C cl fp => (ht s H C cl fp).pts) (fun s H C cl fp => (hi1 s H C cl fp).pi) (fun s H C cl fp => (hg1 s H C cl fp).pg) (fun s H C cl fp => (ht1 s H C cl fp).pts) (fun s H C cl fp => (he s H C cl fp).pe), lc2_ok (fun i h => by simpa using hix i h) (fun i h => by simpa using hix1 i h) ki⟩
end
end VL
namespace L2
open PySem PySem.Spec PyProof PyProof.Rows
variable {X : Cx} {tg : Expr}
def iRngQ2 (ta : TA) : TI := fun σ H R => ta σ H fun vs H1 => ∃ i j : Int, vs = [.int i, .int j] ∧ R (Itr i (j - i).toNat) H1
theorem pi_rangeQ2 {a b : Expr} {ta : TA} {p pos : Pos} (hg : Gl X "range") (hm : X.mg "range" = none) (ha : PA X [a, b] ta) (hs : starEach [a, b] X.env = [(false, eval a X.env), (false, eval b X.env)] := by rfl) (hs2 : starEach [b] X.env = [(false, eval b X.env)] := by rfl) :
    PI X tg (.Call (.Name "range" p) [a, b] [] pos) (iRngQ2 ta) := by
  refine ⟨fun pins s σ H R I h => ?_⟩
  refine Call_ (ld_blt I hg hm boot_range (PyProof.Rows.callWith_type1 (thn (ha.run pos pins s σ H _ I h) fun us s1 ⟨vs, H1, I1, r1, q1⟩ => ?_) (by rw [hs, hs2]) (by rw [hs2]; rfl)))
  obtain ⟨i, j, e, q⟩ := q1
  subst e
  cases r1 with
  | cons r rr =>
    cases rr with
    | cons r' rr =>
      cases rr
      obtain ⟨t, rfl⟩ := r
      obtain ⟨t', rfl⟩ := r'
      exact call_range_2 (range_itQ I1 q)
end L2
namespace VL
open PySem PySem.Spec PyProof.Rows L2
/-- a range from anywhere, of any length -/
def oRQ2 : List D → (List D → Prop) → Prop
  | [.int i, .int j], Q => Q (rngD i (j - i).toNat)
  | _, _ => False
theorem vi_rQ2 {g : Gm} {X : Cx} {tg iter : Expr} {ma : MA} {es : List Expr} {R : List Nat} {c : Nat} (h : VA g X es ma R c) (hp : ∀ {t : TA}, PA X es t → PI X tg iter (iRngQ2 t)) : VI g X tg iter (mIt oRQ2 ma) R c := by
  obtain ⟨t, p, k⟩ := h
  refine ⟨_, hp p, fun σ H env S B Qd Rr rl pb hb hm q => k σ H env S B _ _ rl pb hb hm fun vs H1 ds A z => ?_⟩
  have r := A.rep
  unfold oRQ2 at z
  split at z
  · obtain ⟨v, w, rfl, h, h'⟩ := repL2 r
    cases h
    cases h'
    exact ⟨_, _, rfl, q _ H1 [] _ A.fr A.pb (fun p hp => by cases hp) src_rng z⟩
  · exact z.elim
end VL

set_option Elab.async false
set_option linter.all false
set_option maxRecDepth 100000
set_option maxHeartbeats 4000000
/-! VL, part 6: an own list of tuples is given a tuple with a list that lay in it. -/
namespace VL
open PySem PySem.Spec PyProof.Rows L2
/-- a tuple of a scalar and a list of scalars -/
def wrD : D → Bool
  | .tup [x, .lst zs] => scD x && zs.all scD
  | _ => false
def hdT : List D → Bool
  | .tup _ :: _ => true
  | _ => false
def okW (k : Nat) (own R : List Nat) : Bool := own.all fun j => j == k || !R.contains j
theorem scLw_rep {g : Gm} {S : Addr → Prop} {H : Hp} : ∀ {zs : List D} {vs : List V}, RepL g S H vs zs → zs.all scD = true → ∀ T : Addr → Prop, RepL g T H vs zs
  | [], _, r, _, _ => by cases r; exact .nil
  | z :: zs, _, r, h, T => by
    cases r with
    | cons r1 r2 =>
      rw [List.all_cons, Bool.and_eq_true] at h
      exact .cons (scD_rep r1 h.1 _) (scLw_rep r2 h.2 T)
theorem wr_rep {g : Gm} {U T : Addr → Prop} {H : Hp} {v : V} {d : D} {l : Addr} {vs : List V} {xs : List D} (r : Rep g U H v d) (hd : wrD d = true) (hl : H l = some (.lst vs)) (rl : RepL g T H vs xs) (hx : hdT xs = true) : Rep g (fun a => U a ∧ a ≠ l) H v d := by
  unfold wrD at hd
  split at hd
  · rename_i x zs
    rw [Bool.and_eq_true] at hd
    cases r with
    | tup s e rt =>
      rename_i a vs1
      cases rt with
      | cons rx rt2 =>
        cases rt2 with
        | cons ry rn =>
          cases rn
          cases ry with
          | lst s2 e2 rz =>
            rename_i w vs2
            have na : a ≠ l := fun q => by rw [q, hl] at e; cases e
            have nw : w ≠ l := fun q => by
              rw [q, hl] at e2
              injection e2 with e2
              injection e2 with e2
              subst e2
              unfold hdT at hx
              split at hx
              · cases rl with
                | cons r1 r2 =>
                  cases r1
                  cases rz with
                  | cons q1 q2 =>
                    rename_i z zs'
                    rw [List.all_cons, Bool.and_eq_true] at hd
                    have y := hd.2.1
                    cases q1 <;> cases y
              · cases hx
            exact .tup ⟨s, na⟩ e (.cons (scD_rep rx hd.1 _) (.cons (.lst ⟨s2, nw⟩ e2 (scLw_rep rz hd.2 _)) .nil))
  · cases hd
def mSetIxW (k : Nat) (ma mb : ME) : MS := fun M env => isL env[k]? fun xs => ma env fun d => mb env fun y => isI y fun i => (wrD d = true ∧ hdT xs = true) ∧ match ixN xs.length i with
  | some j => M.nx (env.set k (some (.lst (xs.set j d))))
  | none => False
/-- a list, not empty, of such tuples -/
def wpD : D → Bool
  | .lst (d :: ds) => wrD d && ds.all wrD
  | _ => false
def hdL : List D → Bool
  | .lst _ :: _ => true
  | _ => false
theorem wr_avoid {g : Gm} {U : Addr → Prop} {H : Hp} {v : V} {d : D} {l b : Addr} {vs : List V} {us : List V} (r : Rep g U H v d) (hd : wrD d = true) (hl : H l = some (.lst (.ref b :: vs))) : Rep g (fun a => U a ∧ a ≠ l) H v d := by
  unfold wrD at hd
  split at hd
  · rename_i x zs
    rw [Bool.and_eq_true] at hd
    cases r with
    | tup s e rt =>
      rename_i a vs1
      cases rt with
      | cons rx rt2 =>
        cases rt2 with
        | cons ry rn =>
          cases rn
          cases ry with
          | lst s2 e2 rz =>
            rename_i w vs2
            have na : a ≠ l := fun q => by rw [q, hl] at e; cases e
            have nw : w ≠ l := fun q => by
              rw [q, hl] at e2
              injection e2 with e2
              injection e2 with e2
              subst e2
              cases rz with
              | cons q1 q2 =>
                rename_i z zs'
                rw [List.all_cons, Bool.and_eq_true] at hd
                have y := hd.2.1
                cases q1 <;> cases y
            exact .tup ⟨s, na⟩ e (.cons (scD_rep rx hd.1 _) (.cons (.lst ⟨s2, nw⟩ e2 (scLw_rep rz hd.2 _)) .nil))
  · cases hd
theorem wrL_avoid {g : Gm} {U : Addr → Prop} {H : Hp} {l b : Addr} {vs : List V} (hl : H l = some (.lst (.ref b :: vs))) : ∀ {ds : List D} {us : List V}, RepL g U H us ds → ds.all wrD = true → RepL g (fun a => U a ∧ a ≠ l) H us ds
  | [], _, r, _ => by cases r; exact .nil
  | d :: ds, _, r, h => by
    cases r with
    | cons r1 r2 =>
      rw [List.all_cons, Bool.and_eq_true] at h
      exact .cons (wr_avoid (us := []) r1 h.1 hl) (wrL_avoid hl r2 h.2)
theorem wp_rep {g : Gm} {U T : Addr → Prop} {H : Hp} {v : V} {d : D} {l : Addr} {vs : List V} {xs : List D} (r : Rep g U H v d) (hd : wpD d = true) (hl : H l = some (.lst vs)) (rl : RepL g T H vs xs) (hx : hdL xs = true) : Rep g (fun a => U a ∧ a ≠ l) H v d := by
  unfold hdL at hx
  split at hx
  · cases rl with
    | cons r1 r2 =>
      rename_i v1 vs1
      cases r1 with
      | lst s1 e1 q1 =>
        rename_i b us
        unfold wpD at hd
        split at hd
        · rename_i d0 ds0
          have hall : (d0 :: ds0).all wrD = true := hd
          cases r with
          | lst s e rd =>
            rename_i a ws
            refine .lst ⟨s, fun q => ?_⟩ e (wrL_avoid hl rd hall)
            rw [q, hl] at e
            injection e with e
            injection e with e
            subst e
            cases rd with
            | cons k1 k2 =>
              rw [Bool.and_eq_true] at hd
              have w := hd.1
              unfold wrD at w
              split at w
              · cases k1 with
                | tup _ e3 _ =>
                  rw [e1] at e3
                  cases e3
              · cases w
        · cases hd
  · cases hx
/-- an own list is given d for an item; C tells that d does not lead to the list -/
def mSetIxG (C : D → List D → Prop) (k : Nat) (ma mb : ME) : MS := fun M env => isL env[k]? fun xs => ma env fun d => mb env fun y => isI y fun i => C d xs ∧ match ixN xs.length i with
  | some j => M.nx (env.set k (some (.lst (xs.set j d))))
  | none => False
def mSetIxP : Nat → ME → ME → MS := mSetIxG fun d xs => wpD d = true ∧ hdL xs = true
section
variable {g : Gm} {rk fa fb : Bool} {xw : Option WX} {X : Cx} {e b : Expr} {ma mb : ME} {Ra Rb : List Nat} {ca cb : Nat} {own ol : List Nat} {pos : Pos}
theorem vs_setIxG {C : D → List D → Prop} (hC : ∀ {U T : Addr → Prop} {H : Hp} {v : V} {d : D} {l : Addr} {vs : List V} {xs : List D}, Rep g U H v d → C d xs → H l = some (.lst vs) → RepL g T H vs xs → Rep g (fun a => U a ∧ a ≠ l) H v d) {k : Nat} {tg : Expr} (ha : VE g X e ma Ra ca fa) (hb : VE g X b mb Rb cb fb) (hk : k ∈ own) (ok : okW k own Ra = true)
    (hp : ∀ {t u : TE}, PE X e t → PE X b u → PS X (.Assign [tg] e pos) (tAsg t (gSub (tVar k) u rSetL))) : VS g rk xw ol X (.Assign [tg] e pos) (mSetIxG C k ma mb) own own (ca + cb) := by
  obtain ⟨t, p, q⟩ := ha
  obtain ⟨t', p', q'⟩ := hb
  refine ⟨_, hp p p', fun H0 A0 gs σ H env S B M D' r pb hb hm br => ?_⟩
  obtain ⟨xs, he, hm⟩ := isL_of hm
  refine q σ H env S B _ _ r.rl pb (by omega) hm fun v H1 d A z => ?_
  obtain ⟨ys, l, vs, T, h1, h2, h3, h4, h5, h6, h7, h8, h9, h10, h11⟩ := r.ow k hk _ he rfl
  obtain rfl := kx_lst h1
  refine ⟨.ref l, h2, ?_⟩
  refine q' σ H1 env S (B + ca) _ _ (r.rl.fr A.fr) A.pb (by omega) z fun w H2 y A2 z2 => ?_
  unfold isI at z2
  split at z2
  · rename_i i
    have r2 := A2.rep
    cases r2
    obtain ⟨z3, z4⟩ := z2
    split at z4
    · rename_i j ej
      have hl1 : H1 l = some (.lst vs) := A.fr l _ h5 h3
      have rl1 : RepL g T H1 vs xs := h6.goN fun a o t e => ⟨t, A.fr a o (r.rl.dom k a (h8 a t)).2 e⟩
      have rp := hC A.rep z3 hl1 rl1
      have okall : ∀ j, j ∈ own → j ≠ k → j ∉ Ra := fun j hj hjk => by
        unfold okW at ok
        rw [List.all_eq_true] at ok
        have q := ok j hj
        simpa [hjk] using q
      have hU : ∀ a, (Sr g Ra S H H1 a ∧ a ≠ l) → (H1 a ≠ none ∧ some a ≠ g.pa) ∧ (H0 a = none ∨ A0 a) := fun a s => ⟨s.1.2, sr_al r s.1⟩
      have hn : ∀ j, j ∈ own → ∀ l', σ[j]? = some (some (.ref l')) → (∃ e, env[j]? = some (some e)) → ¬ (Sr g Ra S H H1 l' ∧ l' ≠ l) := fun j hj l' hs he' s => by
        by_cases jk : j = k
        · subst jk
          rw [hs] at h2
          cases h2
          exact s.2 rfl
        · obtain ⟨e', he'⟩ := he'
          obtain ⟨xs', l2, vs2, T2, k1, k2, k3, k4, k5, k6, k7, k8, k9, k10, k11⟩ := r.ow2 hj he' hs
          rw [hs] at k2
          cases k2
          rcases s.1.1 with q | ⟨i, hiR, si⟩
          · rw [k3] at q
            cases q
          · by_cases e : i = j
            · subst e
              exact okall i hj jk hiR
            · exact k10 i e si
      have r1 := (r.go A.fr).go A2.fr
      have hU2 : ∀ a, (Sr g Ra S H H1 a ∧ a ≠ l) → (H2 a ≠ none ∧ some a ≠ g.pa) ∧ (H0 a = none ∨ A0 a) := fun a u => ⟨⟨fun q => (hU a u).1.1 (A2.fr.back (hU a u).1.2 q), (hU a u).1.2⟩, (hU a u).2⟩
      have rp2 : Rep g (fun a => Sr g Ra S H H1 a ∧ a ≠ l) H2 v d := rp.goN fun a o u e => ⟨u, A2.fr a o (hU a u).1.2 e⟩
      obtain ⟨l', vs', g1, g2, T', g3, g4⟩ := r1.mutate hk he hU2 hn
      rw [h2] at g1
      cases g1
      refine ⟨l, vs', i, j, rfl, rfl, g2, by rw [g3.length]; exact ej, ?_⟩
      have fin := g4 (vs'.set j v) (xs.set j d) ((g3.mono fun a t => .inl t).set j (rp2.mono fun a u => .inr u))
      exact br.nx _ _ _ _ fin.2.2 ((fin.2.1 _ A2.pb).mono (by omega)) z4
    · exact z4.elim
  · exact z2.elim
theorem vs_setIxW {k : Nat} {tg : Expr} (ha : VE g X e ma Ra ca fa) (hb : VE g X b mb Rb cb fb) (hk : k ∈ own) (ok : okW k own Ra = true)
    (hp : ∀ {t u : TE}, PE X e t → PE X b u → PS X (.Assign [tg] e pos) (tAsg t (gSub (tVar k) u rSetL))) : VS g rk xw ol X (.Assign [tg] e pos) (mSetIxW k ma mb) own own (ca + cb) :=
  vs_setIxG (C := fun d xs => wrD d = true ∧ hdT xs = true) (fun r c hl rl => wr_rep r c.1 hl rl c.2) ha hb hk ok hp
theorem vs_setIxP {k : Nat} {tg : Expr} (ha : VE g X e ma Ra ca fa) (hb : VE g X b mb Rb cb fb) (hk : k ∈ own) (ok : okW k own Ra = true)
    (hp : ∀ {t u : TE}, PE X e t → PE X b u → PS X (.Assign [tg] e pos) (tAsg t (gSub (tVar k) u rSetL))) : VS g rk xw ol X (.Assign [tg] e pos) (mSetIxP k ma mb) own own (ca + cb) :=
  vs_setIxG (C := fun d xs => wpD d = true ∧ hdL xs = true) (fun r c hl rl => wp_rep r c.1 hl rl c.2) ha hb hk ok hp
/-- a tuple of scalars -/
def tiD : D → Bool
  | .tup zs => zs.all scD
  | _ => false
theorem ti_rep {g : Gm} {U : Addr → Prop} {H : Hp} {v : V} {d : D} {l : Addr} {vs : List V} (r : Rep g U H v d) (hd : tiD d = true) (hl : H l = some (.lst vs)) : Rep g (fun a => U a ∧ a ≠ l) H v d := by
  unfold tiD at hd
  split at hd
  · rename_i zs
    cases r with
    | tup s e rt => exact .tup ⟨s, fun q => by rw [q, hl] at e; cases e⟩ e (scLw_rep rt hd _)
  · cases hd
def mSetIxT : Nat → ME → ME → MS := mSetIxG fun d _ => tiD d = true
theorem vs_setIxT {k : Nat} {tg : Expr} (ha : VE g X e ma Ra ca fa) (hb : VE g X b mb Rb cb fb) (hk : k ∈ own) (ok : okW k own Ra = true)
    (hp : ∀ {t u : TE}, PE X e t → PE X b u → PS X (.Assign [tg] e pos) (tAsg t (gSub (tVar k) u rSetL))) : VS g rk xw ol X (.Assign [tg] e pos) (mSetIxT k ma mb) own own (ca + cb) :=
  vs_setIxG (C := fun d _ => tiD d = true) (fun r c hl _ => ti_rep r c hl) ha hb hk ok hp
/-- a, b = a list of two -/
def bLst (bs : MGs) : MG := fun d env Q => match d with
  | .lst ds => bs ds env Q
  | _ => False
theorem vg_lst {ix : List Nat} {es : List Expr} {bs : MGs} {k0 : Nat} {p0 : Pos} (h : VGs g X es bs ix) (hn : ∀ {t : TGs}, PGs X es t → PG X (.Tuple es k0 p0) (gLst X.K es.length t)) (hl : ∀ ds env Q, bs ds env Q → ds.length = es.length) : VG g X (.Tuple es k0 p0) (bLst bs) ix := by
  obtain ⟨t, p, k⟩ := h
  refine ⟨_, hn p, fun H0 A0 own gs σ H env S U v d Qe Q r rp hU hix hn hb q => ?_⟩
  unfold bLst at hb
  split at hb
  · cases rp with
    | lst s e0 r0 => exact ⟨_, _, rfl, SqL.of e0, by rw [r0.length]; exact hl _ _ _ hb, k H0 A0 own gs σ H env S U _ _ _ _ r r0 hU hix hn hb q⟩
  · exact hb.elim
end
end VL

set_option Elab.async false
set_option linter.all false
set_option maxRecDepth 100000
set_option maxHeartbeats 4000000
/-! VL, part 7: list(range(..)) of great numbers. -/
namespace LgR
open PySem PyProof
open PySem.Sem (wp)
section
variable {prog : Program} {w : World} {A : Around} {E : Value → Shared → Prop} {s : Shared}
def ito (a b c : Int) : Obj := { cls := .type "longrange_iterator", data := .fields #[rawInt a, rawInt (Builtin.Range.rangeSize a b c), rawInt c] }
/-- the loop that fills a new list, from a great range's iterator at I -/
theorem fill {R : Result → Shared → Prop} (hh : A.handled = none) {a c : Int} {n : Nat} (hlen : n ≤ 2 ^ 24) {S I : Addr} (hSI : S ≠ I) (res : Value) {h : Heap} {c₁ tk : Nat} (hit : IsLongIter h I (a + ((0 : Nat) : Int) * c) ((n : Int) - ((0 : Nat) : Int)) c)
    (hS : h.get? S = some { cls := .type "list", data := .seq #[] c₁ })
    (hR : ∀ h' tk' acc c', (∀ b o, b ≠ S → b ≠ I → h.get? b = some o → h'.get? b = some o) → h'.get? S = some { cls := .type "list", dict := none, data := .seq acc c', slots := #[] } → ItemsOf (fun i v => ∃ t, v = .int (a + i * c) t) acc n → R (.ok (.ret res)) { s with heap := h', toks := tk' }) :
    codeAny (model prog w) A (.builtin "list.extend.loop" ⟨[.ref S, .ref I, res], []⟩) R { s with heap := h, toks := tk } := by
  have W := (Walks.longrange (prog := prog) (w := w) (A := A.in1) hh I a c n).toS
  refine codeAny_extend_loopS W (by rw [sizeLine_eq]; omega) S (fun q => hSI (List.mem_singleton.mp q)) res n 0 _ #[] c₁ rfl (Nat.zero_le _) hit hS (ItemsOf.nil _) fun s' acc c' hm hS' hacc => ?_
  rw [Moved.eq_with hm]
  refine hR s'.heap s'.toks acc c' (fun b o hb hb2 e => hm.heap b o (fun q => ?_) e) hS' hacc
  rcases List.mem_cons.mp q with q | q
  · exact hb q
  · exact hb2 (List.mem_singleton.mp q)
theorem extend {R : Result → Shared → Prop} {r : Addr} {a b c : Int} {t u v : Tok} {n : Nat} (hh : A.handled = none) (hr : IsRange s.heap r a b c t u v) (hbig : Builtin.Range.small a b c = false)
    (hn : Builtin.Range.rangeSize a b c = n) (hlen : n ≤ 2 ^ 24) (S : Addr) (res : Value) (c₀ : Nat) (hS : s.heap.get? S = some { cls := .type "list", data := .seq #[] c₀ })
    (hR : ∀ h' tk acc c', (∀ b o, b ≠ S → s.heap.get? b = some o → h'.get? b = some o) → h'.get? S = some { cls := .type "list", dict := none, data := .seq acc c', slots := #[] } →
      ItemsOf (fun i v => ∃ t, v = .int (a + i * c) t) acc n → R (.ok (.ret res)) { s with heap := h', toks := tk }) :
    wpAny (model prog w) A.in1 (Builtin.List.listExtendWith (.ref S) (.ref r) res)
      (fun fin s' => match fin with | .done f => R (.ok f) s' | .again c' => c'.quiet = true ∧ codeAny (model prog w) A c' R s') (fun e s' => R (.error e) s') s := by
  have hSr : S ≠ r := fun e => by rw [e, hr] at hS; simp at hS
  have hSI : S ≠ s.heap.objs.size := Nat.ne_of_lt (Heap.lt_size hS)
  have go : ∀ (h : Heap) (c₁ tk : Nat), IsLongIter h s.heap.objs.size (a + ((0 : Nat) : Int) * c) ((n : Int) - ((0 : Nat) : Int)) c → (∀ b o, b ≠ S → s.heap.get? b = some o → h.get? b = some o) →
      h.get? S = some { cls := .type "list", data := .seq #[] c₁ } → codeAny (model prog w) A (.builtin "list.extend.loop" ⟨[.ref S, .ref s.heap.objs.size, res], []⟩) R { s with heap := h, toks := tk } := fun h c₁ tk hit hk hS1 =>
    fill hh hlen hSI res hit hS1 fun h' tk' acc c' k e hi => hR h' tk' acc c' (fun b o hb e => k b o hb (Nat.ne_of_lt (Heap.lt_size e)) (hk b o hb e)) e hi
  unfold Builtin.List.listExtendWith
  refine wpAny_bind (wpAny_typeOf (T := "range") ⟨_, hr, rfl⟩ ?_)
  have h1 : Builtin.List.listSameRef (.ref S) (.ref r) = false := by simp [Builtin.List.listSameRef, hSr]
  have h2 : (Value.type "range" == Value.type "list") = false := by decide
  have h3 : (Value.type "range" == Value.type "tuple") = false := by decide
  simp only [h1, h2, h3, Bool.or_false, Bool.false_eq_true, if_false]
  refine wpAny_bind (wpAny_pyIter_longrange hr hbig ?_)
  refine wpAny_bind (wpAny_holding (wpAny_hint_range (n := n) (Heap.get?_push_of_some _ hr) hn hlen ?_))
  have it1 : IsLongIter (s.heap.push (ito a b c)) s.heap.objs.size (a + ((0 : Nat) : Int) * c) ((n : Int) - ((0 : Nat) : Int)) c := by
    show IsLongIter _ _ _ _ _
    unfold ito
    rw [hn]
    simpa using Heap.get?_push_size _ rfl
  have l1 := Heap.get?_push_of_some (ito a b c) hS
  refine wpAny_ite_split (fun _ => ?_) (fun _ => wpAny_pure ⟨plainId_quiet F.plain_extend_loop _, go _ c₀ _ it1 (fun b o _ e => Heap.get?_push_of_some _ e) l1⟩)
  refine wpAny_bind (wpAny_rule ?_)
  refine wpAny_bind ?_
  show wpAny _ _ (updateSeq S (·.push .none) >>= fun _ => updateSeq S (·.pop)) _ _ _
  refine wpAny_bind (wpAny_updateSeq l1 rfl ?_)
  have l2 := Heap.get?_update_self (Obj.mapSeq (·.push Value.none)) l1 rfl
  refine wpAny_updateSeq (hz := by seq_fits) l2 rfl ?_
  have l3 := Heap.get?_update_self (Obj.mapSeq (·.pop)) l2 rfl
  refine wpAny_pure ⟨plainId_quiet F.plain_extend_loop _, go _ _ _ ?_ (fun b o hb e => ?_) l3⟩
  · exact (Heap.get?_update_other _ _ hSI).trans ((Heap.get?_update_other _ _ hSI).trans it1)
  · exact (Heap.get?_update_other _ _ (Ne.symm hb)).trans ((Heap.get?_update_other _ _ (Ne.symm hb)).trans (Heap.get?_push_of_some _ e))
theorem init {R : Result → Shared → Prop} {r : Addr} {a b c : Int} {t u v : Tok} {n : Nat} (hh : A.handled = none) (hr : IsRange s.heap r a b c t u v) (hbig : Builtin.Range.small a b c = false)
    (hn : Builtin.Range.rangeSize a b c = n) (hlen : n ≤ 2 ^ 24) (S : Addr) (hS : s.heap.get? S = some { cls := .type "list", data := .seq #[] })
    (hR : ∀ h' tk acc c', (∀ b o, b ≠ S → s.heap.get? b = some o → h'.get? b = some o) → h'.get? S = some { cls := .type "list", dict := none, data := .seq acc c', slots := #[] } →
      ItemsOf (fun i v => ∃ t, v = .int (a + i * c) t) acc n → R (.ok (.ret .none)) { s with heap := h', toks := tk }) :
    wpAny (model prog w) A.in1 (Builtin.«list.__init__» ⟨[.ref S, .ref r], []⟩)
      (fun fin s' => match fin with | .done f => R (.ok f) s' | .again c' => c'.quiet = true ∧ codeAny (model prog w) A c' R s') (fun e s' => R (.error e) s') s := by
  have hSr : S ≠ r := fun e => by rw [e, hr] at hS; simp at hS
  show wpAny _ _ (do let old ← Builtin.List.listItems (.ref S); Builtin.List.listUpdate (.ref S) (fun _ => #[]); letGo old.toList.reverse; Builtin.List.listExtendWith (.ref S) (.ref r) .none) _ _ s
  refine wpAny_bind ?_
  unfold Builtin.List.listItems
  refine wpAny_bind (wpAny_seqItems hS rfl (wpAny_pure ?_))
  show wpAny _ _ (updateSeq S (fun _ => #[]) >>= fun _ => letGo (#[] : Array Value).toList.reverse >>= fun _ => Builtin.List.listExtendWith (.ref S) (.ref r) .none) _ _ s
  refine wpAny_bind (wpAny_updateSeq hS rfl ?_)
  have l2 := Heap.get?_update_self (Obj.mapSeq (fun _ => (#[] : Array Value))) hS rfl
  have oth : ∀ b o, b ≠ S → s.heap.get? b = some o → (s.heap.update S (Obj.mapSeq (fun _ => (#[] : Array Value)))).get? b = some o :=
    fun b o hb e => (Heap.get?_update_other _ _ (Ne.symm hb)).trans e
  refine wpAny_bind (wpAny_letGo ?_)
  refine extend hh (oth r _ (Ne.symm hSr) hr) hbig hn hlen S .none _ l2 fun h' tk acc c' hk hS' hacc => ?_
  exact hR h' tk acc c' (fun b o hb e => hk b o hb (oth b o hb e)) hS' hacc
theorem call_long {Q : Value → Shared → Prop} {r : Addr} {a b c : Int} {t u v : Tok} {n : Nat} (hh : A.handled = none) (hr : IsRange s.heap r a b c t u v) (hn : Builtin.Range.rangeSize a b c = n) (hlen : n ≤ 2 ^ 24)
    (hQ : ∀ h' tk acc c', (∀ b o, s.heap.get? b = some o → h'.get? b = some o) →
      h'.get? s.heap.objs.size = some { cls := .type "list", dict := none, data := .seq acc c', slots := #[] } → ItemsOf (fun i v => ∃ t, v = .int (a + i * c) t) acc n → Q (.ref s.heap.objs.size) { s with heap := h', toks := tk }) :
    wpAny (model prog w) A (call (.type "list") [.ref r]) Q E s := by
  cases hs : Builtin.Range.small a b c with
  | true => exact call_list_range hh hr hs hn hlen hQ
  | false =>
    refine callType_codes (Q₁ := fun obj s₁ => obj = .ref s.heap.objs.size ∧ s₁ = { s with heap := s.heap.push { cls := .type "list", data := .seq #[] } }) F.called_list (F.typeCall_list_1 _) F.entry_list_init
      (code_list_new _ ⟨rfl, rfl⟩) fun obj s₁ h₁ => ?_
    obtain ⟨rfl, rfl⟩ := h₁
    have hS : (s.heap.push { cls := .type "list", data := .seq #[] }).get? s.heap.objs.size = some { cls := .type "list", data := .seq #[] } := Heap.get?_push_size _ rfl
    refine ⟨⟨_, hS, rfl⟩, F.args_list_init_2 _ _, init (A := A.in1) hh (Heap.get?_push_of_some _ hr) hs hn hlen _ hS fun h' tk acc c' hk hS' hacc => ?_⟩
    exact ⟨rfl, hQ h' tk acc c' (fun b o e => hk b o (Nat.ne_of_lt (Heap.lt_size e)) (Heap.get?_push_of_some _ e)) hS' hacc⟩
end
end LgR
namespace L2
open PySem PySem.Spec PyProof PyProof.Rows
variable {X : Cx} {e : Expr} {te : St → Hp → (Int → Int → Hp → Prop) → Prop}
def tLstRgQ (te : St → Hp → (Int → Int → Hp → Prop) → Prop) : TE := fun σ H Q => te σ H fun a b H1 => (b - a).toNat ≤ 2 ^ 24 ∧ ∀ q, H1 q = none → Q (.ref q) (upd H1 q (.lst (rgV a b)))
theorem pe_listRgQ {p pos : Pos} (hc : X.calm = true) (hg : Gl X "list") (hm : X.mg "list" = none) (he : PRg X e te) (na : starEach [e] X.env = (false, eval e X.env) :: starEach [] X.env := by rfl) : PE X (.Call (.Name "list" p) [e] [] pos) (tLstRgQ te) := by
  refine ⟨fun pins s σ H Q I h => ?_⟩
  refine Call_ (ld_blt I hg hm boot_list (PyProof.Rows.callWith_type1 (args_cons (thn (he pins s σ H _ I h) fun x s1 ⟨r, a, b, t, u, v, H1, ex, hr, I1, ok, q⟩ => args_nil ?_) na) na))
  subst ex
  refine LgR.call_long (n := (b - a).toNat) (I1.ok.hd hc) hr (rangeSize_nat a b) ok fun h' tk acc c' hk e' hi => ?_
  refine ⟨.ref s1.heap.objs.size, upd H1 s1.heap.objs.size (.lst (rgV a b)), I1.laid hk (Nat.le_refl _) (show ObjOk X.prog X.w _ _ _ (.lst (rgV a b)) from ⟨?_, acc.toList, c', vals_rg hi, ?_⟩), rfl, q _ (I1.hok.fresh (Nat.le_refl _))⟩
  · rw [rgV_length, sizeLine_eq]; omega
  · rw [Array.toArray_toList]; exact e'
end L2
namespace VL
open PySem PySem.Spec PyProof.Rows L2
section
variable {X : Cx} {g : Gm} {a b e : Expr} {ma mb : ME} {Ra Rb : List Nat} {ca cb : Nat} {fa fb : Bool}
def rLRQ : R2 := fun x y H Q => ∃ i j, x = .int i ∧ y = .int j ∧ (j - i).toNat ≤ 2 ^ 24 ∧ ∀ q, H q = none → Q (.ref q) (upd H q (.lst (rgV i j)))
def oLRQ (i j : D) (Q : D → Prop) : Prop := match i, j with
  | .int i, .int j => (j - i).toNat ≤ 2 ^ 24 ∧ Q (.lst (rngD i (j - i).toNat))
  | _, _ => False
theorem sim_lrQ : Sim2 g true rLRQ oLRQ := by
  intro S H B x y dx dy Qd Q hd pb rx ry hm k
  unfold oLRQ at hm
  split at hm
  · cases rx
    cases ry
    exact ⟨_, _, rfl, rfl, hm.1, fun q hq => give_lst pb hd hq (rng_rep _ _) k hm.2⟩
  · exact hm.elim
theorem ve_lr2Q (hp : ∀ {ta tb : TE}, PE X a ta → PE X b tb → PE X e (tLstRgQ (tRg2 ta tb))) (ha : VE g X a ma Ra ca fa) (hb : VE g X b mb Rb cb fb) : VE g X e (m2 oLRQ ma mb) (Ra ++ Rb) (ca + cb) true := by
  obtain ⟨ta, pa, ka⟩ := ha
  obtain ⟨tb, pb, kb⟩ := hb
  refine ⟨_, hp pa pb, fun σ H env S B Qd Q rl pbd hbd hm k => ?_⟩
  refine ka σ H env S B (fun x => mb env fun y => oLRQ x y Qd) _ rl pbd (by omega) hm fun x H1 dx A1 hm1 => ?_
  refine kb σ H1 env S (B + ca) _ _ (rl.fr A1.fr) A1.pb (by omega) hm1 fun y H2 dy A2 hm2 => ?_
  have F2 := A1.fr.trans A2.fr
  have w : rLRQ x y H2 Q := by
    refine sim_lrQ (Sr g (Ra ++ Rb) S H H2) H2 (B + ca + cb) x y dx dy Qd Q (fun a s => s.2) A2.pb ?_ ?_ hm2 fun v H3 d sm rp fs q => ?_
    · exact A1.rep.goN fun a o s e => ⟨s.fwd (fun i h => List.mem_append_left _ h) A2.fr, A2.fr a o s.2.2 e⟩
    · exact A2.rep.mono fun a s => s.aft (fun i h => List.mem_append_right _ h) A1.fr
    · have F3 := F2.trans (Fr.of sm)
      have up : ∀ a, Res g (Sr g (Ra ++ Rb) S H H2) H2 H3 a → Sr g (Ra ++ Rb) S H H3 a := fun a s => ⟨s.1.elim (fun n => .inl (F2.back s.2.2 n)) fun s1 => s1.1, s.2⟩
      exact k v H3 d ⟨F3, (A2.pb.same sm).mono (by omega), rp.mono up, fun z => fsh_up (fun a n e => F2.back n e) A2.pb up (fs z)⟩ q
  exact w
end
end VL
namespace VL
open PySem PySem.Spec PyProof.Rows L2
/-! ### the turns of a law that asks two things -/
section
variable {right right2 : List D → (D → Prop) → Prop} {M : MEnds} {n : Nat} {a : Addr}
theorem turn_two (hr : ∀ Q : D → Prop, Q (.bl true) → right [.pool] Q) (hr2 : ∀ Q : D → Prop, Q (.bl true) → right2 [.pool] Q) {env : Env} (h2 : env[2]? = some (some .pool)) (hn : M.nx env) : mIfS (mOr (mNot (mB (mCall right (mCons (mVar 2) mNil)))) (mNot (mB (mCall right2 (mCons (mVar 2) mNil))))) (mRet (mC (.bl false))) mNext M env := by
  show mVar 2 env _
  unfold mVar
  rw [h2]
  refine hr _ ?_
  show mVar 2 env _
  unfold mVar
  rw [h2]
  exact hr2 _ hn
theorem turns_two (hr : ∀ Q : D → Prop, Q (.bl true) → right [.pool] Q) (hr2 : ∀ Q : D → Prop, Q (.bl true) → right2 [.pool] Q) (hn : ∀ env, Turn0 n a env → M.nx env) : ∀ (items : List D) (env : Env), Turn0 n a env → forM (bName 3) (mIfS (mOr (mNot (mB (mCall right (mCons (mVar 2) mNil)))) (mNot (mB (mCall right2 (mCons (mVar 2) mNil))))) (mRet (mC (.bl false))) mNext) M items env
  | [], env, h => hn env h
  | d :: ds, env, h => turn_two hr hr2 (h.set d).2.2 (turns_two hr hr2 hn ds _ (h.set d))
end
end VL

set_option Elab.async false
set_option linter.all false
set_option maxRecDepth 100000
set_option maxHeartbeats 4000000
/-! VL, part 8: dicts whose items are all True. -/
namespace VL
open PySem PySem.Spec PyProof.Rows L2 StX RZ

/-! ### the keys as a list without repeats -/
section
variable {κ κ' : Type} [DecidableEq κ] [DecidableEq κ']
def dadd (ks : List κ) (k : κ) : List κ := if k ∈ ks then ks else ks ++ [k]
theorem mem_dadd {ks : List κ} {k x : κ} : x ∈ dadd ks k ↔ x ∈ ks ∨ x = k := by
  unfold dadd
  split
  · rename_i h
    exact ⟨.inl, fun z => z.elim id fun e => e ▸ h⟩
  · simp
theorem nodup_dadd {ks : List κ} {k : κ} (h : ks.Nodup) : (dadd ks k).Nodup := by
  unfold dadd
  split
  · exact h
  · rename_i n
    refine List.nodup_append.mpr ⟨h, by simp, fun x hx y hy => ?_⟩
    simp at hy
    subst hy
    exact fun e => n (e ▸ hx)
theorem len_dadd (ks : List κ) (k : κ) : (dadd ks k).length ≤ ks.length + 1 := by
  unfold dadd
  split
  · omega
  · simp
theorem any_tr {f : κ → κ'} (hf : ∀ a b, f a = f b → a = b) (ks : List κ) (k : κ) : ((ks.map fun x => (f x, V.bl true)).any fun kv => decide (kv.1 = f k)) = decide (k ∈ ks) := by
  induction ks with
  | nil => rfl
  | cons x xs ih =>
    rw [List.map_cons, List.any_cons, ih]
    by_cases e : x = k
    · subst e
      simp
    · have e2 : ¬ f x = f k := fun z => e (hf _ _ z)
      simp [e, e2, Ne.symm e]
theorem val_tr {f : κ → κ'} (hf : ∀ a b, f a = f b → a = b) (ks : List κ) (k : κ) : (valV (ks.map fun x => (f x, V.bl true)) (f k)).isSome = decide (k ∈ ks) := by
  rw [← valV_any, any_tr hf]
theorem put_tr {f : κ → κ'} (hf : ∀ a b, f a = f b → a = b) (ks : List κ) (k : κ) : putK (ks.map fun x => (f x, V.bl true)) (f k) (.bl true) = (dadd ks k).map fun x => (f x, V.bl true) := by
  unfold putK dadd
  rw [any_tr hf]
  by_cases h : k ∈ ks
  · rw [if_pos (decide_eq_true h), if_pos h, List.map_map]
    refine List.map_congr_left fun x _ => ?_
    show (if f x = f k then (f x, V.bl true) else (f x, V.bl true)) = _
    split <;> rfl
  · rw [if_neg (by simp [h]), if_neg h, List.map_append]
    rfl
end
theorem inl_inj : ∀ a b : Int, (Sum.inl a : Key) = Sum.inl b → a = b := fun a b e => by cases e; rfl
theorem inls_inj : ∀ a b : List Int, (a.map Sum.inl : List Key) = b.map Sum.inl → a = b
  | [], [], _ => rfl
  | [], _ :: _, e => by cases e
  | _ :: _, [], e => by cases e
  | x :: xs, y :: ys, e => by
    injection e with e1 e2
    injection e1 with e1
    rw [e1, inls_inj xs ys e2]
def dput : Dc → D → (Dc → Prop) → Prop
  | .b ks, .int i, Q => ks.length < 100000 ∧ Q (.b (dadd ks i))
  | .t ks, .tup ds, Q => match intsOf ds with
    | some is => ks.length < 100000 ∧ Q (.t (dadd ks is))
    | none => False
  | _, _, _ => False
def isDc : Option (Option D) → (Dc → Prop) → Prop
  | some (some (.dct x)), Q => Q x
  | _, _ => False
theorem isDc_of {o : Option (Option D)} {Q : Dc → Prop} (h : isDc o Q) : ∃ x, o = some (some (.dct x)) ∧ Q x := by
  unfold isDc at h
  split at h
  · exact ⟨_, rfl, h⟩
  · exact h.elim
theorem ints_rep {g : Gm} {S : Addr → Prop} {H : Hp} : ∀ {ds : List D} {vs : List V} {is : List Int}, RepL g S H vs ds → intsOf ds = some is → vs = (is.map Sum.inl).map kV
  | [], _, is, r, e => by
    cases r
    cases e
    rfl
  | .int i :: ds, _, is, r, e => by
    cases r with
    | cons a b =>
      cases a
      have e : (intsOf ds).map (i :: ·) = some is := e
      cases q : intsOf ds with
      | none => rw [q] at e; cases e
      | some js =>
        rw [q] at e
        cases e
        rw [ints_rep b q]
        rfl
  | .non :: _, _, _, _, e => by cases e
  | .bl _ :: _, _, _, _, e => by cases e
  | .str _ :: _, _, _, _, e => by cases e
  | .lst _ :: _, _, _, _, e => by cases e
  | .tup _ :: _, _, _, _, e => by cases e
  | .ndl _ _ _ :: _, _, _, _, e => by cases e
  | .pool :: _, _, _, _, e => by cases e
  | .opq _ :: _, _, _, _, e => by cases e
  | .err _ _ _ :: _, _, _, _, e => by cases e
  | .chn _ :: _, _, _, _, e => by cases e
  | .fnc _ :: _, _, _, _, e => by cases e
  | .exo _ _ _ :: _, _, _, _, e => by cases e
  | .dct _ :: _, _, _, _, e => by cases e
  | .exv _ _ _ _ :: _, _, _, _, e => by cases e
  | .gag _ _ _ _ _ :: _, _, _, _, e => by cases e
theorem dput_put {g : Gm} {S : Addr → Prop} {H : Hp} {l : Addr} {x : Dc} {y : V} {d : D} {Q : Dc → Prop} (e : H l = some (dcO x)) (r : Rep g S H y d) (h : dput x d Q) : ∃ x', DPut H l y (.bl true) (upd H l (dcO x')) ∧ Q x' := by
  unfold dput at h
  split at h
  · rename_i ks i
    cases r
    refine ⟨_, ?_, h.2⟩
    have z := DPut.k (k := .inl i) (v := .bl true) e (by rw [List.length_map]; exact lt_line h.1)
    rw [put_tr inl_inj] at z
    exact z
  · rename_i ks ds
    split at h
    · rename_i is ei
      cases r with
      | tup s e2 r2 =>
        rw [ints_rep r2 ei] at e2
        refine ⟨_, ?_, h.2⟩
        have z := DPut.t (k := is.map .inl) (v := .bl true) e e2 (by rw [List.length_map]; exact lt_line h.1)
        rw [put_tr inls_inj] at z
        exact z
    · exact h.elim
  · exact h.elim

theorem hu1 {A : Around} (h : A.units + 64 < cLine) : A.units + 1 < cLine := by omega
/-! ### a dict changed in place -/
section
variable {g : Gm} {rk f fa fb : Bool} {xw : Option WX} {X : Cx} {e a b : Expr} {ma mb : ME} {R Ra Rb : List Nat} {c ca cb : Nat} {own ol : List Nat} {st : Stmt} {pos : Pos}
theorem Rs.mutD {H0 H : Hp} {A0 : Addr → Prop} {gs : Gh} {σ : L2.St} {env : Env} {S : SS} (r : Rs g H0 A0 own gs σ H env S) {k : Nat} (hk : k ∈ own) {x : Dc} (he : env[k]? = some (some (.dct x))) :
    ∃ l, σ[k]? = some (some (.ref l)) ∧ H l = some (dcO x) ∧ ∀ x', (∀ B, PB g B H → PB g B (upd H l (dcO x'))) ∧ Rs g H0 A0 own gs σ (upd H l (dcO x')) (env.set k (some (.dct x'))) S := by
  obtain ⟨ys, l, vs, T, h1, h2, h3, h4, h5, h6, h7, h8, h9, h10, h11⟩ := r.ow k hk _ he rfl
  obtain rfl := kx_dct h1
  refine ⟨l, h2, h3, fun x' => ?_⟩
  have fr : Fr g H0 (upd H l (dcO x')) := r.fr.put _ h4
  have dm : ∀ a, H a ≠ none → upd H l (dcO x') a ≠ none := fun a n => by
    by_cases q : a = l
    · rw [q, upd_same]
      exact fun z => nomatch z
    · rw [upd_ne q]
      exact n
  refine ⟨fun B pb => pb.put1 h5 h3, ?_⟩
  have keep : ∀ {W : Addr → Prop}, ¬ W l → ∀ a o, W a → H a = some o → W a ∧ upd H l (dcO x') a = some o := fun {W} nw a o w e => by
    have na : a ≠ l := fun q => nw (by rw [← q]; exact w)
    refine ⟨w, ?_⟩
    rw [upd_ne na]
    exact e
  have look : ∀ (j : Nat) (e : D), (env.set k (some (.dct x')))[j]? = some (some e) → (j = k ∧ e = .dct x') ∨ (j ≠ k ∧ env[j]? = some (some e)) := fun j e h => by
    by_cases hj : j = k
    · subst hj
      rw [List.getElem?_set_self (List.getElem?_eq_some_iff.mp he).1] at h
      cases h
      exact .inl ⟨rfl, rfl⟩
    · rw [List.getElem?_set_ne (Ne.symm hj)] at h
      exact .inr ⟨hj, h⟩
  refine ⟨⟨by rw [List.length_set]; exact r.rl.len, fun j e h => ?_, fun j a s => ?_⟩, fr, r.al, fun p hp => ?_, fun j hj e h hsc => ?_⟩
  · rcases look j e h with ⟨rfl, rfl⟩ | ⟨hj, h⟩
    · exact ⟨_, h2, .dct h9 upd_same⟩
    · obtain ⟨v, g1, g2⟩ := r.rl.rep j e h
      exact ⟨v, g1, g2.go (keep (h10 j hj))⟩
  · exact ⟨dm a (r.rl.dom j a s).1, (r.rl.dom j a s).2⟩
  · obtain ⟨g1, g2⟩ := r.gh p hp
    exact ⟨g1.go (keep (h11 p hp)), fun a s => ⟨⟨dm a (g2 a s).1.1, (g2 a s).1.2⟩, (g2 a s).2⟩⟩
  · rcases look j e h with ⟨rfl, rfl⟩ | ⟨hjk, h⟩
    · exact ⟨.d x', l, [], fun _ => False, rfl, h2, upd_same, h4, h5, .nil, fun t => t, fun a t => t.elim, h9, h10, h11⟩
    · obtain ⟨ys, l', us, T', g1, g2, g3, g4, g5, g6, g7, g8, g9, g10, g11⟩ := r.ow j hj e h hsc
      have nl : l' ≠ l := fun q => h10 j hjk (q ▸ g9)
      exact ⟨ys, l', us, T', g1, g2, by rw [upd_ne nl]; exact g3, g4, g5, g6.go (keep fun t => h10 j hjk (g8 _ t)), g7, g8, g9, g10, g11⟩
/-- x[e] = True, x an owned dict -/
def mDPut (k : Nat) (mb : ME) : MS := fun M env => isDc env[k]? fun x => mb env fun y => dput x y fun x' => M.nx (env.set k (some (.dct x')))
theorem vs_dput {k : Nat} (h : VE g X b mb R c f) (hk : k ∈ own) (hp : ∀ {t : TE}, PE X b t → PS X st (sDPut (tVar k) t (tC (.bl true)))) : VS g rk xw ol X st (mDPut k mb) own own c := by
  obtain ⟨t, p, q⟩ := h
  refine ⟨_, hp p, fun H0 A0 gs σ H env S B M D' r pb hb hm br => ?_⟩
  obtain ⟨x, he, hm⟩ := isDc_of hm
  obtain ⟨l0, h2, h3, _⟩ := r.mutD hk he
  refine ⟨.ref l0, h2, ?_⟩
  refine q σ H env S B _ _ r.rl pb hb hm fun v H1 d A z => ?_
  obtain ⟨l, g2, g3, g4⟩ := (r.go A.fr).mutD hk he
  rw [h2] at g2
  cases g2
  obtain ⟨x', w1, w2⟩ := dput_put g3 A.rep z
  refine ⟨l0, _, rfl, w1, ?_⟩
  obtain ⟨w3, w4⟩ := g4 x'
  exact br.nx _ _ _ _ w4 (w3 _ A.pb) w2

/-- None, as an answer of a def that else gives new lists -/
theorem ve_nonF {j} : VE g X (.Constant .none j pos) (mC .non) [] 0 true :=
  ⟨_, pe_non, fun σ H env S B Qd Q r pb _ hm k => k _ H _ ⟨Fr.refl, pb, .non, fun _ x e => by cases x <;> cases e⟩ hm⟩
/-! ### {}, {e: True} -/
theorem fsh_dct {U : Addr → Prop} {H H' : Hp} {p : Addr} {x : Dc} (e : H' p = some (dcO x)) (hp : H p = none) : Fsh g U H H' (.ref p) (.dct x) := fun y ey => by
  obtain rfl := kx_dct ey
  exact ⟨p, [], fun _ => False, rfl, e, hp, .nil, fun t => t, fun a t => t.elim⟩
theorem sr_new {σ : L2.St} {H H' : Hp} {S : SS} {p : Addr} {B : Nat} {o : HO} (pb : PB g B H) (hp : H p = none) (e : H' p = some o) : Sr g R S H H' p := ⟨.inl hp, by rw [e]; exact fun q => (nomatch q), pb.not hp⟩
theorem ve_dnew (x : Dc) (hx : x = .b [] ∨ x = .t []) : VE g X (.Dict [] [] pos) (mC (.dct x)) [] 0 true := by
  rcases hx with rfl | rfl
  · refine ⟨_, pe_dnewK, fun σ H env S B Qd Q rl pb _ hm k => fun p hp => ?_⟩
    exact k (.ref p) _ _ ⟨Fr.of (same_new hp), pb.same (same_new hp), .dct (sr_new (σ := σ) pb hp upd_same) upd_same, fun _ => fsh_dct upd_same hp⟩ hm
  · refine ⟨_, pe_dnewT, fun σ H env S B Qd Q rl pb _ hm k => fun p hp => ?_⟩
    exact k (.ref p) _ _ ⟨Fr.of (same_new hp), pb.same (same_new hp), .dct (sr_new (σ := σ) pb hp upd_same) upd_same, fun _ => fsh_dct upd_same hp⟩ hm
def mD1 (mb : ME) : ME := fun env Q => mb env fun y => isI y fun i => Q (.dct (.b [i]))
theorem ve_d1 (h : VE g X b mb R c f) (hp : ∀ {t : TE}, PE X b t → PE X e (tDisp [(t, tC (.bl true))])) : VE g X e (mD1 mb) [] c true := by
  obtain ⟨t, p, q⟩ := h
  refine ⟨_, hp p, fun σ H env S B Qd Q rl pb hb hm k => fun p hp => ?_⟩
  have s0 := same_new (o := .dK []) hp
  refine q σ _ env S B _ _ (rl.fr (Fr.of s0)) (pb.same s0) hb hm fun v H1 d A z => ?_
  unfold isI at z
  split at z
  · rename_i i
    have r2 := A.rep
    cases r2
    have np := pb.not hp
    have e1 : H1 p = some (.dK []) := A.fr p _ np upd_same
    refine ⟨e1, [(.inl i, .bl true)], rfl, by show 1 ≤ 15; decide, ?_⟩
    have s2 : Fr g H (upd H1 p (dcO (.b [i]))) := ((Fr.of s0).trans A.fr).put _ hp
    refine k (.ref p) (upd H1 p (dcO (.b [i]))) _ ⟨s2, A.pb.put1 np e1, .dct (sr_new (σ := σ) pb hp upd_same) upd_same, fun _ => fsh_dct upd_same hp⟩ z
  · exact z.elim

/-! ### in, sorted, list -/
def rDIn (neg : Bool) : R2 := fun y x H Q => ∃ a o, x = .ref a ∧ DGet H a y o ∧ Q (.bl (neg ^^ o.isSome)) H
theorem op_inDc (hu : X.A.units + 64 < cLine) : OpR X (compareOp .In) (rDIn false) := by
  intro pins s σ H x y v u Q I rx ry h
  obtain ⟨a, o, rfl, g, q⟩ := h
  obtain rfl : u = Value.ref a := ry
  refine d_in (by omega) I g rx fun s3 I3 => ⟨.bl o.isSome, H, I3, rfl, ?_⟩
  simpa using q
theorem op_notInDc (hu : X.A.units + 64 < cLine) : OpR X (compareOp .NotIn) (rDIn true) := by
  intro pins s σ H x y v u Q I rx ry h
  obtain ⟨a, o, rfl, g, q⟩ := h
  obtain rfl : u = Value.ref a := ry
  refine d_notIn (by omega) I g rx fun s3 I3 => ⟨.bl (!o.isSome), H, I3, rfl, ?_⟩
  simpa using q
def oInD (neg : Bool) : D → D → (D → Prop) → Prop
  | .int i, .dct (.b ks), Q => Q (.bl (neg ^^ decide (i ∈ ks)))
  | .tup ds, .dct (.t ks), Q => match intsOf ds with
    | some is => Q (.bl (neg ^^ decide (is ∈ ks)))
    | none => False
  | _, _, _ => False
theorem sim_inD {neg : Bool} : Sim2 g f (rDIn neg) (oInD neg) := by
  intro S H B x y dx dy Qd Q hd pb rx ry hm k
  have fin : ∀ b, Qd (.bl b) → Q (.bl b) H := fun b q => k (.bl b) H (.bl b) (fun _ _ e => e) (.bl b) (fun _ ys e => by cases ys <;> cases e) q
  unfold oInD at hm
  split at hm
  · rename_i i ks
    cases rx
    cases ry with
    | dct s e =>
      refine ⟨_, _, rfl, DGet.k (k := .inl i) e, ?_⟩
      rw [val_tr inl_inj]
      exact fin _ hm
  · rename_i ds ks
    split at hm
    · rename_i is ei
      cases rx with
      | tup s1 e1 r1 =>
        rw [ints_rep r1 ei] at e1
        cases ry with
        | dct s e =>
          refine ⟨_, _, rfl, DGet.t (k := is.map .inl) e e1, ?_⟩
          rw [val_tr inls_inj]
          have z : ∀ (i1 i2 : Decidable (is ∈ ks)), Qd (.bl (neg ^^ @decide _ i1)) → Qd (.bl (neg ^^ @decide _ i2)) := fun i1 i2 h => by rw [Subsingleton.elim i2 i1]; exact h
          exact fin _ (z _ _ hm)
    · exact hm.elim
  · exact hm.elim
abbrev rSortDI : List V → Hp → VK → Prop := fun xs H Q => ∃ (a : Addr) (kvs : List (Key × V)) (ks : List Int), xs = [.ref a] ∧ Rd H a (.dK kvs) ∧ kvs.map (·.1) = ks.map Sum.inl ∧ ks.length < 64 ∧
    ∀ (ys : List Int) (p : Addr), ys.Perm ks → ys.Pairwise (· ≤ ·) → H p = none → Q (.ref p) (upd H p (.lst (ys.map V.int)))
def oSortD : List D → (D → Prop) → Prop
  | [.dct (.b ks)], Q => ks.length < 64 ∧ ∀ ys : List Int, ys.Perm ks → ys.Pairwise (· ≤ ·) → Q (.lst (ys.map D.int))
  | _, _ => False
theorem ints_repL {S : Addr → Prop} {H : Hp} : ∀ xs : List Int, RepL g S H (xs.map V.int) (xs.map D.int)
  | [] => .nil
  | x :: xs => .cons (.int x) (ints_repL xs)
theorem sim_sortD : SimA g true rSortDI oSortD := by
  intro S H B xs ds Qd Q hd pb r hm k
  unfold oSortD at hm
  split at hm
  · rename_i ks
    cases r with
    | cons a b =>
      cases b
      cases a with
      | dct s e =>
        refine ⟨_, _, ks, rfl, .inl e, by rw [List.map_map]; rfl, hm.1, fun ys p h1 h2 hp => ?_⟩
        have z := res_new (o := .lst (ys.map V.int)) pb hd hp
        exact k _ _ _ (same_new hp) (.lst z.1 upd_same (ints_repL ys)) (fun _ => fsh_new pb hd hp (ints_repL ys)) (hm.2 ys h1 h2)
  · exact hm.elim
abbrev rListD : List V → Hp → VK → Prop := fun xs H Q => ∃ (a : Addr) (kvs : List (Key × V)), xs = [.ref a] ∧ Rd H a (.dK kvs) ∧ ∀ p, H p = none → Q (.ref p) (upd H p (.lst (kvs.map fun kv => kV kv.1)))
def oListD : List D → (D → Prop) → Prop
  | [.dct (.b ks)], Q => Q (.lst (ks.map D.int))
  | _, _ => False
theorem sim_listD : SimA g true rListD oListD := by
  intro S H B xs ds Qd Q hd pb r hm k
  unfold oListD at hm
  split at hm
  · rename_i ks
    cases r with
    | cons a b =>
      cases b
      cases a with
      | dct s e =>
        refine ⟨_, _, rfl, .inl e, fun p hp => ?_⟩
        have e2 : (ks.map fun k => ((Sum.inl k : Key), V.bl true)).map (fun kv => kV kv.1) = ks.map V.int := by
          rw [List.map_map]
          rfl
        rw [e2]
        have z := res_new (o := .lst (ks.map V.int)) pb hd hp
        exact k _ _ _ (same_new hp) (.lst z.1 upd_same (ints_repL ks)) (fun _ => fsh_new pb hd hp (ints_repL ks)) hm
  · exact hm.elim
end
end VL

set_option Elab.async false
set_option linter.all false
set_option maxRecDepth 100000
set_option maxHeartbeats 4000000
/-! VL, part 9: what an owned list holds is walked. -/
namespace VL
open PySem PySem.Spec PyProof.Rows L2 StX RZ
/-- as VI, the walked value kept apart from the owned slots' own lists -/
def VIo (g : Gm) (X : Cx) (tg iter : Expr) (mi : MA) (own : List Nat) (c : Nat) : Prop := ∃ wi, PI X tg iter wi ∧ ∀ (H0 : Hp) (A0 : Addr → Prop) (gs : Gh) (σ : L2.St) (H : Hp) (env : Env) (S : SS) (B : Nat) (Qd : List D → Prop) (Rr : It → Hp → Prop),
  Rs g H0 A0 own gs σ H env S → PB g B H → B + c ≤ Bmax → mi env Qd → (∀ J H' gv items (U : Addr → Prop), Fr g H H' → PB g (B + c) H' → (∀ p, p ∈ gv → Rep g U H' p.1 p.2) → (∀ a, U a → (H' a ≠ none ∧ some a ≠ g.pa) ∧ (H0 a = none ∨ A0 a)) →
    (∀ j, j ∈ own → ∀ l, σ[j]? = some (some (.ref l)) → (∃ e, env[j]? = some (some e)) → ¬ U l) → SrcOk g J gv items → Qd items → Rr J H') → wi σ H Rr
section
variable {g : Gm} {rk f fa fb : Bool} {xw : Option WX} {X : Cx} {e a b tg iter : Expr} {ma mb me : ME} {mi : MA} {R Ra Rb : List Nat} {c c1 c2 ca cb : Nat} {own own1 own2 own' ol ix ix2 : List Nat} {st st2 : Stmt} {body : List Stmt} {m : MS} {pos : Pos}
/-- for .. in x[e], x owned -/
theorem vi_ownix {k : Nat} (h : VE g X b mb R c f) (hk : k ∈ own) (hp : ∀ {t : TE}, PE X b t → PI X tg e (iList X.K (tOp (rIx X.K) (tVar k) t))) : VIo g X tg e (mItL (m2 oIx (mVar k) mb)) own c := by
  obtain ⟨t, p, q⟩ := h
  refine ⟨_, hp p, fun H0 A0 gs σ H env S B Qd Rr r pb hb hm kk => ?_⟩
  have hm : mVar k env _ := hm
  unfold mVar at hm
  split at hm
  · rename_i d e0
    obtain ⟨v0, g1, g2⟩ := r.rl.rep k d e0
    refine ⟨v0, g1, q σ H env S B _ _ r.rl pb hb hm fun w H1 y A z => ?_⟩
    unfold oIx at z
    split at z
    · rename_i xs i
      obtain ⟨ys, l, vs, T, h1, h2, h3, h4, h5, h6, h7, h8, h9, h10, h11⟩ := r.ow k hk _ e0 rfl
      obtain rfl := kx_lst h1
      rw [g1] at h2
      cases h2
      have h2 := g1
      clear g1 g2
      have r2 := A.rep
      cases r2
      split at z
      · rename_i d e
        have e1 : H1 l = some (.lst vs) := A.fr l _ h5 h3
        have rl1 : RepL g T H1 vs xs := h6.goN fun a o t e => ⟨t, A.fr a o (r.rl.dom k a (h8 a t)).2 e⟩
        obtain ⟨v, g1, g2⟩ := at_of rl1 e
        have z : itL d Qd := z
        unfold itL at z
        split at z
        · have g2' := g2
          cases g2 with
          | lst s e0 rp =>
            refine .inl ⟨_, _, _, _, rfl, rfl, SqL.of e1, g1, _, rfl, ⟨_, SqL.of e0⟩, ?_⟩
            refine kk _ H1 _ _ T A.fr A.pb (fun p hp => by
              rw [List.mem_singleton.mp hp]
              exact g2') (fun a t => ⟨⟨fun n => (r.rl.dom k a (h8 a t)).1 (A.fr.back (r.rl.dom k a (h8 a t)).2 n), (r.rl.dom k a (h8 a t)).2⟩, r.al k a (h8 a t)⟩) (fun j hj l' hs he t => ?_) src_list z
            by_cases jk : j = k
            · subst jk
              rw [hs] at h2
              cases h2
              exact h7 t
            · obtain ⟨e', he'⟩ := he
              obtain ⟨xs', l2, vs2, T2, k1, k2, k3, k4, k5, k6, k7, k8, k9, k10, k11⟩ := r.ow2 hj he' hs
              rw [hs] at k2
              cases k2
              exact k10 k (Ne.symm jk) (h8 _ t)
        · exact z.elim
      · exact z.elim
    · exact absurd (r.ow k hk _ e0 rfl) (fun ⟨ys, l, vs, T, h1, _⟩ => by cases ys <;> cases h1)
    · obtain ⟨_, z⟩ := z
      split at z
      · exact False.elim z
      · exact z.elim
    · exact z.elim
  · exact hm.elim
theorem vs_forO {b : MG} {mb : MS} {lim : Bool} (hpo : PassesOwn (model X.prog X.w) X.A X.env X.xe) (hc : X.calm = true) (hi : VIo g X tg iter mi own ca) (hg : VG g X tg b ix) (hb : VB g rk xw own X body mb own own cb) (hs : ∀ x, foldedSetIterable iter X.env x = pure x)
    (ok : (own.all fun j => !ix.contains j) = true) (hl : lim = true ∨ cb = 0) : VS g rk xw ol X (.For tg iter body [] pos) (mFor lim mi b mb) own own (ca + Nmax * cb) := by
  obtain ⟨wi, pi, ki⟩ := hi
  obtain ⟨tgt, pg, kg⟩ := hg
  obtain ⟨tb, pbd, kb⟩ := hb
  refine ⟨_, ps_for hpo hc pi pg pbd hs, fun H0 A0 gs σ H env S B M D' r pb hbm hm br => ?_⟩
  rw [List.all_eq_true] at ok
  have o1 : ∀ j, j ∈ own → j ∉ ix := fun j hj => by
    have q := ok j hj
    simp at q
    exact q
  refine ki H0 A0 gs σ H env S B _ _ r pb (by omega) hm fun J H1 gv items U0 fr1 pb1 rgv hU0 hOU src hq => ?_
  obtain ⟨hlim, hq⟩ := hq
  have r1 := r.go fr1
  -- the ghosts: what is walked stands still
  have r2 : Rs g H0 A0 own (gv.map (fun p => (p.1, p.2, U0)) ++ gs) σ H1 env S := ⟨r1.rl, r1.fr, r1.al, fun p hp => by
    rcases List.mem_append.mp hp with hp | hp
    · obtain ⟨q, hq, rfl⟩ := List.mem_map.mp hp
      exact ⟨rgv q hq, hU0⟩
    · exact r1.gh p hp, fun j hj d he hsc => by
    obtain ⟨xs, l, vs, T, g1, g2, g3, g4, g5, g6, g7, g8, g9, g10, g11⟩ := r1.ow j hj d he hsc
    refine ⟨xs, l, vs, T, g1, g2, g3, g4, g5, g6, g7, g8, g9, g10, fun p hp => ?_⟩
    rcases List.mem_append.mp hp with hp | hp
    · obtain ⟨q, hq, rfl⟩ := List.mem_map.mp hp
      exact hOU j hj l g2 ⟨d, he⟩
    · exact g11 p hp⟩
  refine ⟨fun i n σ' H' => n = items.length - i ∧ i ≤ items.length ∧ ∃ env' S', Rs g H0 A0 own (gv.map (fun p => (p.1, p.2, U0)) ++ gs) σ' H' env' S' ∧ PB g (B + ca + i * cb) H' ∧ forM b mb M (items.drop i) env',
    ⟨items.length, by simp, Nat.zero_le _, env, S, r2, by simpa using pb1, by simpa using hq⟩, ?_⟩
  rintro i n σ2 H2 ⟨rfl, hi, env2, S2, r3, pb2, hm2⟩
  have cost : ∀ k, k ≤ items.length → B + ca + k * cb ≤ B + (ca + Nmax * cb) := fun k hk => by
    rcases hl with h | h
    · have z : k * cb ≤ Nmax * cb := Nat.mul_le_mul_right cb (Nat.le_trans hk (hlim h))
      omega
    · subst h
      omega
  have ghg : ∀ p, p ∈ gv → Rep g (U0) H2 p.1 p.2 := fun p hp => (r3.gh (p.1, p.2, U0) (List.mem_append_left _ (List.mem_map.mpr ⟨p, hp, rfl⟩))).1
  have back : ∀ {σ' H' env' S'}, Rs g H0 A0 own (gv.map (fun p => (p.1, p.2, U0)) ++ gs) σ' H' env' S' → Rs g H0 A0 own gs σ' H' env' S' := fun r => r.less (fun _ q => q) fun _ q => List.mem_append_right _ q
  by_cases hne : gv = []
  · -- nothing to lean on: any set does
    have sr := src (fun _ => False) H2 _ (fun a s => s.elim) pb2 (fun p hp => by rw [hne] at hp; cases hp) i
    by_cases hlt : i < items.length
    · obtain ⟨go, yl⟩ := sr.1 items[i] (by simp [hlt])
      refine .inr ⟨go, fun σ' H' => ∃ env' S', Rs g H0 A0 own (gv.map (fun p => (p.1, p.2, U0)) ++ gs) σ' H' env' S' ∧ PB g (B + ca + (i + 1) * cb) H' ∧ forM b mb M (items.drop (i + 1)) env', fun σ' H' h => ⟨items.length - (i + 1), by omega, rfl, hlt, h⟩, fun x H3 y => ?_⟩
      obtain ⟨sm, rx⟩ := yl x H3 y
      rw [List.drop_eq_getElem_cons hlt] at hm2
      have r4 := r3.go (Fr.of sm)
      refine kg H0 A0 own _ σ2 H3 env2 S2 _ x items[i] _ _ r4 rx (fun a s => ⟨s.2, s.1.elim (fun n => .inl (r3.fr.back s.2.2 n)) (fun f => f.elim)⟩) o1 (fun j hj l hs he s => ?_) hm2 fun σ4 env4 S4 r5 un hm4 => ?_
      · obtain ⟨e, he⟩ := he
        obtain ⟨xs, l', vs, T, g1, g2, g3, _⟩ := r3.ow2 hj he hs
        rw [hs] at g2
        cases g2
        exact s.1.elim (fun n => by rw [g3] at n; cases n) fun f => f
      · refine kb H0 A0 _ σ4 H3 env4 S4 (B + ca + i * cb) _ _ r5 (pb2.same sm) (Nat.le_trans (by have z := cost (i + 1) hlt; rw [Nat.succ_mul] at z; omega) hbm) hm4 ⟨fun σ' H' env' S' r' p' q' => ⟨env', S', r', by rw [Nat.succ_mul, ← Nat.add_assoc]; exact p', q'⟩, fun v H' d r' p' q' => br.rt v H' d r' (p'.mono (by have z := cost (i + 1) hlt; rw [Nat.succ_mul] at z; omega)) q', fun σ' H' env' S' r' p' q' => br.nx σ' H' env' S' (back r') (p'.mono (by have z := cost (i + 1) hlt; rw [Nat.succ_mul] at z; omega)) q', fun σ' H' env' S' r' p' q' => ⟨env', S', r', by rw [Nat.succ_mul, ← Nat.add_assoc]; exact p', q'⟩, fun W e _ _ _ _ _ _ _ _ r' p' x q' => br.ex W e _ _ _ _ _ _ _ _ (r'.less (fun _ q => q) fun _ q => List.mem_append_right _ q) (p'.mono (by have z := cost (i + 1) hlt; rw [Nat.succ_mul] at z; omega)) x q'⟩
    · have e : i = items.length := by omega
      subst e
      rw [List.drop_length] at hm2
      exact .inl ⟨sr.2 (Nat.le_refl _), br.nx σ2 H2 env2 S2 (back r3) (pb2.mono (cost _ (Nat.le_refl _))) hm2⟩
  · obtain ⟨p0, hp0⟩ := List.exists_mem_of_ne_nil gv hne
    have dom : ∀ a, U0 a → (H2 a ≠ none ∧ some a ≠ g.pa) ∧ (H0 a = none ∨ A0 a) := (r3.gh (p0.1, p0.2, U0) (List.mem_append_left _ (List.mem_map.mpr ⟨p0, hp0, rfl⟩))).2
    have sr := src (U0) H2 _ (fun a s => (dom a s).1) pb2 ghg i
    by_cases hlt : i < items.length
    · obtain ⟨go, yl⟩ := sr.1 items[i] (by simp [hlt])
      refine .inr ⟨go, fun σ' H' => ∃ env' S', Rs g H0 A0 own (gv.map (fun p => (p.1, p.2, U0)) ++ gs) σ' H' env' S' ∧ PB g (B + ca + (i + 1) * cb) H' ∧ forM b mb M (items.drop (i + 1)) env', fun σ' H' h => ⟨items.length - (i + 1), by omega, rfl, hlt, h⟩, fun x H3 y => ?_⟩
      obtain ⟨sm, rx⟩ := yl x H3 y
      rw [List.drop_eq_getElem_cons hlt] at hm2
      have r4 := r3.go (Fr.of sm)
      refine kg H0 A0 own _ σ2 H3 env2 S2 _ x items[i] _ _ r4 rx (fun a s => ⟨s.2, s.1.elim (fun n => .inl (r3.fr.back s.2.2 n)) (fun f => (dom a f).2)⟩) o1 (fun j hj l hs he s => ?_) hm2 fun σ4 env4 S4 r5 un hm4 => ?_
      · obtain ⟨e, he⟩ := he
        obtain ⟨xs, l', vs, T, g1, g2, g3, g4, g5, g6, g7, g8, g9, g10, g11⟩ := r3.ow2 hj he hs
        rw [hs] at g2
        cases g2
        exact s.1.elim (fun n => by rw [g3] at n; cases n) (g11 (p0.1, p0.2, U0) (List.mem_append_left _ (List.mem_map.mpr ⟨p0, hp0, rfl⟩)))
      · refine kb H0 A0 _ σ4 H3 env4 S4 (B + ca + i * cb) _ _ r5 (pb2.same sm) (Nat.le_trans (by have z := cost (i + 1) hlt; rw [Nat.succ_mul] at z; omega) hbm) hm4 ⟨fun σ' H' env' S' r' p' q' => ⟨env', S', r', by rw [Nat.succ_mul, ← Nat.add_assoc]; exact p', q'⟩, fun v H' d r' p' q' => br.rt v H' d r' (p'.mono (by have z := cost (i + 1) hlt; rw [Nat.succ_mul] at z; omega)) q', fun σ' H' env' S' r' p' q' => br.nx σ' H' env' S' (back r') (p'.mono (by have z := cost (i + 1) hlt; rw [Nat.succ_mul] at z; omega)) q', fun σ' H' env' S' r' p' q' => ⟨env', S', r', by rw [Nat.succ_mul, ← Nat.add_assoc]; exact p', q'⟩, fun W e _ _ _ _ _ _ _ _ r' p' x q' => br.ex W e _ _ _ _ _ _ _ _ (r'.less (fun _ q => q) fun _ q => List.mem_append_right _ q) (p'.mono (by have z := cost (i + 1) hlt; rw [Nat.succ_mul] at z; omega)) x q'⟩
    · have e : i = items.length := by omega
      subst e
      rw [List.drop_length] at hm2
      exact .inl ⟨sr.2 (Nat.le_refl _), br.nx σ2 H2 env2 S2 (back r3) (pb2.mono (cost _ (Nat.le_refl _))) hm2⟩
end
end VL

set_option Elab.async false
set_option linter.all false
set_option maxRecDepth 100000
set_option maxHeartbeats 4000000
/-! VL, part 0: x in a list of lists. -/
namespace VL
open PySem PySem.Spec PyProof.Rows L2 StX RZ
def anyD (x : D) : List D → Bool
  | [] => false
  | y :: ys => eqD y x || anyD x ys
theorem anyD_py (x : D) : ∀ ys : List D, ((pyAll ys).any fun z => PyData.eqv z (py x)) = anyD x ys
  | [] => rfl
  | y :: ys => by
    rw [pyAll, List.any_cons, anyD_py x ys]
    rfl
def oInX (neg : Bool) : D → D → (D → Prop) → Prop := fun x y Q => match y with
  | .lst ys => pl 60 x = true ∧ plAll 59 ys = true ∧ Q (.bl (neg ^^ anyD x ys))
  | _ => False
section
variable {g : Gm} {f : Bool} {X : Cx}
theorem op_inX {k : Nat} (hr : Room k X.A) : OpR X (compareOp .In) (rInD X.K) := op_inD (by have := hr.un; omega)
theorem op_notInX {k : Nat} (hr : Room k X.A) : OpR X (compareOp .NotIn) (rNotInD X.K) := op_notInD (by have := hr.un; omega)
theorem sim_inX {K : PySem.W.Frag} : Sim2 g f (rInD K) (oInX false) := sim_i fun H x y dx dy S Qd Q rx ry hm k => by
  unfold oInX at hm
  split at hm
  · rename_i ys
    have py' : pl 60 (.lst ys) = true := hm.2.1
    refine ⟨py dx, pyAll ys, dp_of rx hm.1, ?_, shaped_py (by decide) hm.1, ?_, ?_⟩
    · have z := dp_of (K := K) ry py'
      rwa [py] at z
    · have z := shaped_py (by decide) py'
      rwa [py] at z
    · rw [anyD_py]
      exact k _ _ (fun _ => .bl _) (by simpa using hm.2.2) fun x e => (by cases x <;> cases e)
  · exact hm.elim
theorem sim_notInX {K : PySem.W.Frag} : Sim2 g f (rNotInD K) (oInX true) := sim_i fun H x y dx dy S Qd Q rx ry hm k => by
  unfold oInX at hm
  split at hm
  · rename_i ys
    have py' : pl 60 (.lst ys) = true := hm.2.1
    refine ⟨py dx, pyAll ys, dp_of rx hm.1, ?_, shaped_py (by decide) hm.1, ?_, ?_⟩
    · have z := dp_of (K := K) ry py'
      rwa [py] at z
    · have z := shaped_py (by decide) py'
      rwa [py] at z
    · rw [anyD_py]
      exact k _ _ (fun _ => .bl _) (by simpa using hm.2.2) fun x e => (by cases x <;> cases e)
  · exact hm.elim
end
end VL

set_option Elab.async false
set_option linter.all false
set_option maxRecDepth 100000
set_option maxHeartbeats 4000000
/-! VL, part A: all([..]); isinstance of the program's classes; their own ==; chains; an own list is given a tuple that was read off it. -/
namespace VL
open PySem PySem.Spec PyProof.Rows L2 StX RZ

/-! ### all([..]) -/
def boolsOf : List D → Option (List Bool)
  | [] => some []
  | .bl b :: r => (boolsOf r).map (b :: ·)
  | _ => none
theorem boolsOf_map : ∀ bs : List Bool, boolsOf (bs.map D.bl) = some bs
  | [] => rfl
  | b :: r => by
    show (boolsOf (r.map D.bl)).map (b :: ·) = _
    rw [boolsOf_map r]
    rfl
section
variable {g : Gm} {f : Bool}
theorem bools_of {S : Addr → Prop} {H : Hp} : ∀ {ds : List D} {vs : List V} {bs : List Bool}, RepL g S H vs ds → boolsOf ds = some bs → vs = bs.map V.bl
  | [], _, bs, h, e => by
    cases h
    cases e
    rfl
  | .bl b :: r, _, bs, h, e => by
    unfold boolsOf at e
    cases q : boolsOf r with
    | none => rw [q] at e; cases e
    | some ms =>
      rw [q] at e
      cases e
      cases h with
      | cons a b =>
        cases a
        rw [bools_of b q]
        rfl
  | .non :: _, _, _, _, e => by cases e
  | .int _ :: _, _, _, _, e => by cases e
  | .str _ :: _, _, _, _, e => by cases e
  | .lst _ :: _, _, _, _, e => by cases e
  | .tup _ :: _, _, _, _, e => by cases e
  | .ndl _ _ _ :: _, _, _, _, e => by cases e
  | .pool :: _, _, _, _, e => by cases e
  | .opq _ :: _, _, _, _, e => by cases e
  | .err _ _ _ :: _, _, _, _, e => by cases e
  | .chn _ :: _, _, _, _, e => by cases e
  | .fnc _ :: _, _, _, _, e => by cases e
  | .exo _ _ _ :: _, _, _, _, e => by cases e
  | .dct _ :: _, _, _, _, e => by cases e
  | .exv _ _ _ _ :: _, _, _, _, e => by cases e
  | .gag _ _ _ _ _ :: _, _, _, _, e => by cases e
def oAll : List D → (D → Prop) → Prop
  | [.lst xs], Q => match boolsOf xs with
    | some bs => Q (.bl (bs.all id))
    | none => False
  | _, _ => False
theorem sim_all {K : PySem.W.Frag} : SimA g f (rAll K) oAll := simA_i fun H xs ds S Qd Q r hm k => by
  unfold oAll at hm
  split at hm
  · obtain ⟨v, rfl, h⟩ := repL1 r
    cases h with
    | lst s e q =>
      split at hm
      · rename_i bs en
        have z := bools_of q en
        subst z
        exact ⟨_, bs, rfl, SqL.of e, k _ _ (fun _ => .bl _) hm fun x e => (by cases x <;> cases e)⟩
      · exact hm.elim
  · exact hm.elim
end

/-! ### the kinds of things -/
/-- the type of plain data, by where the classes stand; ch: are there chains -/
def tyD (ch : Bool) (C : Kl) : D → Option Value
  | .non => some (.type "NoneType")
  | .bl _ => some (.type "bool")
  | .int _ => some (.type "int")
  | .str _ => some (.type "str")
  | .lst _ => some (.type "list")
  | .tup _ => some (.type "tuple")
  | .ndl _ _ _ => some (.ref C.nd)
  | .chn _ => if ch then some (.ref C.ch) else none
  | _ => none
/-- what isinstance asks of an own class -/
structure OwnT (K : PySem.W.Frag) (C : Addr) : Prop where
  cl : Cls K C
  ko : KitO K C
theorem tyx_of {g : Gm} {S : Addr → Prop} {H : Hp} {K : PySem.W.Frag} {ch : Bool} {v : V} {d : D} {t : Value} (hN : OwnT K g.C.nd) (hC : ch = true → OwnT K g.C.ch) (r : Rep g S H v d) (e : tyD ch g.C d = some t) : TyX K H v t := by
  cases r with
  | non => cases e; exact .base .non
  | bl b => cases e; exact .base (.bl b)
  | int i => cases e; exact .base (.int i)
  | str x => cases e; exact .base (.str x)
  | lst s h _ => cases e; exact .base (.lst h)
  | tup s h _ => cases e; exact .base (.tup h)
  | ndl s s1 s2 h _ _ => cases e; exact .base (.ins h hN.cl hN.ko.ha hN.ko.hn hN.ko.ht hN.ko.hm)
  | chn s s1 h _ _ =>
    cases ch with
    | true =>
      cases e
      have z := hC rfl
      exact .base (.ins h z.cl z.ko.ha z.ko.hn z.ko.ht z.ko.hm)
    | false => cases e
  | pool h => cases e
  | opq a => cases e
  | err s h _ => cases e
  | fnc k => cases e
  | dct s h => cases e
  | exv s s1 h h1 _ => cases e
  | gag s c h _ => cases e
def isNdl : D → Bool
  | .ndl _ _ _ => true
  | _ => false
def isChn : D → Bool
  | .chn _ => true
  | _ => false
def isLstD : D → Bool
  | .lst _ => true
  | _ => false
/-- isinstance(x, c): p tells the answer -/
def oIsi (ch : Bool) (p : D → Bool) : D → (D → Prop) → Prop := fun d Q => (tyD ch ⟨0, 0, fun _ => 0, fun _ => 0, []⟩ d).isSome = true ∧ Q (.bl (p d))
theorem tyD_some {ch : Bool} {C C' : Kl} {d : D} (h : (tyD ch C d).isSome = true) : ∃ t, tyD ch C' d = some t := by
  cases d with
  | chn xs =>
    cases ch with
    | true => exact ⟨_, rfl⟩
    | false => cases h
  | pool => cases h
  | opq a => cases h
  | err a b c => cases h
  | fnc k => cases h
  | exo k v e => cases h
  | dct x => cases h
  | exv a d k v => cases h
  | gag a c dx l xs => cases h
  | _ => exact ⟨_, rfl⟩
/-- what isinstance(x, u) gives for each kind of data -/
def IsiF (K : PySem.W.Frag) (ch : Bool) (C : Kl) (p : D → Bool) (u : Value) : Prop := ∀ d t, tyD ch C d = some t → PySem.W.kitOne K t u = some (p d)
section
variable {g : Gm} {f fa fb : Bool} {X : Cx} {a b e : Expr} {ma mb m : ME} {R Ra Rb : List Nat} {c ca cb : Nat} {pos : Pos}
theorem ve_isi {ch : Bool} {p : D → Bool} {w : V} {u : Value} (hp : ∀ {t : TE}, PE X a t → PE X e (tCB (rIsi X.K) (tCons t (tCons (tC w) tNil)))) (cw : ClsV w u) (hN : OwnT X.K g.C.nd) (hC : ch = true → OwnT X.K g.C.ch) (F : IsiF X.K ch g.C p u)
    (ha : VE g X a ma R c f) : VE g X e (m1 (oIsi ch p) ma) [] c false := by
  obtain ⟨t, q, k⟩ := ha
  refine ⟨_, hp q, fun σ H env S B Qd Q rl pb hb hm h => k σ H env S B _ _ rl pb hb hm fun v H1 d A z => ?_⟩
  obtain ⟨t, ht⟩ := tyD_some (C' := g.C) z.1
  exact ⟨v, w, t, u, p d, rfl, cw, tyx_of hN hC A.rep ht, F d t ht, h _ H1 _ (aft_sc A.fr A.pb (fun _ => .bl _) fun x e => (by cases x <;> cases e)) z.2⟩

/-! ### == and != by an own == -/
end
end VL
namespace VEQ
open PySem PySem.Spec PyProof.Rows
section
variable {prog : Program} {w : World} {A : Around} {E : Value → Shared → Prop} {s : Shared} {K : PySem.W.Frag} {x C f : Addr} {ox : Obj} {od : Option Obj} {b tb : Value}
/-- the fallback != stands for an instance -/
theorem bound_ne {M : Model} {as : List Value} {Q : Option Value → Shared → Prop} (hX : K.In s.heap) (hI : PySem.W.InstAt s.heap x ox C od) (hs : PySem.W.findIn K (.ref C) "__ne__" = some (some (.builtin "object.__ne__")))
    (h : wpAny M A (call (.builtin "object.__ne__") (.ref x :: as)) (fun v => Q (some v)) E s) : wpAny M A (callSpecialIfBound? (.ref x) "__ne__" as) Q E s := by
  simp only [bindSpecialIfBound?, callSpecialIfBound?]
  refine wpAny_holding (wpAny_bind (wpAny_bind (wpAny_bind (hI.type.here ((PySem.W.looks_findIn hX hs).here ?_)))))
  refine wpAny_bind (wpAny_askSetting ?_)
  refine wpAny_ite ?_
  have last : wpAny M A (call (.builtin "object.__ne__") ([.ref x] ++ as) >>= fun v => pure (some v)) Q E s := wpAny_bind (wpAny_mono h (fun v s' hv => wpAny_pure hv) fun _ _ hv => hv)
  split
  · exact wpAny_bind (wpAny_of_eq (F.cmp_object.ne.bind _) (wpAny_pure (by exact last)))
  · exact wpAny_tryCatch (wpAny_bind (wpAny_of_eq (F.cmp_object.ne.bind _) (wpAny_pure (by exact last))))
theorem entry_ne {Q : Fin → Shared → Prop} (hu : A.units < cLine) (hX : K.In s.heap) (hI : PySem.W.InstAt s.heap x ox C od) (he : PySem.W.findIn K (.ref C) "__eq__" = some (some (.ref f))) (hf : PySem.W.isFn K (.ref f) = true)
    (h : wpAny (model prog w) A (call (.ref f) [.ref x, b]) (fun v s' => ∃ r, v = .bool r ∧ Q (.done (.ret (.bool (!r)))) s') E s) : wpAny (model prog w) A (Builtin.«object.__ne__» ⟨[.ref x, b], []⟩) Q E s := by
  unfold Builtin.«object.__ne__»
  have ask : wpAny (model prog w) A (callSpecialIfBound? (.ref x) "__eq__" [b]) (fun o s' => ∃ r, o = some (.bool r) ∧ Q (.done (.ret (.bool (!r)))) s') E s :=
    PySem.W.ifBound_K hX hI he hf (wpAny_mono h (fun v s' z => by
      obtain ⟨r, rfl, q⟩ := z
      exact ⟨r, rfl, q⟩) fun _ _ z => z)
  repeat (first | with_reducible refine wpAny_cRoomFor hu ?_ | with_reducible refine wpAny_bind (wpAny_mono ask (fun o s' z => ?_) fun _ _ z => z) | wp_step)
  obtain ⟨r, rfl, q⟩ := z
  dsimp only
  repeat (first | with_reducible refine wpAny_truthy_bool ?_ | wp_step)
  exact q
theorem ne_own {Q : Value → Shared → Prop} (hu : A.units + 1 < cLine) (hX : K.In s.heap) (hI : PySem.W.InstAt s.heap x ox C od) (hb : PySem.W.Looks (model prog w) s.heap (typeOf b) tb) (hn : PySem.W.notFirst K C tb = true)
    (hno : PySem.W.findIn K (.ref C) "__ne__" = some (some (.builtin "object.__ne__"))) (he : PySem.W.findIn K (.ref C) "__eq__" = some (some (.ref f))) (hf : PySem.W.isFn K (.ref f) = true) (hm : PySem.W.mroIn K C (.type "object") = some true)
    (h : wpAny (model prog w) A.in1 (call (.ref f) [.ref x, b]) (fun v s' => ∃ r, v = .bool r ∧ Q (.bool (!r)) s') E s) : wpAny (model prog w) A (richCompare .NotEq (.ref x) b) Q E s := by
  have hv0 : A.units < cLine := by omega
  have hu1 : A.in1.units < cLine := hu
  have one : wpAny (model prog w) A (tryCompare (.ref x) (cmpInfo .NotEq).2.1 b) (fun r s' => ∃ v, r = some v ∧ Q v s') E s := by
    unfold tryCompare
    refine wpAny_bind (bound_ne hX hI hno ?_)
    refine wpAny_call (codeAny_call_builtin F.cmp_object.ne.plain F.cmpEntry_ne (PySem.W.check_slot F.cmpKind_ne F.cmpSplit_ne (hI.type.andThen (PySem.W.looks_mroIn hX hm)) (F.cmpArgs_ne _ _) (entry_ne (A := A.in1) hu1 hX hI he hf ?_)))
    refine wpAny_mono h (fun v s' z => ?_) fun _ _ z => z
    obtain ⟨r, rfl, q⟩ := z
    exact ⟨r, rfl, wpAny_pure ⟨_, rfl, q⟩⟩
  unfold richCompare
  simp only [oneThing_ref]
  refine wpAny_holding (wpAny_bind (wpAny_cRoomFor hv0 ?_))
  refine wpAny_bind (hI.type.here (wpAny_bind (hb.here ?_)))
  split
  · rename_i q
    have e : PySem.W.subIn K tb (.ref C) = some false := by
      rcases Bool.or_eq_true_iff.mp hn with e | e
      · rw [beq_iff_eq.mp e] at q
        simp at q
      · exact beq_iff_eq.mp e
    refine wpAny_bind ((PySem.W.looks_subIn hX e).here ?_)
    simp only [if_false, Bool.false_eq_true]
    refine wpAny_bind (wpAny_mono one (fun r s' z => ?_) fun _ _ z => z)
    obtain ⟨v, rfl, hq⟩ := z
    exact wpAny_pure hq
  · refine wpAny_bind (wpAny_pure ?_)
    simp only [if_false, Bool.false_eq_true]
    refine wpAny_bind (wpAny_mono one (fun r s' z => ?_) fun _ _ z => z)
    obtain ⟨v, rfl, hq⟩ := z
    exact wpAny_pure hq
end
end VEQ

namespace VL
open PySem PySem.Spec PyProof.Rows L2 StX RZ
/-- the facts of a class's own == -/
structure EqT (K : PySem.W.Frag) (C f : Addr) : Prop where
  he : PySem.W.findIn K (.ref C) "__eq__" = some (some (.ref f))
  hf : PySem.W.isFn K (.ref f) = true
  hn : PySem.W.findIn K (.ref C) "__ne__" = some (some (.builtin "object.__ne__"))
  hm : PySem.W.mroIn K C (.type "object") = some true
def rOwn (K : PySem.W.Frag) (C : Addr) (sp : Sp) (neg : Bool) : R2 := fun x y H Q => ∃ a dx fs tb, x = .ref a ∧ H a = some (.ins C dx fs) ∧ TyX K H y tb ∧ PySem.W.notFirst K C tb = true ∧
  sp [x, y] H (fun v H' => ∃ r, v = .bl r ∧ Q (.bl (neg ^^ r)) H') E0
section
variable {X : Cx} {C f : Addr} {fd : FuncData} {ps : List Str} {sp : Sp} {k : Nat}
theorem run_own {A : Around} {pins : List (Addr × Obj)} {σ : L2.St} {H : Hp} {s : Shared} {x y : V} {v u : Value} {Q : VK} (F : FnOk X.prog X.w X.K X.mg X.base CX0 k f fd ps sp) (hr : Room k A) (hfr : A.frames = X.A.frames) (hb : Binds X.K fd ps [])
    (I : Inv X pins σ H s) (rx : RelV x v) (ry : RelV y u) (h : sp [x, y] H Q E0) : wpAny (model X.prog X.w) A (call (.ref f) [v, u]) (EP X pins σ Q) X.xe s := by
  have e0 : Env0 X.prog X.w X.K X.mg X.base A X.stack s H := by
    have e := I.env0
    exact ⟨by rw [hfr]; exact e.frames, e.mod, e.bs, e.bsz, e.funs, e.frf, e.hok, e.bare⟩
  have hl := F.len _ _ _ _ h
  have rv : Vals [x, y] [v, u] := .cons rx (.cons ry .nil)
  have bd : BindsTo s fd ⟨[v, u], []⟩ (ps.zip [v, u]) := by
    have z := hb s [v, u] I.kIn (by simpa using hl)
    simpa using z
  refine wpAny_call (codeAny_mono (F.run A X.stack s H ⟨[v, u], []⟩ [v, u] [x, y] Q E0 hr e0 bd rv h) fun r s' hq => ?_)
  match r, hq with
  | .error e, hq => exact hq.elim
  | .ok (.ret u), hq => exact I.after hq
  | .ok .next, hq => exact hq.elim
  | .ok .brk, hq => exact hq.elim
  | .ok .cont, hq => exact hq.elim
theorem op_ownEq (T : EqT X.K C f) (F : FnOk X.prog X.w X.K X.mg X.base CX0 k f fd ps sp) (hr : Room (k + 1) X.A) (hb : Binds X.K fd ps []) : OpR X (compareOp .Eq) (rOwn X.K C sp false) := by
  intro pins s σ H x y v u Q I rx ry hq
  obtain ⟨a, dx, fs, tb, rfl, ha, ty, hn, q⟩ := hq
  have rx' := rx
  cases rx
  obtain ⟨mA, J, _⟩ := ins_get I.hok ha
  obtain ⟨od, J, _⟩ := J.look
  obtain ⟨P, Z, p, _⟩ := kit_of I ry ty
  have hty := Z.ty (model X.prog X.w) s.heap I.kIn p
  obtain ⟨m, hF⟩ := I.fr
  show wpAny (model X.prog X.w) X.A (richCompare .Eq (.ref a) u) (EP X pins σ Q) X.xe s
  refine PySem.W.cmp_K (op := .Eq) (by have z := hr.un; omega) hF I.ok.mod.kin J hty hn T.he T.hf ?_
  refine wpAny_mono (run_own F (hr.mono (by omega)) rfl hb I rx' ry q) (fun w s' z => ?_) fun _ _ z => z
  obtain ⟨w', H', I', r', r, rfl, q'⟩ := z
  cases r'
  refine ⟨.bl r, H', I', rfl, ?_⟩
  simpa using q'
theorem op_ownNe (T : EqT X.K C f) (F : FnOk X.prog X.w X.K X.mg X.base CX0 k f fd ps sp) (hr : Room (k + 1) X.A) (hb : Binds X.K fd ps []) : OpR X (compareOp .NotEq) (rOwn X.K C sp true) := by
  intro pins s σ H x y v u Q I rx ry hq
  obtain ⟨a, dx, fs, tb, rfl, ha, ty, hn, q⟩ := hq
  have rx' := rx
  cases rx
  obtain ⟨mA, J, _⟩ := ins_get I.hok ha
  obtain ⟨od, J, _⟩ := J.look
  obtain ⟨P, Z, p, _⟩ := kit_of I ry ty
  have hty := Z.ty (model X.prog X.w) s.heap I.kIn p
  show wpAny (model X.prog X.w) X.A (richCompare .NotEq (.ref a) u) (EP X pins σ Q) X.xe s
  refine VEQ.ne_own (by have z := hr.un; omega) I.kIn J hty hn T.hn T.he T.hf T.hm ?_
  refine wpAny_mono (run_own F hr.in1 rfl hb I rx' ry q) (fun w s' z => ?_) fun _ _ z => z
  obtain ⟨w', H', I', r', r, rfl, q'⟩ := z
  cases r'
  exact ⟨r, rfl, .bl (!r), H', I', rfl, by simpa using q'⟩
end
theorem sub_ty {K : PySem.W.Frag} {T : String} {l : List Value} {C : Addr} (e : fastBuiltinMro T = some l) (h : l.contains (.ref C) = false) : PySem.W.notFirst K C (.type T) = true := by
  have z : PySem.W.subIn K (.type T) (.ref C) = some false := by
    show (fastBuiltinMro T).map (·.contains (.ref C)) = some false
    rw [e]
    show some (l.contains (.ref C)) = some false
    rw [h]
  unfold PySem.W.notFirst
  rw [z]
  simp
theorem nf_all {K : PySem.W.Frag} {ch : Bool} {C : Kl} {D0 : Addr} (h1 : PySem.W.notFirst K D0 (.ref C.nd) = true) (h2 : ch = true → PySem.W.notFirst K D0 (.ref C.ch) = true) : ∀ d t, tyD ch C d = some t → PySem.W.notFirst K D0 t = true := by
  intro d t e
  cases d with
  | non => cases e; exact sub_ty (l := [.type "NoneType", .type "object"]) (by decide +kernel) (by simp)
  | bl b => cases e; exact sub_ty (l := [.type "bool", .type "int", .type "object"]) (by decide +kernel) (by simp)
  | int i => cases e; exact sub_ty (l := [.type "int", .type "object"]) (by decide +kernel) (by simp)
  | str x => cases e; exact sub_ty (l := [.type "str", .type "object"]) (by decide +kernel) (by simp)
  | lst xs => cases e; exact sub_ty (l := [.type "list", .type "object"]) (by decide +kernel) (by simp)
  | tup xs => cases e; exact sub_ty (l := [.type "tuple", .type "object"]) (by decide +kernel) (by simp)
  | ndl s p m => cases e; exact h1
  | chn xs =>
    cases ch with
    | true => cases e; exact h2 rfl
    | false => cases e
  | pool => cases e
  | opq a => cases e
  | err a b c => cases e
  | fnc k => cases e
  | exo k v e' => cases e
  | dct x => cases e
  | exv a d k v => cases e
  | gag a c dx l xs => cases e
def C0 : Kl := ⟨0, 0, fun _ => 0, fun _ => 0, []⟩
/-- x == y, x != y: needles by their own == -/
def oEqN (neg ch : Bool) (fn : List D → (D → Prop) → Prop) : D → D → (D → Prop) → Prop := fun x y Q => match x with
  | .ndl s p m => (tyD ch C0 y).isSome = true ∧ fn [.ndl s p m, y] fun d => isB d fun b => Q (.bl (neg ^^ b))
  | x => if neg then oNe x y Q else oEq x y Q
section
variable {g : Gm} {f fa fb rk : Bool} {X : Cx} {a b e : Expr} {ma mb m : ME} {R Ra Rb : List Nat} {c ca cb : Nat} {pos : Pos}
theorem eqN_ok {neg ch : Bool} {r : R2} {fn : List D → (D → Prop) → Prop} {ta tb : TE} (hs : Sim2 g false r fun x y Q => if neg then oNe x y Q else oEq x y Q) (hN : OwnT X.K g.C.nd) (hC : ch = true → OwnT X.K g.C.ch) (hF : ∀ d t, tyD ch g.C d = some t → PySem.W.notFirst X.K g.C.nd t = true)
    (k : ∀ (σ : L2.St) (H : Hp) (env : Env) (S : SS) (B : Nat) (Qd : D → Prop) (Q : VK), Rl g σ H env S → PB g B H → B + ca ≤ Bmax → ma env Qd → (∀ v H' d, Aft g fa Ra S H H' B ca v d → Qd d → Q v H') → ta σ H Q)
    (j : ∀ (σ : L2.St) (H : Hp) (env : Env) (S : SS) (B : Nat) (Qd : D → Prop) (Q : VK), Rl g σ H env S → PB g B H → B + cb ≤ Bmax → mb env Qd → (∀ v H' d, Aft g fb Rb S H H' B cb v d → Qd d → Q v H') → tb σ H Q) :
    ∀ (σ : L2.St) (H : Hp) (env : Env) (S : SS) (B : Nat) (Qd : D → Prop) (Q : VK), Rl g σ H env S → PB g B H → B + (ca + cb + c) ≤ Bmax → m2 (oEqN neg ch fn) ma mb env Qd → (∀ v H' d, Aft g false (Ra ++ Rb) S H H' B (ca + cb + c) v d → Qd d → Q v H') → tOp (fun x y H Q => rOwn X.K g.C.nd (spV g.C fn c rk) neg x y H Q ∨ r x y H Q) ta tb σ H Q := by
  intro σ H env S B Qd Q rl pb hb hm fin
  refine k σ H env S B _ _ rl pb (by omega) hm fun x H1 dx A1 hm1 => ?_
  refine j σ H1 env S (B + ca) _ _ (rl.fr A1.fr) A1.pb (by omega) hm1 fun y H2 dy A2 hm2 => ?_
  have F2 := A1.fr.trans A2.fr
  have r1 : Rep g (Sr g (Ra ++ Rb) S H H2) H2 x dx := A1.rep.goN fun a o s e => ⟨s.fwd (fun i h => List.mem_append_left _ h) A2.fr, A2.fr a o s.2.2 e⟩
  have r2 : Rep g (Sr g (Ra ++ Rb) S H H2) H2 y dy := A2.rep.mono fun a s => s.aft (fun i h => List.mem_append_right _ h) A1.fr
  have AL : AftL g (Ra ++ Rb) S H H2 B (ca + cb) [x, y] [dx, dy] := ⟨F2, A2.pb.mono (by omega), .cons r1 (.cons r2 .nil)⟩
  have gen : (∀ s p m, dx ≠ .ndl s p m) → (if neg then oNe dx dy Qd else oEq dx dy Qd) → r x y H2 Q := fun _ z => by
    refine hs (Sr g (Ra ++ Rb) S H H2) H2 (B + ca + cb) x y dx dy Qd Q (fun a s => s.2) A2.pb r1 r2 z fun v H3 d sm rp fs q => ?_
    have F3 := F2.trans (Fr.of sm)
    have up : ∀ a, Res g (Sr g (Ra ++ Rb) S H H2) H2 H3 a → Sr g (Ra ++ Rb) S H H3 a := fun a s => ⟨s.1.elim (fun n => .inl (F2.back s.2.2 n)) fun s1 => s1.1, s.2⟩
    exact fin v H3 d ⟨F3, (A2.pb.same sm).mono (by omega), rp.mono up, fun q => nomatch q⟩ q
  cases dx with
  | ndl s p m =>
    obtain ⟨z1, z2⟩ := hm2
    obtain ⟨tb, ht⟩ := tyD_some (C' := g.C) z1
    have ry := tyx_of (K := X.K) hN hC r2 ht
    have r1' := r1
    cases r1' with
    | ndl s1 s2 s3 e1 e2 e3 =>
      refine .inl ⟨_, _, _, tb, rfl, e1, ry, hF _ _ ht, spV_use AL hb z2 fun v H3 d A z => ?_⟩
      have rz := A.rep
      unfold isB at z
      split at z
      · cases rz
        exact ⟨_, rfl, fin _ H3 _ ⟨A.fr, A.pb, .bl _, fun q => nomatch q⟩ z⟩
      · exact z.elim
  | _ => exact .inr (gen (fun _ _ _ q => nomatch q) hm2)
theorem ve_eqN {neg ch : Bool} {r : R2} {fn : List D → (D → Prop) → Prop} (hp : ∀ {t u : TE}, PE X a t → PE X b u → PE X e (tOp (fun x y H Q => rOwn X.K g.C.nd (spV g.C fn c rk) neg x y H Q ∨ r x y H Q) t u))
    (hs : Sim2 g false r fun x y Q => if neg then oNe x y Q else oEq x y Q) (hN : OwnT X.K g.C.nd) (hC : ch = true → OwnT X.K g.C.ch) (hF : ∀ d t, tyD ch g.C d = some t → PySem.W.notFirst X.K g.C.nd t = true)
    (ha : VE g X a ma Ra ca fa) (hb : VE g X b mb Rb cb fb) : VE g X e (m2 (oEqN neg ch fn) ma mb) (Ra ++ Rb) (ca + cb + c) false := by
  obtain ⟨t, p, k⟩ := ha
  obtain ⟨u, q, j⟩ := hb
  exact ⟨_, hp p q, eqN_ok hs hN hC hF k j⟩
theorem vt_eqN {neg ch : Bool} {r : R2} {fn : List D → (D → Prop) → Prop} (hp : ∀ {t u : TE}, PE X a t → PE X b u → PT X e (tTest (tOp (fun x y H Q => rOwn X.K g.C.nd (spV g.C fn c rk) neg x y H Q ∨ r x y H Q) t u)))
    (hs : Sim2 g false r fun x y Q => if neg then oNe x y Q else oEq x y Q) (hN : OwnT X.K g.C.nd) (hC : ch = true → OwnT X.K g.C.ch) (hF : ∀ d t, tyD ch g.C d = some t → PySem.W.notFirst X.K g.C.nd t = true)
    (ha : VE g X a ma Ra ca fa) (hb : VE g X b mb Rb cb fb) : VT g X e (mB (m2 (oEqN neg ch fn) ma mb)) (ca + cb + c) := by
  obtain ⟨t, p, k⟩ := ha
  obtain ⟨u, q, j⟩ := hb
  refine ⟨_, hp p q, fun σ H env S B Qd Q rl pb hb hm fin => ?_⟩
  refine eqN_ok hs hN hC hF k j σ H env S B _ _ rl pb hb hm fun v H' d A z => ?_
  obtain ⟨b, rfl, hz⟩ := bool_of A.rep z
  exact ⟨b, rfl, fin b H' A.fr A.pb hz⟩
end
end VL
namespace VL
open PySem PySem.Spec PyProof.Rows L2 StX RZ
/-! ### chains -/
def isCh : D → (D → Prop) → Prop
  | .chn ds, Q => Q (.chn ds)
  | _, _ => False
def mMethC (fn : List D → (D → Prop) → Prop) (mo : ME) (ma : MA) : ME := fun env Q => mo env fun d => isCh d fun d => ma env fun ds => fn (d :: ds) Q
def mMethCK (n : Nat) (π : List Nat) (fn : List D → (D → Prop) → Prop) (mo : ME) (ma : MA) : ME := fun env Q => mo env fun d => isCh d fun d => ma env fun ds => ds.length = n ∧ fn (pick .non π (d :: ds)) Q
def oLinks : D → (D → Prop) → Prop
  | .chn ds, Q => Q (.tup ds)
  | _, _ => False
theorem lookc_no {m : Str} {t : Addr} (h : (m == "links") = false) : List.lookup m [(("links" : Str), V.ref t)] = none := by
  show (match m == "links" with | true => some (V.ref t) | false => none) = none
  rw [h]
theorem lookc (t : Addr) : List.lookup ("links" : Str) [(("links" : Str), V.ref t)] = some (V.ref t) := by simp [List.lookup]
section
variable {g : Gm} {X : Cx} {c ca co cb n : Nat} {mN : Str} {e o : Expr} {es : List Expr} {kws : List Keyword} {ma mk : MA} {mo : ME} {R Ra Ro Rb : List Nat} {rk fo : Bool} {fn : List D → (D → Prop) → Prop}
theorem ch_of {S : Addr → Prop} {H : Hp} {v : V} {d : D} {Q : D → Prop} (r : Rep g S H v d) (h : isCh d Q) : (∃ a dx t, v = .ref a ∧ H a = some (.ins g.C.ch dx [("links", .ref t)])) ∧ Q d := by
  unfold isCh at h
  split at h
  · cases r with
    | chn s s1 e e1 r => exact ⟨⟨_, _, _, rfl, e⟩, h⟩
  · exact h.elim
theorem ve_methC (hp : ∀ {t : TE} {u : TA}, PE X o t → PA X es u → PE X e (tMethC g.C.ch mN (spV g.C fn c rk) t u)) (h1 : ∀ t : Addr, List.lookup mN [(("links" : Str), V.ref t)] = none) (ho : VE g X o mo Ro co fo) (ha : VA g X es ma Ra ca) :
    VE g X e (mMethC fn mo ma) (Ro ++ Ra) (co + ca + c) rk := by
  obtain ⟨t, p, k⟩ := ho
  obtain ⟨u, q, j⟩ := ha
  refine ⟨_, hp p q, fun σ H env S B Qd Q rl pb hb hm h => k σ H env S B _ _ rl pb (by omega) hm fun v H1 d A z => ?_⟩
  obtain ⟨⟨a, dx, t1, rfl, ea⟩, z⟩ := ch_of A.rep z
  refine ⟨a, dx, _, rfl, ea, h1 t1, j σ H1 env S (B + co) _ _ (rl.fr A.fr) A.pb (by omega) z fun zs H2 es A2 z2 => ?_⟩
  exact spV_use (aftL_cons A A2) hb z2 h
theorem ve_methC0 (hp : ∀ {t : TE}, PE X o t → PE X e (tMethC g.C.ch mN (spV g.C fn c rk) t tNil)) (h1 : ∀ t : Addr, List.lookup mN [(("links" : Str), V.ref t)] = none) (ho : VE g X o mo Ro co fo) : VE g X e (mMethC fn mo mNil) (Ro ++ ([] : List Nat)) (co + 0 + c) rk := by
  obtain ⟨t, p, k⟩ := ho
  refine ⟨_, hp p, fun σ H env S B Qd Q rl pb hb hm h => k σ H env S B _ _ rl pb (by omega) hm fun v H1 d A z => ?_⟩
  obtain ⟨⟨a, dx, t1, rfl, ea⟩, z⟩ := ch_of A.rep z
  refine ⟨a, dx, _, rfl, ea, h1 t1, ?_⟩
  exact spV_use (aftL_cons A ⟨Fr.refl, A.pb, .nil⟩) hb z h
theorem ve_methCK {π : List Nat} (hp : ∀ {t : TE} {u : TA}, PE X o t → PK X kws u → PE X e (tMethKC g.C.ch mN n π (spV g.C fn c rk) t u)) (h1 : ∀ t : Addr, List.lookup mN [(("links" : Str), V.ref t)] = none) (ho : VE g X o mo Ro co fo) (ha : VKw g X kws ma Ra ca) :
    VE g X e (mMethCK n π fn mo ma) (Ro ++ Ra) (co + ca + c) rk := by
  obtain ⟨t, p, k⟩ := ho
  obtain ⟨u, q, j⟩ := ha
  refine ⟨_, hp p q, fun σ H env S B Qd Q rl pb hb hm h => k σ H env S B _ _ rl pb (by omega) hm fun v H1 d A z => ?_⟩
  obtain ⟨⟨a, dx, t1, rfl, ea⟩, z⟩ := ch_of A.rep z
  refine ⟨a, dx, _, rfl, ea, h1 t1, j σ H1 env S (B + co) _ _ (rl.fr A.fr) A.pb (by omega) z fun zs H2 es A2 z2 => ?_⟩
  have A3 := aftL_cons A A2
  exact ⟨by rw [A2.rep.length]; exact z2.1, spV_use ⟨A3.fr, A3.pb, pick_rep A3.rep π⟩ hb z2.2 h⟩
theorem ve_links (hp : ∀ {t : TE}, PE X o t → PE X e (tFld X.K t "links")) (cl : Cls X.K g.C.ch) (hn : NoAttr X.K g.C.ch "links") (ho : VE g X o mo Ro co fo) : VE g X e (m1 oLinks mo) Ro co false := by
  obtain ⟨t, p, k⟩ := ho
  refine ⟨_, hp p, fun σ H env S B Qd Q rl pb hb hm h => k σ H env S B _ _ rl pb hb hm fun v H1 d A z => ?_⟩
  have r := A.rep
  unfold oLinks at z
  split at z
  · cases r with
    | chn s s1 e e1 r => exact ⟨_, _, _, _, _, rfl, e, cl, hn, lookc _, h _ H1 _ ⟨A.fr, A.pb, .tup s1 e1 r, fun q => nomatch q⟩ z⟩
  · exact z.elim
/-- what Chain's __init__ promises -/
def spInitC (C : Addr) : Sp := fun vs H Q _ => ∃ (x dx l : Addr) (ys : List V), vs = [.ref x, .ref l] ∧ H x = some (.ins C dx []) ∧ H l = some (.lst ys) ∧ (ys.length = 2 ∨ ys.length = 3) ∧
  ∀ t H', (∀ b o, b ≠ x → H b = some o → H' b = some o) → H t = none → H' x = some (.ins C dx [("links", .ref t)]) → H' t = some (.tup ys) → Q .non H'
def oChn : List D → (D → Prop) → Prop
  | [.lst ds], Q => (ds.length = 2 ∨ ds.length = 3) ∧ Q (.chn ds)
  | _, _ => False
theorem makeC_use {S : SS} {H H1 : Hp} {B : Nat} {vs : List V} {ds : List D} {Qd : D → Prop} {Q : VK} (A : AftL g R S H H1 B ca vs ds) (hm : oChn ds Qd) (k : ∀ v H' d, Aft g false R S H H' B ca v d → Qd d → Q v H') (x dx : Addr) (hx : H1 x = none) (hdx : H1 dx = none) (ne : dx ≠ x) :
    spInitC g.C.ch (.ref x :: vs) (upd (upd H1 dx (.own x)) x (.ins g.C.ch dx [])) (fun v H2 => v = .non ∧ Q (.ref x) H2) E0 := by
  unfold oChn at hm
  split at hm
  · have r := A.rep
    cases r with
    | cons r1 r =>
      cases r
      cases r1 with
      | lst sl el rs =>
        rename_i l ws
        have nlx : l ≠ x := ne_of_none el hx
        have nld : l ≠ dx := ne_of_none el hdx
        refine ⟨x, dx, l, ws, rfl, upd_same, by rw [upd_ne nlx, upd_ne nld]; exact el, by rw [rs.length]; exact hm.1, fun t H' ke h1 e e1 => ⟨rfl, ?_⟩⟩
        have up : ∀ b, upd (upd H1 dx (.own x)) x (.ins g.C.ch dx []) b = none → H1 b = none := fun b hb => by
          by_cases q : b = x
          · rw [q, upd_same] at hb
            cases hb
          · rw [upd_ne q] at hb
            by_cases q2 : b = dx
            · rw [q2, upd_same] at hb
              cases hb
            · rw [upd_ne q2] at hb
              exact hb
        have sm : Same H1 H' := fun b o eb => by
          have nx := ne_of_none eb hx
          refine ke b o nx ?_
          rw [upd_ne nx, upd_ne (ne_of_none eb hdx)]
          exact eb
        have F := A.fr.trans (Fr.of sm)
        have new : ∀ b, H1 b = none → H' b ≠ none → Sr g R S H H' b := fun b hb hb' => ⟨.inl (A.fr.back (A.pb.not hb) hb), hb', A.pb.not hb⟩
        have some_ne : ∀ {b : Addr} {o : HO}, H' b = some o → H' b ≠ none := fun e q => by
          rw [e] at q
          cases q
        have rs' : RepL g (Sr g R S H H') H' ws _ := rs.goN fun a o s q => ⟨s.fwd (fun i h => h) (Fr.of sm), sm a o q⟩
        exact k (.ref x) H' _ ⟨F, A.pb.same sm, .chn (new x hx (some_ne e)) (new t (up t h1) (some_ne e1)) e e1 rs', fun q => nomatch q⟩ hm.2
  · exact hm.elim
theorem ve_makeC (hp : ∀ {t : TA}, PA X es t → PE X e (tMake g.C.ch (spInitC g.C.ch) [] E0 t)) (ha : VA g X es ma R ca) : VE g X e (mCall oChn ma) R ca false := by
  obtain ⟨t, p, k⟩ := ha
  refine ⟨_, hp p, fun σ H env S B Qd Q rl pb hb hm q => k σ H env S B _ _ rl pb hb hm fun vs H1 ds A z => fun x dx hx hdx ne => ?_⟩
  rw [List.append_nil]
  exact makeC_use A z q x dx hx hdx ne
/-- Chain(needles=..) -/
theorem ve_makeCK0 (hp : ∀ {u : TA}, PK X kws u → PE X e (tMakeK g.C.ch 0 1 (spInitC g.C.ch) (fun vs zs => pick .non [0, 1] (vs ++ zs)) E0 tNil u)) (hk : VKw g X kws mk Rb cb) : VE g X e (mCall oChn mk) Rb cb false := by
  obtain ⟨t, p, k⟩ := hk
  refine ⟨_, hp p, fun σ H env S B Qd Q rl pb hb hm q => k σ H env S B _ _ rl pb hb hm fun vs H1 ds A z => ?_⟩
  have hl : vs.length = 1 := by
    rw [A.rep.length]
    unfold oChn at z
    split at z
    · rfl
    · exact z.elim
  match vs, hl, A with
  | [v], _, A => exact ⟨rfl, rfl, fun x dx hx hdx ne => makeC_use A z q x dx hx hdx ne⟩
end
/-! ### an own list is given a tuple without lists -/
mutual
/-- scalars and tuples of them -/
def tsD : D → Bool
  | .non => true
  | .bl _ => true
  | .int _ => true
  | .str _ => true
  | .tup xs => tsAll xs
  | _ => false
def tsAll : List D → Bool
  | [] => true
  | x :: xs => tsD x && tsAll xs
end
section
variable {g : Gm} {U : Addr → Prop} {H : Hp}
mutual
theorem ts_rep : ∀ {d : D} {v : V}, Rep g U H v d → tsD d = true → Rep g (fun a => U a ∧ ∃ vs, H a = some (.tup vs)) H v d
  | .non, _, r, _ => by cases r; exact .non
  | .bl _, _, r, _ => by cases r; exact .bl _
  | .int _, _, r, _ => by cases r; exact .int _
  | .str _, _, r, _ => by cases r; exact .str _
  | .tup xs, _, r, h => by
    simp only [tsD] at h
    cases r with
    | tup s e q => exact .tup ⟨s, _, e⟩ e (ts_repL q h)
  | .lst _, _, _, h => by simp [tsD] at h
  | .ndl _ _ _, _, _, h => by simp [tsD] at h
  | .pool, _, _, h => by simp [tsD] at h
  | .opq _, _, _, h => by simp [tsD] at h
  | .err _ _ _, _, _, h => by simp [tsD] at h
  | .chn _, _, _, h => by simp [tsD] at h
  | .fnc _, _, _, h => by simp [tsD] at h
  | .exo _ _ _, _, _, h => by simp [tsD] at h
  | .dct _, _, _, h => by simp [tsD] at h
  | .exv _ _ _ _, _, _, h => by simp [tsD] at h
  | .gag _ _ _ _ _, _, _, h => by simp [tsD] at h
theorem ts_repL : ∀ {ds : List D} {vs : List V}, RepL g U H vs ds → tsAll ds = true → RepL g (fun a => U a ∧ ∃ vs, H a = some (.tup vs)) H vs ds
  | [], _, r, _ => by cases r; exact .nil
  | d :: ds, _, r, h => by
    simp only [tsAll, Bool.and_eq_true] at h
    cases r with
    | cons a b => exact .cons (ts_rep a h.1) (ts_repL b h.2)
end
end
def mAppT (k : Nat) (ma : ME) : MS := fun M env => isL env[k]? fun xs => ma env fun d => tsD d = true ∧ xs.length < 100000 ∧ M.nx (env.set k (some (.lst (xs ++ [d]))))
section
variable {g : Gm} {rk f : Bool} {xw : Option WX} {X : Cx} {e : Expr} {ma : ME} {R : List Nat} {c : Nat} {own ol : List Nat} {pos : Pos}
theorem mkO_tup {y : Kx} {vs us : List V} : mkO y vs ≠ .tup us := by
  cases y with
  | l xs => exact fun q => nomatch q
  | d x => cases x <;> exact fun q => nomatch q
  | g a C dx lim xs => exact fun q => nomatch q
theorem in_setT {H0 H H' : Hp} {A0 : Addr → Prop} {gs : Gh} {σ : L2.St} {env : Env} {S : SS} {B : Nat} {v : V} {d : D} (r : Rs g H0 A0 own gs σ H env S) (A : Aft g f R S H H' B c v d) (hs : tsD d = true) :
    ∃ U : Addr → Prop, Rep g U H' v d ∧ (∀ a, U a → (H' a ≠ none ∧ some a ≠ g.pa) ∧ (H0 a = none ∨ A0 a)) ∧ ∀ j, j ∈ own → ∀ l, σ[j]? = some (some (.ref l)) → (∃ e, env[j]? = some (some e)) → ¬ U l := by
  refine ⟨_, ts_rep A.rep hs, fun a s => ⟨s.1.2, sr_al r s.1⟩, fun j hj l hs he s => ?_⟩
  obtain ⟨e, he⟩ := he
  obtain ⟨xs, l', vs, T, h1, h2, h3, h4, h5, h6⟩ := r.ow2 hj he hs
  rw [hs] at h2
  cases h2
  obtain ⟨us, q⟩ := s.2
  rw [A.fr l _ h5 h3] at q
  injection q with q
  exact mkO_tup q
theorem vs_appT {k : Nat} {call : Expr} (h : VE g X e ma R c f) (hk : k ∈ own)
    (hp : ∀ {t : TE}, PE X e t → PS X (.Expr call pos) (tDrop (tBM X.K "list" rAppend (tVar k) (tCons t tNil)))) : VS g rk xw ol X (.Expr call pos) (mAppT k ma) own own c := by
  obtain ⟨t, p, q⟩ := h
  refine ⟨_, hp p, fun H0 A0 gs σ H env S B M D' r pb hb hm br => ?_⟩
  obtain ⟨xs, he, hm⟩ := isL_of hm
  obtain ⟨ys, l, vs, T, h1, h2, h3, h4, h5, h6⟩ := r.ow k hk _ he rfl
  obtain rfl := kx_lst h1
  refine ⟨.ref l, h2, .inl ⟨rfl, _, .inl (.inl h3)⟩, ?_⟩
  refine q σ H env S B _ _ r.rl pb hb hm fun v H1 d A z => ?_
  obtain ⟨U, rp, hU, hn⟩ := in_setT r A z.1
  obtain ⟨l', vs', g1, g2, T', g3, g4⟩ := (r.go A.fr).mutate hk he hU hn
  rw [h2] at g1
  cases g1
  refine ⟨l, vs', v, rfl, rfl, g2, by rw [g3.length]; exact lt_line z.2.1, ?_⟩
  have fin := g4 (vs' ++ [v]) (xs ++ [d]) ((g3.mono fun a t => .inl t).append (.cons (rp.mono fun a u => .inr u) .nil))
  exact br.nx _ _ _ _ fin.2.2 (fin.2.1 _ A.pb) z.2.2
end
end VL

set_option Elab.async false
set_option linter.all false
set_option maxRecDepth 100000
set_option maxHeartbeats 4000000
/-! VL, part B: == of chains; of tuples of needles (where they are equal); x.reverse(). -/
namespace VL
open PySem PySem.Spec PyProof.Rows L2 StX RZ
/-- two needles of one plain form -/
def sameN : D → D → Bool
  | .ndl s p m, .ndl s' p' m' => decide (s / fg s p = s' / fg s' p') && (decide (p / fg s p = p' / fg s' p') && decide (m / fg s p = m' / fg s' p'))
  | _, _ => false
def sameNs : List D → List D → Bool
  | [], [] => true
  | x :: xs, y :: ys => sameN x y && sameNs xs ys
  | _, _ => false
/-- the tuples of two chains, where they are equal -/
def oEqL : D → D → (D → Prop) → Prop := fun x y Q => match x, y with
  | .tup xs, .tup ys => sameNs xs ys = true ∧ Q (.bl true)
  | _, _ => False
def RelN (C : Kl) (a b : Addr) (H : Hp) : Prop := ∃ x y, sameN x y = true ∧ Rep ⟨C, none⟩ (fun a => H a ≠ none) H (.ref a) x ∧ Rep ⟨C, none⟩ (fun a => H a ≠ none) H (.ref b) y
theorem sameN_ndl {x y : D} (h : sameN x y = true) : (∃ s p m, x = .ndl s p m) ∧ ∃ s p m, y = .ndl s p m := by
  unfold sameN at h
  split at h
  · exact ⟨⟨_, _, _, rfl⟩, _, _, _, rfl⟩
  · cases h
theorem ndl_none {g : Gm} {S : Addr → Prop} {H : Hp} {v : V} {s p m : Int} (r : Rep g S H v (.ndl s p m)) : Rep ⟨g.C, none⟩ (fun a => H a ≠ none) H v (.ndl s p m) := by
  cases r with
  | ndl s1 s2 s3 e e1 e2 =>
    refine .ndl ?_ ?_ ?_ e e1 e2
    · show H _ ≠ none
      rw [e]; exact fun q => nomatch q
    · show H _ ≠ none
      rw [e1]; exact fun q => nomatch q
    · show H _ ≠ none
      rw [e2]; exact fun q => nomatch q
theorem relN_mono {C : Kl} : ∀ a b H H', Ext H H' → RelN C a b H → RelN C a b H' := fun a b H H' e h => by
  obtain ⟨x, y, h1, h2, h3⟩ := h
  have up : ∀ a o, H a ≠ none → H a = some o → H' a ≠ none ∧ H' a = some o := fun a o _ q => ⟨(by rw [e a o q]; exact fun z => (nomatch z)), e a o q⟩
  exact ⟨x, y, h1, h2.go up, h3.go up⟩
/-- from the printed promise of == to the library's -/
theorem eqL_of {P : Program} {w : World} {K : PySem.W.Frag} {mg : Str → Option Value} {base : Heap} {C : Kl} {k c : Nat} {rk : Bool} {f : Addr} {fd : FuncData} {ps : List Str} {fn : List D → (D → Prop) → Prop} (F : FnOk P w K mg base CX0 k f fd ps (spV C fn c rk))
    (hc : c ≤ Bmax) (ht : ∀ x y, sameN x y = true → fn [x, y] fun d => d = .bl true) (tb : C.tb = false) : FnOk P w K mg base CX0 k f fd ps (spEq (RelN C)) :=
  F.imp fun vs H Q E h => by
    obtain ⟨a, b, rfl, ⟨x, y, hs, r1, r2⟩, q⟩ := h
    refine ⟨none, 0, [x, y], fun a => H a ≠ none, _, .cons r1 (.cons r2 .nil), fun a h => ⟨h, fun z => (nomatch z)⟩, PB.no0 tb, by omega, ht x y hs, fun d v H' e A _ => ?_⟩
    subst e
    have rv := A.rep
    cases rv
    exact q H' fun a o e => A.fr.all tb a o (fun z => nomatch z) e
section
variable {X : Cx} {C : Kl} {f : Addr} {fd : FuncData} {ps : List Str} {k : Nat}
theorem op_linksEq (T : EqT X.K C.nd f) (F : FnOk X.prog X.w X.K X.mg X.base CX0 k f fd ps (spEq (RelN C))) (hr : Room (k + 1) X.A) (hb : Binds X.K fd ps []) : OpR X (compareOp .Eq) (rEqG (DTup X.K (DIns C.nd (RelN C)))) :=
  op_eqG (rcG_tup (mon_ins relN_mono) (eqG_ins (E := E0) F T.he T.hf hb pass0)) hr
end
section
variable {g : Gm} {f fa fb rk : Bool} {X : Cx} {a b e : Expr} {ma mb m : ME} {R Ra Rb : List Nat} {c ca cb : Nat} {pos : Pos}
theorem prs_of {S1 S2 : Addr → Prop} {H : Hp} : ∀ {xs ys : List D} {vs us : List V}, RepL g S1 H vs xs → RepL g S2 H us ys → sameNs xs ys = true → Prs (DIns g.C.nd (RelN g.C)) vs us H
  | [], [], _, _, r1, r2, _ => by
    cases r1
    cases r2
    exact Prs.nil
  | x :: xs, y :: ys, _, _, r1, r2, h => by
    simp only [sameNs, Bool.and_eq_true] at h
    cases r1 with
    | cons a1 b1 =>
      cases r2 with
      | cons a2 b2 =>
        refine Prs.cons ?_ (prs_of b1 b2 h.2)
        obtain ⟨⟨s, p, m, rfl⟩, s', p', m', rfl⟩ := sameN_ndl h.1
        have n1 := ndl_none a1
        have n2 := ndl_none a2
        cases a1 with
        | ndl _ _ _ e1 _ _ =>
          cases a2 with
          | ndl _ _ _ e2 _ _ => exact ⟨_, _, _, _, _, _, rfl, rfl, e1, e2, _, _, h.1, n1, n2⟩
  | [], _ :: _, _, _, _, _, h => by simp [sameNs] at h
  | _ :: _, [], _, _, _, _, h => by simp [sameNs] at h
theorem ve_eqL (hp : ∀ {t u : TE}, PE X a t → PE X b u → PE X e (tOp (rEqG (DTup X.K (DIns g.C.nd (RelN g.C)))) t u)) (ha : VE g X a ma Ra ca fa) (hb : VE g X b mb Rb cb fb) : VE g X e (m2 oEqL ma mb) [] (ca + cb) false := by
  obtain ⟨t, p, k⟩ := ha
  obtain ⟨u, q, j⟩ := hb
  refine ⟨_, hp p q, fun σ H env S B Qd Q rl pb hb hm fin => ?_⟩
  refine k σ H env S B _ _ rl pb (by omega) hm fun x H1 dx A1 hm1 => ?_
  refine j σ H1 env S (B + ca) _ _ (rl.fr A1.fr) A1.pb (by omega) hm1 fun y H2 dy A2 hm2 => ?_
  have F2 := A1.fr.trans A2.fr
  have r1 : Rep g (Sr g (Ra ++ Rb) S H H2) H2 x dx := A1.rep.goN fun a o s e => ⟨s.fwd (fun i h => List.mem_append_left _ h) A2.fr, A2.fr a o s.2.2 e⟩
  have r2 : Rep g (Sr g (Ra ++ Rb) S H H2) H2 y dy := A2.rep.mono fun a s => s.aft (fun i h => List.mem_append_right _ h) A1.fr
  unfold oEqL at hm2
  split at hm2
  · cases r1 with
    | tup s1 e1 q1 =>
      cases r2 with
      | tup s2 e2 q2 =>
        refine ⟨⟨_, _, _, _, rfl, rfl, SqT.of e1, SqT.of e2, prs_of q1 q2 hm2.1⟩, fun H3 ex => ?_⟩
        have sm : Same H2 H3 := fun a o e => ex a o e
        exact fin _ H3 _ (aft_sc (F2.trans (Fr.of sm)) ((A2.pb.same sm).mono (by omega)) (fun _ => .bl _) fun x e => (by cases x <;> cases e)) hm2.2
  · exact hm2.elim
/-- == of chains -/
def oEqC (neg : Bool) (fn : List D → (D → Prop) → Prop) : D → D → (D → Prop) → Prop := fun x y Q => match x with
  | .chn xs => (tyD true C0 y).isSome = true ∧ fn [.chn xs, y] fun d => isB d fun b => Q (.bl (neg ^^ b))
  | _ => False
theorem eqC_ok {neg : Bool} {fn : List D → (D → Prop) → Prop} {ta tb : TE} (hN : OwnT X.K g.C.nd) (hC : true = true → OwnT X.K g.C.ch) (hF : ∀ d t, tyD true g.C d = some t → PySem.W.notFirst X.K g.C.ch t = true)
    (k : ∀ (σ : L2.St) (H : Hp) (env : Env) (S : SS) (B : Nat) (Qd : D → Prop) (Q : VK), Rl g σ H env S → PB g B H → B + ca ≤ Bmax → ma env Qd → (∀ v H' d, Aft g fa Ra S H H' B ca v d → Qd d → Q v H') → ta σ H Q)
    (j : ∀ (σ : L2.St) (H : Hp) (env : Env) (S : SS) (B : Nat) (Qd : D → Prop) (Q : VK), Rl g σ H env S → PB g B H → B + cb ≤ Bmax → mb env Qd → (∀ v H' d, Aft g fb Rb S H H' B cb v d → Qd d → Q v H') → tb σ H Q) :
    ∀ (σ : L2.St) (H : Hp) (env : Env) (S : SS) (B : Nat) (Qd : D → Prop) (Q : VK), Rl g σ H env S → PB g B H → B + (ca + cb + c) ≤ Bmax → m2 (oEqC neg fn) ma mb env Qd → (∀ v H' d, Aft g false [] S H H' B (ca + cb + c) v d → Qd d → Q v H') → tOp (rOwn X.K g.C.ch (spV g.C fn c rk) neg) ta tb σ H Q := by
  intro σ H env S B Qd Q rl pb hb hm fin
  refine k σ H env S B _ _ rl pb (by omega) hm fun x H1 dx A1 hm1 => ?_
  refine j σ H1 env S (B + ca) _ _ (rl.fr A1.fr) A1.pb (by omega) hm1 fun y H2 dy A2 hm2 => ?_
  have F2 := A1.fr.trans A2.fr
  have r1 : Rep g (Sr g (Ra ++ Rb) S H H2) H2 x dx := A1.rep.goN fun a o s e => ⟨s.fwd (fun i h => List.mem_append_left _ h) A2.fr, A2.fr a o s.2.2 e⟩
  have r2 : Rep g (Sr g (Ra ++ Rb) S H H2) H2 y dy := A2.rep.mono fun a s => s.aft (fun i h => List.mem_append_right _ h) A1.fr
  have AL : AftL g (Ra ++ Rb) S H H2 B (ca + cb) [x, y] [dx, dy] := ⟨F2, A2.pb.mono (by omega), .cons r1 (.cons r2 .nil)⟩
  unfold oEqC at hm2
  split at hm2
  · obtain ⟨z1, z2⟩ := hm2
    obtain ⟨tb, ht⟩ := tyD_some (C' := g.C) z1
    have ry := tyx_of (K := X.K) hN hC r2 ht
    cases r1 with
    | chn s1 s2 e1 e2 e3 =>
      refine ⟨_, _, _, tb, rfl, e1, ry, hF _ _ ht, spV_use AL hb z2 fun v H3 d A z => ?_⟩
      have rz := A.rep
      unfold isB at z
      split at z
      · cases rz
        exact ⟨_, rfl, fin _ H3 _ (aft_sc A.fr A.pb (fun _ => .bl _) fun x e => (by cases x <;> cases e)) z⟩
      · exact z.elim
  · exact hm2.elim
theorem ve_eqC {neg : Bool} {fn : List D → (D → Prop) → Prop} (hp : ∀ {t u : TE}, PE X a t → PE X b u → PE X e (tOp (rOwn X.K g.C.ch (spV g.C fn c rk) neg) t u)) (hN : OwnT X.K g.C.nd) (hC : true = true → OwnT X.K g.C.ch) (hF : ∀ d t, tyD true g.C d = some t → PySem.W.notFirst X.K g.C.ch t = true)
    (ha : VE g X a ma Ra ca fa) (hb : VE g X b mb Rb cb fb) : VE g X e (m2 (oEqC neg fn) ma mb) [] (ca + cb + c) false := by
  obtain ⟨t, p, k⟩ := ha
  obtain ⟨u, q, j⟩ := hb
  exact ⟨_, hp p q, eqC_ok hN hC hF k j⟩
theorem vt_eqC {neg : Bool} {fn : List D → (D → Prop) → Prop} (hp : ∀ {t u : TE}, PE X a t → PE X b u → PT X e (tTest (tOp (rOwn X.K g.C.ch (spV g.C fn c rk) neg) t u))) (hN : OwnT X.K g.C.nd) (hC : true = true → OwnT X.K g.C.ch) (hF : ∀ d t, tyD true g.C d = some t → PySem.W.notFirst X.K g.C.ch t = true)
    (ha : VE g X a ma Ra ca fa) (hb : VE g X b mb Rb cb fb) : VT g X e (mB (m2 (oEqC neg fn) ma mb)) (ca + cb + c) := by
  obtain ⟨t, p, k⟩ := ha
  obtain ⟨u, q, j⟩ := hb
  refine ⟨_, hp p q, fun σ H env S B Qd Q rl pb hb hm fin => ?_⟩
  refine eqC_ok hN hC hF k j σ H env S B _ _ rl pb hb hm fun v H' d A z => ?_
  obtain ⟨b, rfl, hz⟩ := bool_of A.rep z
  exact ⟨b, rfl, fin b H' A.fr A.pb hz⟩
end
/-! ### x.reverse() -/
def mRev (k : Nat) : MS := fun M env => isL env[k]? fun xs => M.nx (env.set k (some (.lst xs.reverse)))
theorem RepL.rev {g : Gm} {S : Addr → Prop} {H : Hp} : ∀ {ds : List D} {vs : List V}, RepL g S H vs ds → RepL g S H vs.reverse ds.reverse
  | [], _, h => by cases h; exact .nil
  | d :: ds, _, h => by
    cases h with
    | cons a b =>
      rw [List.reverse_cons, List.reverse_cons]
      exact (RepL.rev b).append (.cons a .nil)
section
variable {g : Gm} {rk : Bool} {xw : Option WX} {X : Cx} {own ol : List Nat} {pos : Pos}
theorem vs_rev {k : Nat} {call : Expr} (hk : k ∈ own)
    (hp : PS X (.Expr call pos) (tDrop (tBM0 X.K "list" rReverse (tVar k)))) : VS g rk xw ol X (.Expr call pos) (mRev k) own own 0 := by
  refine ⟨_, hp, fun H0 A0 gs σ H env S B M D' r pb hb hm br => ?_⟩
  obtain ⟨xs, he, hm⟩ := isL_of hm
  obtain ⟨ys, l, vs, T, h1, h2, h3, h4, h5, h6⟩ := r.ow k hk _ he rfl
  obtain rfl := kx_lst h1
  refine ⟨.ref l, h2, .inl ⟨rfl, _, .inl (.inl h3)⟩, ?_⟩
  obtain ⟨l', vs', g1, g2, T', g3, g4⟩ := r.mutate hk he (U := fun _ => False) (fun a s => s.elim) (fun _ _ _ _ _ s => s)
  rw [h2] at g1
  cases g1
  refine ⟨l, vs', rfl, rfl, g2, ?_⟩
  have fin := g4 vs'.reverse xs.reverse (RepL.rev (g3.mono fun a t => .inl t))
  exact br.nx _ _ _ _ fin.2.2 (fin.2.1 _ pb) hm
end
end VL
namespace VL
open PySem PySem.Spec PyProof.Rows L2 StX RZ
/-! ### the facts of the classes, from what the top has written -/
theorem nf_self {K : PySem.W.Frag} {C : Addr} : PySem.W.notFirst K C (.ref C) = true := by
  unfold PySem.W.notFirst
  simp
theorem nf_mro {K : PySem.W.Frag} {C E : Addr} (h : PySem.W.mroIn K E (.ref C) = some false) : PySem.W.notFirst K C (.ref E) = true := by
  unfold PySem.W.notFirst
  have z : PySem.W.subIn K (.ref E) (.ref C) = some false := h
  rw [z]
  simp
theorem kit_self {K : PySem.W.Frag} {C : Addr} : PySem.W.kitOne K (.ref C) (.ref C) = some true := by
  unfold PySem.W.kitOne
  simp
theorem isi_of {K : PySem.W.Frag} {ch : Bool} {C : Kl} {p : D → Bool} {u : Value} (h0 : PySem.W.kitOne K (.type "NoneType") u = some (p .non)) (h1 : ∀ b, PySem.W.kitOne K (.type "bool") u = some (p (.bl b))) (h2 : ∀ i, PySem.W.kitOne K (.type "int") u = some (p (.int i)))
    (h3 : ∀ x, PySem.W.kitOne K (.type "str") u = some (p (.str x))) (h4 : ∀ xs, PySem.W.kitOne K (.type "list") u = some (p (.lst xs))) (h5 : ∀ xs, PySem.W.kitOne K (.type "tuple") u = some (p (.tup xs)))
    (h6 : ∀ s q m, PySem.W.kitOne K (.ref C.nd) u = some (p (.ndl s q m))) (h7 : ch = true → ∀ xs, PySem.W.kitOne K (.ref C.ch) u = some (p (.chn xs))) : IsiF K ch C p u := by
  intro d t e
  cases d with
  | non => cases e; exact h0
  | bl b => cases e; exact h1 b
  | int i => cases e; exact h2 i
  | str x => cases e; exact h3 x
  | lst xs => cases e; exact h4 xs
  | tup xs => cases e; exact h5 xs
  | ndl s p m => cases e; exact h6 s p m
  | chn xs =>
    cases ch with
    | true => cases e; exact h7 rfl xs
    | false => cases e
  | pool => cases e
  | opq a => cases e
  | err a b c => cases e
  | fnc k => cases e
  | exo k v e' => cases e
  | dct x => cases e
  | exv a d k v => cases e
  | gag a c dx l xs => cases e
section
variable {K : PySem.W.Frag} {ch : Bool} {C : Kl}
theorem isiN_of (h0 : PySem.W.kitOne K (.type "NoneType") (.ref C.nd) = some false) (h1 : PySem.W.kitOne K (.type "bool") (.ref C.nd) = some false) (h2 : PySem.W.kitOne K (.type "int") (.ref C.nd) = some false) (h3 : PySem.W.kitOne K (.type "str") (.ref C.nd) = some false)
    (h4 : PySem.W.kitOne K (.type "list") (.ref C.nd) = some false) (h5 : PySem.W.kitOne K (.type "tuple") (.ref C.nd) = some false) (h7 : ch = true → PySem.W.kitOne K (.ref C.ch) (.ref C.nd) = some false) : IsiF K ch C isNdl (.ref C.nd) :=
  isi_of h0 (fun _ => h1) (fun _ => h2) (fun _ => h3) (fun _ => h4) (fun _ => h5) (fun _ _ _ => kit_self) (fun e _ => h7 e)
theorem isiC_of (h0 : PySem.W.kitOne K (.type "NoneType") (.ref C.ch) = some false) (h1 : PySem.W.kitOne K (.type "bool") (.ref C.ch) = some false) (h2 : PySem.W.kitOne K (.type "int") (.ref C.ch) = some false) (h3 : PySem.W.kitOne K (.type "str") (.ref C.ch) = some false)
    (h4 : PySem.W.kitOne K (.type "list") (.ref C.ch) = some false) (h5 : PySem.W.kitOne K (.type "tuple") (.ref C.ch) = some false) (h6 : PySem.W.kitOne K (.ref C.nd) (.ref C.ch) = some false) : IsiF K true C isChn (.ref C.ch) :=
  isi_of h0 (fun _ => h1) (fun _ => h2) (fun _ => h3) (fun _ => h4) (fun _ => h5) (fun _ _ _ => h6) (fun _ _ => kit_self)
theorem isiL_of (h6 : PySem.W.kitOne K (.ref C.nd) (.type "list") = some false) (h7 : ch = true → PySem.W.kitOne K (.ref C.ch) (.type "list") = some false) : IsiF K ch C isLstD (.type "list") :=
  have t : ∀ a : String, kitB a "list" = some false → PySem.W.kitOne K (.type a) (.type "list") = some false := fun a h => kit_ty h
  isi_of (t _ (by decide +kernel)) (fun _ => t _ (by decide +kernel)) (fun _ => t _ (by decide +kernel)) (fun _ => t _ (by decide +kernel)) (fun _ => kit_ty (a := "list") (b := "list") (r := true) (by decide +kernel)) (fun _ => t _ (by decide +kernel)) (fun _ _ _ => h6) (fun e _ => h7 e)
end
end VL
namespace VL
theorem iteFe {b : Bool} {A B : Prop} (e : b = false) (h : B) : if b = true then A else B := by
  rw [e]
  exact L2.iteF h
end VL

set_option Elab.async false
set_option linter.all false
set_option maxRecDepth 100000
set_option maxHeartbeats 4000000
/-! VL, part C: zip of a list and a tuple. -/
namespace VZM
open PySem PySem.Spec PyProof.Rows L2 RZ
section
variable {prog : Program} {w : World} {A : Around} {it l : Addr} {items : Array Value} {i : Nat}
/-- an iterator that has come to its end -/
theorem endedL (hh : A.handled = none) (hi : items[i]? = none) : Draws prog w A it [it, l] i (fun _ _ => False) (fun j h => j = i ∧ h.IsListIter it l i ∧ h.IsList l items) where
  live := fun _ _ st => let ⟨o, ho, _⟩ := st.2.1; ⟨o, ho⟩
  frame := fun _ _ _ st hk => ⟨st.1, st.2.1.at fun o e => hk it (by simp) o e, st.2.2.at fun o e => hk l (by simp) o e⟩
  item := fun j s Q E hj st hQ => by
    have z := st.1
    omega
  done := fun s Q E st hE => wpAny_nextOf_list_end hh st.2.1 st.2.2 hi hE
theorem endedT (hh : A.handled = none) (hi : items[i]? = none) : Draws prog w A it [it, l] i (fun _ _ => False) (fun j h => j = i ∧ h.IsTupleIter it l i ∧ h.IsTuple l items) where
  live := fun _ _ st => let ⟨o, ho, _⟩ := st.2.1; ⟨o, ho⟩
  frame := fun _ _ _ st hk => ⟨st.1, st.2.1.at fun o e => hk it (by simp) o e, st.2.2.at fun o e => hk l (by simp) o e⟩
  item := fun j s Q E hj st hQ => by
    have z := st.1
    omega
  done := fun s Q E st hE => nextOf_tuple_end hh st.2.1 st.2.2 hi hE
end
/-- the list at a and the tuple at b, the items in new pairs -/
def Itm (K : PySem.W.Frag) (a b : Addr) : It :=
  ⟨fun i H => ∃ (xs ys : List V) (x y : V), SqL K H a xs ∧ SqT K H b ys ∧ xs[i]? = some x ∧ ys[i]? = some y,
    fun i H v H' => ∃ T x y, v = .ref T ∧ H T = none ∧ H' = upd H T (.tup [x, y]) ∧ (∀ xs, SqL K H a xs → xs[i]? = some x) ∧ ∀ ys, SqT K H b ys → ys[i]? = some y,
    fun i H => ∃ xs ys : List V, SqL K H a xs ∧ SqT K H b ys ∧ (xs.length ≤ i ∨ ys.length ≤ i)⟩
structure Apart (z TI TO i1 i2 a b : Addr) : Prop where
  s2 : ZipSep2 z TI TO i1 i2 [i1, a] [i2, b]
  n1 : a ≠ i1
  n2 : b ≠ i2
theorem turn_zipM {P : Program} {w : World} {K : PySem.W.Frag} {elts : List Expr} {kk : Nat} {tpos : Pos} {a b z TI TO i1 i2 : Addr} (D : Apart z TI TO i1 i2 a b) :
    Turn P w K (.Tuple elts kk tpos) (Itm K a b) [z, TI, TO, i1, i2] z (fun i h => IsZip h z TI TO .none ∧ IsTupOf2 h TI (.ref i1) (.ref i2) ∧ (∃ x y, IsTupOf2 h TO x y) ∧ h.IsListIter i1 a i ∧ h.IsTupleIter i2 b i) where
  mem := by simp
  obj := fun i h st c hc => by
    obtain ⟨hz, hTI, ⟨x, y, hTO⟩, ⟨o1, e1, _, d1⟩, ⟨o2, e2, _, d2⟩⟩ := st
    have five : c = z ∨ c = TI ∨ c = TO ∨ c = i1 ∨ c = i2 := by simpa using hc
    rcases five with rfl | rfl | rfl | rfl | rfl
    · exact ⟨_, hz, fun v q => nomatch q⟩
    · exact ⟨_, hTI, fun v q => nomatch q⟩
    · exact ⟨_, hTO, fun v q => nomatch q⟩
    · exact ⟨o1, e1, fun v q => by rw [d1] at q; cases q⟩
    · exact ⟨o2, e2, fun v q => by rw [d2] at q; cases q⟩
  keep := fun i h h' st k => by
    obtain ⟨hz, hTI, ⟨x, y, hTO⟩, j1, j2⟩ := st
    exact ⟨k z (by simp) _ hz, k TI (by simp) _ hTI, ⟨x, y, k TO (by simp) _ hTO⟩, j1.at fun o q => k i1 (by simp) o q, j2.at fun o q => k i2 (by simp) o q⟩
  item := by
    intro X hP hw hK hc i pins s σ H E I hf st hg
    subst hP hw hK
    obtain ⟨hz, hTI, ⟨x0, y0, hTO⟩, j1, j2⟩ := st
    obtain ⟨xs, ys, x, y, hqx, hqy, hx, hy⟩ := hg
    obtain ⟨its, rv, p, _⟩ := I.list hqx
    obtain ⟨its2, rv2, p2, _⟩ := I.tuple hqy
    obtain ⟨u, hu, ru⟩ := rv.get hx
    obtain ⟨u2, hu2, ru2⟩ := rv2.get hy
    have zlt : z < s.heap.objs.size := Heap.lt_size hz
    have calm1 : X.A.in1.handled = none := I.ok.hd hc
    have gu : its.toArray[i]? = some u := by simpa using hu
    have gu2 : its2.toArray[i]? = some u2 := by simpa using hu2
    refine wpAny_pyNext_zipD2_item D.s2 (Draws.list calm1 i1 a D.n1 its.toArray) (Draws.tuple calm1 i2 b D.n2 its2.toArray) hz hTI hTO ⟨j1, p.isList⟩ ⟨j2, p2⟩ (Array.getElem?_eq_some_iff.mp gu).1 (Array.getElem?_eq_some_iff.mp gu2).1 fun w1 w2 h' tk hw1 hw2 z' TO' st1 st2 hT hsz hk => ?_
    have e1 : w1 = u := by
      rw [gu] at hw1
      exact (Option.some.inj hw1).symm
    have e2 : w2 = u2 := by
      rw [gu2] at hw2
      exact (Option.some.inj hw2).symm
    subst e1
    subst e2
    refine ⟨_, rfl, wpAny_letOwnedTupleGo_zip (s := { s with heap := h', toks := tk }) z' fun h'' z'' sb => ?_⟩
    have hT2 : h''.get? s.heap.objs.size = some { cls := .type "tuple", data := .seq #[w1, w2] } := (sb.2 _ (Nat.ne_of_gt zlt)).trans hT
    have ok2 : ObjOk X.prog X.w (upd H s.heap.objs.size (.tup [x, y])) h'' s.heap.objs.size (.tup [x, y]) :=
      ⟨by show 2 ≤ sizeLine; decide, [w1, w2], .cons ru (.cons ru2 .nil), ⟨_, hT2, rfl, _, rfl⟩⟩
    have keepc : ∀ c o, c ∉ [z, TI, TO, i1, i2] → s.heap.get? c = some o → h''.get? c = some o := fun c o hb q =>
      (sb.2 c (fun q' => hb (by simp [q']))).trans (hk c o (fun q' => hb (by simp [q'])) (fun q' => hb (by simp [q'])) (fun q' => hb (by simp [q'])) (fun q' => hb (by simp [q'])) q)
    have I1 : Inv X pins σ (upd H s.heap.objs.size (.tup [x, y])) { s with heap := h'', toks := tk } :=
      I.turnedNew (t' := tk) (ch := [z, TI, TO, i1, i2]) keepc hf (Nat.le_refl _) ok2
    refine ⟨.ref s.heap.objs.size, _, I1, rfl, ⟨_, x, y, rfl, I.hok.fresh (Nat.le_refl _), rfl, fun l hl => by rw [I.list_inj hl hqx]; exact hx, fun l hl => by rw [I.tuple_inj hl hqy]; exact hy⟩, ⟨z'', ?_, ⟨w1, w2, ?_⟩, ?_, ?_⟩, fun c hcm => ?_⟩
    · exact (sb.2 _ D.s2.TIz).trans (hk _ _ D.s2.TIz D.s2.TITO D.s2.TIi1 D.s2.TIi2 hTI)
    · exact (sb.2 _ D.s2.TOz).trans TO'
    · exact st1.1.at fun o q => (sb.2 _ D.s2.zi1.symm).trans q
    · exact st2.1.at fun o q => (sb.2 _ D.s2.zi2.symm).trans q
    · have hlt : c < s.heap.objs.size := by
        have five : c = z ∨ c = TI ∨ c = TO ∨ c = i1 ∨ c = i2 := by simpa using hcm
        rcases five with rfl | rfl | rfl | rfl | rfl
        · exact zlt
        · exact Heap.lt_size hTI
        · exact Heap.lt_size hTO
        · obtain ⟨_, g1, _⟩ := j1
          exact Heap.lt_size g1
        · obtain ⟨_, g2, _⟩ := j2
          exact Heap.lt_size g2
      rw [upd_ne (Nat.ne_of_lt hlt)]
      exact (hf c hcm).1
  done := by
    intro X hP hw hK hc i pins s σ H E I hf st hg
    subst hP hw hK
    obtain ⟨hz, hTI, ⟨x0, y0, hTO⟩, j1, j2⟩ := st
    obtain ⟨xs, ys, hqx, hqy, hend⟩ := hg
    obtain ⟨its, rv, p, _⟩ := I.list hqx
    obtain ⟨its2, rv2, p2, _⟩ := I.tuple hqy
    have l1 := rv.length
    have l2 := rv2.length
    have calm1 : X.A.in1.handled = none := I.ok.hd hc
    have fin : ∀ h' tk, (∀ c o, c ≠ z → c ≠ TO → c ≠ i1 → c ≠ i2 → s.heap.get? c = some o → h'.get? c = some o) → (none : Option Value) = none ∧ Inv X pins σ H { s with heap := h', toks := tk } := fun h' tk hk =>
      ⟨rfl, I.turnedL (t' := tk) (ch := [z, TI, TO, i1, i2]) (fun c o hb q => hk c o (fun q' => hb (by simp [q'])) (fun q' => hb (by simp [q'])) (fun q' => hb (by simp [q'])) (fun q' => hb (by simp [q'])) q) hf⟩
    by_cases c1 : its.length ≤ i
    · have n1 : its.toArray[i]? = none := by simp; omega
      by_cases c2 : its2.length ≤ i
      · have n2 : its2.toArray[i]? = none := by simp; omega
        exact wpAny_pyNext_zipD2_end D.s2 (endedL calm1 n1) (endedT calm1 n2) hz hTI hTO ⟨rfl, j1, p.isList⟩ ⟨rfl, j2, p2⟩ (Nat.le_refl _) (Nat.le_refl _) (.inl rfl) fin
      · exact wpAny_pyNext_zipD2_end D.s2 (endedL calm1 n1) (Draws.tuple calm1 i2 b D.n2 its2.toArray) hz hTI hTO ⟨rfl, j1, p.isList⟩ ⟨j2, p2⟩ (Nat.le_refl _) (by simp; omega) (.inl rfl) fin
    · have c2 : its2.length ≤ i := by omega
      have n2 : its2.toArray[i]? = none := by simp; omega
      exact wpAny_pyNext_zipD2_end D.s2 (Draws.list calm1 i1 a D.n1 its.toArray) (endedT calm1 n2) hz hTI hTO ⟨j1, p.isList⟩ ⟨rfl, j2, p2⟩ (by simp; omega) (Nat.le_refl _) (.inr rfl) fin
  self := fun A i s Q E st h => wpAny_pyIter_zip st.1 h
theorem apart_of {N a b : Nat} (la : a < N) (lb : b < N) : Apart (N + 4 : Nat) (N + 2 : Nat) (N + 3 : Nat) N (N + 1 : Nat) a b := by
  have two : ∀ x y u : Nat, x ≠ y → x ≠ u → x ∉ ([y, u] : List Nat) := fun x y u h1 h2 => by simp [h1, h2]
  have n1 : a ≠ N := by omega
  have n2 : b ≠ N + 1 := by omega
  exact ⟨⟨(by omega : N + 2 ≠ N + 4), (by omega : N + 3 ≠ N + 4), (by omega : N + 2 ≠ N + 3), (by omega : N + 2 ≠ N), List.mem_cons_self,
    two _ _ _ (by omega) (by omega), two _ _ _ (by omega) (by omega), (by omega : N + 2 ≠ N + 1), List.mem_cons_self, two _ _ _ (by omega) (by omega), two _ _ _ (by omega) (by omega), two _ _ _ (by omega) (by omega), two _ _ _ (by omega) (by omega)⟩, n1, n2⟩
def iZipM (K : PySem.W.Frag) (ta : TA) : TI := fun σ H R => ta σ H fun vs H1 => ∃ a b xs ys, vs = [.ref a, .ref b] ∧ SqL K H1 a xs ∧ SqT K H1 b ys ∧ R (Itm K a b) H1
theorem pi_zipM {X : Cx} {e e2 : Expr} {ta : TA} {p pos tpos : Pos} {elts : List Expr} {kk : Nat} (hg : Gl X "zip") (hm : X.mg "zip" = none) (ha : PA X [e, e2] ta)
    (hs : starEach [e, e2] X.env = (false, eval e X.env) :: starEach [e2] X.env := by rfl) (hpl : (backTo pos (starEach [e2] X.env)).any (·.1) = false := by rfl) :
    PI X (.Tuple elts kk tpos) (.Call (.Name "zip" p) [e, e2] [] pos) (iZipM X.K ta) := by
  constructor
  intro pins s σ H R I h
  refine Call_ (ld_blt I hg hm PyProof.Rows.boot_zip (PyProof.Rows.callWith_type1 (thn (ha.run pos pins s σ H _ I h) fun us s1 ⟨vs, H1, I1, r1, q1⟩ => ?_) hs hpl))
  obtain ⟨a, b, xs, ys, ex, hqx, hqy, q⟩ := q1
  subst ex
  cases r1 with
  | cons r rr =>
    cases rr with
    | cons r' rr =>
      cases rr
      cases r
      cases r'
      obtain ⟨its, rv, p1, _⟩ := I1.list hqx
      obtain ⟨its2, rv2, p2, _⟩ := I1.tuple hqy
      have la : a < s1.heap.objs.size := p1.lt
      have lb : b < s1.heap.objs.size := by
        obtain ⟨o2, ho2, _⟩ := id p2
        exact Heap.lt_size ho2
      have fresh5 : ∀ c, c ∈ [s1.heap.objs.size + 4, s1.heap.objs.size + 2, s1.heap.objs.size + 3, s1.heap.objs.size, s1.heap.objs.size + 1] → FpOk X pins H1 c := fun c hcm => by
        have hle : s1.heap.objs.size ≤ c := by
          simp only [List.mem_cons, List.not_mem_nil, or_false] at hcm
          omega
        exact I1.fpOk hle (I1.hok.fresh hle)
      refine zip_begins2 (begins_list a its.toArray) (begins_tuple b its2.toArray) p1.isList p2 fun h' hz hTI hTO h1 h2 hsz hk => wpAny_pyIter_zip hz ?_
      have I2 : Inv X pins σ H1 { s1 with heap := h' } := I1.kept (t' := s1.toks) hk
      have ap : Apart (s1.heap.objs.size + 4) (s1.heap.objs.size + 2) (s1.heap.objs.size + 3) s1.heap.objs.size (s1.heap.objs.size + 1) a b := apart_of la lb
      exact ⟨s1.heap.objs.size + 4, [s1.heap.objs.size + 4, s1.heap.objs.size + 2, s1.heap.objs.size + 3, s1.heap.objs.size, s1.heap.objs.size + 1], _, _, H1, rfl, I2, turn_zipM ap, ⟨hz, hTI, ⟨_, _, hTO⟩, ⟨_, h1, rfl, rfl⟩, ⟨_, h2, rfl, rfl⟩⟩, fresh5, q⟩
end VZM
namespace VL
open PySem PySem.Spec PyProof.Rows L2 StX RZ VZM
section
variable {g : Gm} {X : Cx} {tg iter : Expr} {es : List Expr} {ml : MA} {R : List Nat} {c : Nat}
theorem src_zipM {K : PySem.W.Frag} {a b : Addr} {xs ys : List D} : SrcOk g (Itm K a b) [(.ref a, .lst xs), (.ref b, .tup ys)] (zipD xs ys) := by
  intro U H B hU pb hg i
  have r1 := hg (.ref a, .lst xs) (by simp)
  have r2 := hg (.ref b, .tup ys) (by simp)
  cases r1 with
  | lst s1 e1 q1 =>
    cases r2 with
    | tup s2 e2 q2 =>
      refine ⟨fun d hd => ?_, fun hl => ⟨_, _, SqL.of e1, SqT.of e2, ?_⟩⟩
      · obtain ⟨x, y, h1, h2, rfl⟩ := zipD_get hd
        obtain ⟨u, hu, ru⟩ := q1.get h1
        obtain ⟨w, hw, rw'⟩ := q2.get h2
        refine ⟨⟨_, _, u, w, SqL.of e1, SqT.of e2, hu, hw⟩, fun v H' y => ?_⟩
        obtain ⟨T, x', y', rfl, hT, rfl, y1, y2⟩ := y
        have z1 := y1 _ (SqL.of e1)
        have z2 := y2 _ (SqT.of e2)
        rw [hu] at z1
        rw [hw] at z2
        cases z1
        cases z2
        exact pair_rep hU pb hT ru rw'
      · rw [zipD_len] at hl
        rw [q1.length, q2.length]
        omega
/-- zip of a list and a tuple -/
def oZipM : List D → (List D → Prop) → Prop
  | [.lst xs, .tup ys], Q => Q (zipD xs ys)
  | _, _ => False
theorem vi_zipM (h : VA g X es ml R c) (hp : ∀ {t : TA}, PA X es t → PI X tg iter (iZipM X.K t)) : VI g X tg iter (mIt oZipM ml) R c := by
  obtain ⟨t, p, k⟩ := h
  refine ⟨_, hp p, fun σ H env S B Qd Rr rl pb hb hm q => k σ H env S B _ _ rl pb hb hm fun vs H1 ds A z => ?_⟩
  have r := A.rep
  unfold oZipM at z
  split at z
  · obtain ⟨v, w, rfl, h, h'⟩ := repL2 r
    have k1 := h
    have k2 := h'
    cases h with
    | lst s1 e1 q1 =>
      cases h' with
      | tup s2 e2 q2 => exact ⟨_, _, _, _, rfl, SqL.of e1, SqT.of e2, q _ H1 _ _ A.fr A.pb (fun p hp => by
          simp only [List.mem_cons, List.not_mem_nil, or_false] at hp
          rcases hp with rfl | rfl
          · exact k1
          · exact k2) src_zipM z⟩
  · exact z.elim
end
end VL

set_option Elab.async false
set_option linter.all false
set_option maxRecDepth 100000
set_option maxHeartbeats 4000000
/-! VL, part D: == of two tuples of needles. -/
namespace VTE
open PySem PySem.Spec PyProof.Rows L2
open AutoSeq1 (wpAny_loadPart')
section
variable {prog : Program} {w : World} {A : Around} {R : Result → Shared → Prop}
theorem tup_loop (l b : Addr) (its its2 : Array Value) (n n2 : Nat) (dd dd2 : Option Addr) (sl sl2 : Array (Option Value)) (e : Nat → Bool) (I : Nat → Shared → Prop)
    (turn : ∀ i (h1 : i < its.size) (h2 : i < its2.size) s, I i s → wpAny (model prog w) A.in1 (eqBool its[i] its2[i]) (fun r s' => r = e i ∧ I (i + 1) s') (fun x s' => R (.error x) s') s)
    (no : ∀ i s, i < its.size → i < its2.size → e i = false → I (i + 1) s → R (.ok (.ret (.bool false))) s)
    (yes : ∀ i s, i = min its.size its2.size → (∀ j, j < i → e j = true) → I i s → R (.ok (.ret (.bool (its.size == its2.size)))) s)
    {s : Shared} (hl1 : s.heap.get? l = some { cls := .type "tuple", dict := dd, data := .seq its n, slots := sl }) (hb1 : s.heap.get? b = some { cls := .type "tuple", dict := dd2, data := .seq its2 n2, slots := sl2 }) (h : I 0 s) :
    wpAny (model prog w) A.in1 (Builtin.«tuple.__eq__» ⟨[.ref l, .ref b], []⟩) (GQ.FinOf prog w A R) (fun x s' => R (.error x) s') s := by
  have f2 := AutoSeq1.sub_tuple_tuple
  have lz : (its.toList.zip its2.toList).length = min its.size its2.size := by simp
  have start := h
  obtain ⟨hp, g, d, tk, os⟩ := s
  wp_walk using wpAny_loadPart' hl1, wpAny_loadPart' hb1, wpAny_forIn_list _ (fun rest b s' => b.1 = none ∧ ∃ i, rest = (its.toList.zip its2.toList).drop i ∧ i ≤ min its.size its2.size ∧ (∀ j, j < i → e j = true) ∧ I i s') _
  case turn =>
    rintro ⟨y, x⟩ rest b s' ⟨hb', i, hz, hi, ha, hI⟩
    have hlt : i < (its.toList.zip its2.toList).length := by
      rcases Nat.lt_or_ge i (its.toList.zip its2.toList).length with q | q
      · exact q
      · rw [List.drop_of_length_le q] at hz
        cases hz
    have g1 : i < its.size := by omega
    have g2 : i < its2.size := by omega
    rw [List.drop_eq_getElem_cons hlt] at hz
    injection hz with hyx hrest
    have hy : y = its[i] := by
      have z := congrArg Prod.fst hyx
      simpa using z
    have hx : x = its2[i] := by
      have z := congrArg Prod.snd hyx
      simpa using z
    subst hy hx
    refine wpAny_bind (wpAny_mono (turn i g1 g2 s' hI) (fun r s2 q2 => ?_) fun _ _ x => x)
    obtain ⟨hr, q2⟩ := q2
    cases c : e i with
    | true =>
      rw [c] at hr
      subst hr
      wp_walk
      exact ⟨rfl, i + 1, hrest, by omega, fun j hj => by
        rcases Nat.lt_or_ge j i with q | q
        · exact ha j q
        · rw [show j = i by omega, c], q2⟩
    | false =>
      rw [c] at hr
      subst hr
      have hR := no i s2 g1 g2 c q2
      wp_walk
      exact hR
  case fin =>
    rintro ⟨b1, b2⟩ s' ⟨hb', i, hz, hi, ha, hI⟩
    simp only at hb'
    subst hb'
    have hge : min its.size its2.size ≤ i := by
      rcases Nat.lt_or_ge i (its.toList.zip its2.toList).length with q | q
      · rw [List.drop_eq_getElem_cons q] at hz
        cases hz
      · omega
    have hR := yes i s' (by omega) ha hI
    wp_walk
    simpa [Builtin.Tuple.tupleCompareSizes] using hR
  case h =>
    exact ⟨rfl, 0, rfl, Nat.zero_le _, fun j hj => absurd hj (Nat.not_lt_zero j), start⟩
theorem rc_tup {E : Value → Shared → Prop} {s : Shared} {l b : Addr} {its its2 : Array Value} {Q : Value → Shared → Prop} (hu : A.units < cLine) (e : Nat → Bool) (I : Nat → Shared → Prop)
    (hl : s.heap.IsTuple l its) (hb : s.heap.IsTuple b its2)
    (turn : ∀ i (h1 : i < its.size) (h2 : i < its2.size) s, I i s → wpAny (model prog w) A.in1 (eqBool its[i] its2[i]) (fun r s' => r = e i ∧ I (i + 1) s') E s)
    (no : ∀ i s, i < its.size → i < its2.size → e i = false → I (i + 1) s → Q (.bool false) s)
    (yes : ∀ i s, i = min its.size its2.size → (∀ j, j < i → e j = true) → I i s → Q (.bool (its.size == its2.size)) s) (h : I 0 s) : wpAny (model prog w) A (richCompare .Eq (.ref l) (.ref b)) Q E s := by
  obtain ⟨⟨cls, dd, data, sl⟩, ho, hc, n, hd⟩ := id hl
  obtain ⟨⟨cls2, dd2, data2, sl2⟩, ho2, hc2, n2, hd2⟩ := id hb
  simp only at hc hd hc2 hd2
  subst hc hd hc2 hd2
  refine wpAny_richCompare_same_room (op := .Eq) ⟨_, ho, rfl⟩ ⟨_, ho2, rfl⟩ F.slot_tuple_eq (GQ.call_here F.slot_tuple_eq ⟨_, ho, rfl⟩ F.entry_tuple_eq (F.args_tuple_eq_2 _ _) ?_) hu
  exact tup_loop (R := wants (fun v s' => v ≠ .notImplemented ∧ Q v s') E) l b its its2 n n2 dd dd2 sl sl2 e I turn (fun i s' h1 h2 c q => ⟨(fun x => nomatch x), no i s' h1 h2 c q⟩) (fun i s' h1 h2 q => ⟨(fun x => nomatch x), yes i s' h1 h2 q⟩) ho ho2 h
end
end VTE
namespace VL
open PySem PySem.Spec PyProof.Rows L2 StX RZ
/-- two tuples of needles -/
def oEqT : D → D → (D → Prop) → Prop := fun x y Q => match x, y with
  | .tup xs, .tup ys => (xs.all isNdl = true ∧ ys.all isNdl = true) ∧ Q (.bl (sameNs xs ys))
  | _, _ => False
theorem sameNs_at : ∀ {xs ys : List D}, sameNs xs ys = (xs.length == ys.length && (List.range (min xs.length ys.length)).all fun i => sameN (xs.getD i .non) (ys.getD i .non))
  | [], [] => rfl
  | [], y :: ys => rfl
  | x :: xs, [] => rfl
  | x :: xs, y :: ys => by
    show (sameN x y && sameNs xs ys) = _
    rw [sameNs_at (xs := xs) (ys := ys)]
    have e : min (x :: xs).length (y :: ys).length = min xs.length ys.length + 1 := by
      simp only [List.length_cons]
      omega
    rw [e, List.range_succ_eq_map, List.all_cons, List.all_map]
    have l : ((x :: xs).length == (y :: ys).length) = (xs.length == ys.length) := by simp
    rw [l]
    have h0 : sameN ((x :: xs).getD 0 .non) ((y :: ys).getD 0 .non) = sameN x y := rfl
    rw [h0, Bool.and_left_comm]
    rfl
theorem sameN_refl' {x : D} (h : isNdl x = true) : sameN x x = true := by
  cases x <;> first | (simp [sameN]; done) | cases h
section
variable {X : Cx} {C : Kl} {f : Addr} {fd : FuncData} {ps : List Str} {k c : Nat} {rk : Bool} {fn : List D → (D → Prop) → Prop}
/-- what == of two needles gives, somewhere below X -/
theorem ndl_eq {g : Gm} {A : Around} {pins : List (Addr × Obj)} {σ : L2.St} {H : Hp} {s : Shared} {S1 S2 : Addr → Prop} {x y : V} {dx dy : D} {u v : Value} (T : EqT X.K g.C.nd f) (F : FnOk X.prog X.w X.K X.mg X.base CX0 k f fd ps (spV g.C fn c rk)) (tb : g.C.tb = false) (hc : c ≤ Bmax)
    (ht : ∀ x y, isNdl x = true → isNdl y = true → fn [x, y] fun d => d = .bl (sameN x y)) (hb : Binds X.K fd ps []) (sb : L2.Sub X k A) (I : Inv X pins σ H s) (rx : RelV x u) (ry : RelV y v)
    (r1 : Rep g S1 H x dx) (r2 : Rep g S2 H y dy) (n1 : isNdl dx = true) (n2 : isNdl dy = true) :
    wpAny (model X.prog X.w) A (eqBool u v) (fun r s' => r = sameN dx dy ∧ ∃ H', Inv X pins σ H' s' ∧ Ext H H') X.xe s := by
  have ex1 : ∃ a, x = .ref a := by
    cases r1 with
    | ndl _ _ _ _ _ _ => exact ⟨_, rfl⟩
    | _ => cases n1
  have ex2 : ∃ a, y = .ref a := by
    cases r2 with
    | ndl _ _ _ _ _ _ => exact ⟨_, rfl⟩
    | _ => cases n2
  obtain ⟨a, rfl⟩ := ex1
  obtain ⟨b, rfl⟩ := ex2
  have rx' := rx
  have ry' := ry
  cases rx
  cases ry
  by_cases hab : a = b
  · subst hab
    have e : dx = dy := by
      cases r1 with
      | ndl _ _ _ e1 e2 e3 =>
        cases r2 with
        | ndl _ _ _ f1 f2 f3 =>
          rw [e1] at f1
          injection f1 with f1
          injection f1 with _ _ f1
          injection f1 with f1 f4
          injection f1 with _ f1
          injection f1 with f1
          subst f1
          rw [e2] at f2
          injection f2 with f2
          injection f2 with f2
          injection f2 with g1 f2
          injection f2 with g2 f2
          injection f2 with g3 _
          injection g1 with g1
          injection g2 with g2
          injection g3 with g3
          rw [g1, g2, g3]
        | _ => cases n2
      | _ => cases n1
    subst e
    rw [sameN_refl' n1]
    exact SeqAt.EqAt.same (A := A) (s := s) (.ref a) X.prog X.w X.xe _ ⟨rfl, H, I, Ext.rfl'⟩
  · have m1 : Rep ⟨g.C, none⟩ (fun a => H a ≠ none) H (.ref a) dx := by
      cases dx <;> first | exact ndl_none r1 | cases n1
    have m2 : Rep ⟨g.C, none⟩ (fun a => H a ≠ none) H (.ref b) dy := by
      cases dy <;> first | exact ndl_none r2 | cases n2
    have sp : spV g.C fn c rk [.ref a, .ref b] H (fun v H' => v = .bl (sameN dx dy) ∧ Ext H H') E0 :=
      ⟨none, 0, [dx, dy], fun a => H a ≠ none, _, .cons m1 (.cons m2 .nil), fun a h => ⟨h, fun z => (nomatch z)⟩, PB.no0 tb, by omega, ht dx dy n1 n2, fun d v H' e A _ => by
        subst e
        have rv := A.rep
        cases rv
        exact ⟨rfl, fun a o e => A.fr.all tb a o (fun z => (nomatch z)) e⟩⟩
    refine GQ.eqBool_refG hab ?_
    have ea : ∃ dx' fs, H a = some (.ins g.C.nd dx' fs) := by
      cases r1 with
      | ndl _ _ _ e1 _ _ => exact ⟨_, _, e1⟩
      | _ => cases n1
    have eb : ∃ dx' fs, H b = some (.ins g.C.nd dx' fs) := by
      cases r2 with
      | ndl _ _ _ e1 _ _ => exact ⟨_, _, e1⟩
      | _ => cases n2
    obtain ⟨_, _, ea⟩ := ea
    obtain ⟨_, _, eb⟩ := eb
    obtain ⟨mA, J, _⟩ := ins_get I.hok ea
    obtain ⟨mB, J', _⟩ := ins_get I.hok eb
    obtain ⟨od, J, _⟩ := J.look
    obtain ⟨od', J', _⟩ := J'.look
    obtain ⟨m, hF⟩ := I.fr
    refine PySem.W.cmp_K (op := .Eq) (tb := .ref g.C.nd) sb.room.units0 hF I.ok.mod.kin J J'.type nf_self T.he T.hf ?_
    refine wpAny_mono (run_own F sb.room sb.fr hb I rx' ry' sp) (fun w s' z => ?_) fun _ _ z => z
    obtain ⟨w', H', I', r', e, ex⟩ := z
    subst e
    cases r'
    exact ⟨_, rfl, rfl, H', I', ex⟩
def rEqT (X : Cx) (C : Kl) : R2 := fun x y H Q => ∃ (pa : Option Addr) (S1 S2 : Addr → Prop) (a b : Addr) (vs us : List V) (xs ys : List D), x = .ref a ∧ y = .ref b ∧ SqT X.K H a vs ∧ SqT X.K H b us ∧ RepL ⟨C, pa⟩ S1 H vs xs ∧ RepL ⟨C, pa⟩ S2 H us ys ∧ xs.all isNdl = true ∧ ys.all isNdl = true ∧
  ∀ H', Ext H H' → Q (.bl (sameNs xs ys)) H'
theorem op_eqT (T : EqT X.K C.nd f) (F : FnOk X.prog X.w X.K X.mg X.base CX0 k f fd ps (spV C fn c rk)) (tb : C.tb = false) (hc : c ≤ Bmax) (ht : ∀ x y, isNdl x = true → isNdl y = true → fn [x, y] fun d => d = .bl (sameN x y)) (hr : Room (k + 1) X.A) (hb : Binds X.K fd ps []) : OpR X (compareOp .Eq) (rEqT X C) := by
  intro pins s σ H x y v u Q I rx ry hq
  obtain ⟨pa, S1, S2, a, b, vs, us, xs, ys, rfl, rfl, hqx, hqy, q1, q2, a1, a2, q⟩ := hq
  cases rx
  cases ry
  obtain ⟨its, rv, p1, _⟩ := I.tuple hqx
  obtain ⟨its2, rv2, p2, _⟩ := I.tuple hqy
  have z1 : its.toArray.size = xs.length := by rw [List.size_toArray, ← rv.length, q1.length]
  have z2 : its2.toArray.size = ys.length := by rw [List.size_toArray, ← rv2.length, q2.length]
  have fin : ∀ s' H' r, r = sameNs xs ys → Inv X pins σ H' s' → Ext H H' → EP X pins σ Q (.bool r) s' := fun s' H' r e I' ex => ⟨.bl (sameNs xs ys), H', I', by rw [e]; rfl, q H' ex⟩
  show wpAny (model X.prog X.w) X.A (richCompare .Eq (.ref a) (.ref b)) (EP X pins σ Q) X.xe s
  refine VTE.rc_tup (by have z := hr.un; omega) (fun i => sameN (xs.getD i .non) (ys.getD i .non)) (fun _ s' => ∃ H', Inv X pins σ H' s' ∧ Ext H H') p1 p2 (fun i h1 h2 s' hI => ?_) (fun i s' h1 h2 c hI => ?_) (fun i s' h1 ha hI => ?_) ⟨H, I, Ext.rfl'⟩
  · obtain ⟨H1, I1, e1⟩ := hI
    have l1 : i < its.length := by simpa using h1
    have l2 : i < its2.length := by simpa using h2
    have k1 : i < xs.length := by omega
    have k2 : i < ys.length := by omega
    have gx : xs[i]? = some xs[i] := List.getElem?_eq_getElem k1
    have gy : ys[i]? = some ys[i] := List.getElem?_eq_getElem k2
    obtain ⟨x', hx', rx'⟩ := q1.get gx
    obtain ⟨y', hy', ry'⟩ := q2.get gy
    obtain ⟨u1, hu1, ru1⟩ := rv.get hx'
    obtain ⟨u2, hu2, ru2⟩ := rv2.get hy'
    have w1 : its.toArray[i] = u1 := by
      have z : its[i]? = some its[i] := List.getElem?_eq_getElem l1
      rw [z] at hu1
      have y := Option.some.inj hu1
      simpa using y
    have w2 : its2.toArray[i] = u2 := by
      have z : its2[i]? = some its2[i] := List.getElem?_eq_getElem l2
      rw [z] at hu2
      have y := Option.some.inj hu2
      simpa using y
    have d1 : xs.getD i .non = xs[i] := by rw [List.getD_eq_getElem?_getD, gx]; rfl
    have d2 : ys.getD i .non = ys[i] := by rw [List.getD_eq_getElem?_getD, gy]; rfl
    rw [w1, w2, d1, d2]
    have n1 : isNdl xs[i] = true := List.all_eq_true.mp a1 _ (List.getElem_mem k1)
    have n2 : isNdl ys[i] = true := List.all_eq_true.mp a2 _ (List.getElem_mem k2)
    have up : ∀ (S : Addr → Prop) a o, S a → H a = some o → S a ∧ H1 a = some o := fun S a o s e => ⟨s, e1 a o e⟩
    refine wpAny_mono (ndl_eq (g := ⟨C, pa⟩) T F tb hc ht hb ⟨hr.in1, rfl⟩ I1 ru1 ru2 (rx'.go (up S1)) (ry'.go (up S2)) n1 n2) (fun r s2 z => ?_) fun _ _ z => z
    obtain ⟨z1, H2, I2, e2⟩ := z
    exact ⟨z1, H2, I2, e1.trans e2⟩
  · obtain ⟨H1, I1, e1⟩ := hI
    refine fin s' H1 false ?_ I1 e1
    rw [sameNs_at]
    have no : ((List.range (min xs.length ys.length)).all fun i => sameN (xs.getD i .non) (ys.getD i .non)) = false := by
      rw [List.all_eq_false]
      exact ⟨i, List.mem_range.mpr (by omega), by rw [c]; exact Bool.false_ne_true⟩
    rw [no, Bool.and_false]
  · obtain ⟨H1, I1, e1⟩ := hI
    refine fin s' H1 _ ?_ I1 e1
    rw [sameNs_at, z1, z2]
    have yes : ((List.range (min xs.length ys.length)).all fun i => sameN (xs.getD i .non) (ys.getD i .non)) = true := by
      rw [List.all_eq_true]
      intro j hj
      exact ha j (by
        have z := List.mem_range.mp hj
        omega)
    rw [yes, Bool.and_true]
end
section
variable {g : Gm} {f fa fb rk : Bool} {X : Cx} {a b e : Expr} {ma mb m : ME} {R Ra Rb : List Nat} {c ca cb : Nat} {pos : Pos}
theorem eqT_ok {ta tb : TE} (k : ∀ (σ : L2.St) (H : Hp) (env : Env) (S : SS) (B : Nat) (Qd : D → Prop) (Q : VK), Rl g σ H env S → PB g B H → B + ca ≤ Bmax → ma env Qd → (∀ v H' d, Aft g fa Ra S H H' B ca v d → Qd d → Q v H') → ta σ H Q)
    (j : ∀ (σ : L2.St) (H : Hp) (env : Env) (S : SS) (B : Nat) (Qd : D → Prop) (Q : VK), Rl g σ H env S → PB g B H → B + cb ≤ Bmax → mb env Qd → (∀ v H' d, Aft g fb Rb S H H' B cb v d → Qd d → Q v H') → tb σ H Q) :
    ∀ (σ : L2.St) (H : Hp) (env : Env) (S : SS) (B : Nat) (Qd : D → Prop) (Q : VK), Rl g σ H env S → PB g B H → B + (ca + cb) ≤ Bmax → m2 oEqT ma mb env Qd → (∀ v H' d, Aft g false [] S H H' B (ca + cb) v d → Qd d → Q v H') → tOp (rEqT X g.C) ta tb σ H Q := by
  intro σ H env S B Qd Q rl pb hb hm fin
  refine k σ H env S B _ _ rl pb (by omega) hm fun x H1 dx A1 hm1 => ?_
  refine j σ H1 env S (B + ca) _ _ (rl.fr A1.fr) A1.pb (by omega) hm1 fun y H2 dy A2 hm2 => ?_
  have F2 := A1.fr.trans A2.fr
  have r1 : Rep g (Sr g (Ra ++ Rb) S H H2) H2 x dx := A1.rep.goN fun a o s e => ⟨s.fwd (fun i h => List.mem_append_left _ h) A2.fr, A2.fr a o s.2.2 e⟩
  have r2 : Rep g (Sr g (Ra ++ Rb) S H H2) H2 y dy := A2.rep.mono fun a s => s.aft (fun i h => List.mem_append_right _ h) A1.fr
  unfold oEqT at hm2
  split at hm2
  · cases r1 with
    | tup s1 e1 q1 =>
      cases r2 with
      | tup s2 e2 q2 =>
        refine ⟨g.pa, _, _, _, _, _, _, _, _, rfl, rfl, SqT.of e1, SqT.of e2, q1, q2, hm2.1.1, hm2.1.2, fun H3 ex => ?_⟩
        have sm : Same H2 H3 := fun a o e => ex a o e
        exact fin _ H3 _ (aft_sc (F2.trans (Fr.of sm)) ((A2.pb.same sm).mono (by omega)) (fun _ => .bl _) fun x e => (by cases x <;> cases e)) hm2.2
  · exact hm2.elim
theorem ve_eqT (hp : ∀ {t u : TE}, PE X a t → PE X b u → PE X e (tOp (rEqT X g.C) t u)) (ha : VE g X a ma Ra ca fa) (hb : VE g X b mb Rb cb fb) : VE g X e (m2 oEqT ma mb) [] (ca + cb) false := by
  obtain ⟨t, p, k⟩ := ha
  obtain ⟨u, q, j⟩ := hb
  exact ⟨_, hp p q, eqT_ok k j⟩
theorem vt_eqT (hp : ∀ {t u : TE}, PE X a t → PE X b u → PT X e (tTest (tOp (rEqT X g.C) t u))) (ha : VE g X a ma Ra ca fa) (hb : VE g X b mb Rb cb fb) : VT g X e (mB (m2 oEqT ma mb)) (ca + cb) := by
  obtain ⟨t, p, k⟩ := ha
  obtain ⟨u, q, j⟩ := hb
  refine ⟨_, hp p q, fun σ H env S B Qd Q rl pb hb hm fin => ?_⟩
  refine eqT_ok (X := X) k j σ H env S B _ _ rl pb hb hm fun v H' d A z => ?_
  obtain ⟨b, rfl, hz⟩ := bool_of A.rep z
  exact ⟨b, rfl, fin b H' A.fr A.pb hz⟩
end
end VL
namespace VL
open PySem PySem.Spec PyProof.Rows L2 StX RZ
theorem eqD_dec3 (a b c a' b' c' : Int) : eqD (.tup [.int a, .int b, .int c]) (.tup [.int a', .int b', .int c']) = (decide (a = a') && (decide (b = b') && decide (c = c'))) := by
  rw [eqD_dec (p := a = a' ∧ b = b' ∧ c = c') rfl rfl ⟨fun e => by cases e; exact ⟨rfl, rfl, rfl⟩, fun ⟨e1, e2, e3⟩ => by rw [e1, e2, e3]⟩]
  rw [Bool.decide_and, Bool.decide_and]
/-- a promise that asks for the impossible is kept -/
theorem ok_never {P : Program} {w : World} {K : PySem.W.Frag} {mg : Str → Option Value} {base : Heap} {C : Kl} {k c : Nat} {rk : Bool} {f : Addr} {fd : FuncData} {ps : List Str} : FnOk P w K mg base CX0 k f fd ps (spV C (fun _ _ => False) c rk) :=
  ⟨fun vs H Q E h => by
    obtain ⟨pa, B, ds, U, Qd, r, hU, pb, hB, z, k⟩ := h
    exact z.elim, fun A outer s H args us vs Q E hr e0 bd rv h => by
    obtain ⟨pa, B, ds, U, Qd, r, hU, pb, hB, z, k⟩ := h
    exact z.elim⟩
end VL

set_option Elab.async false
set_option linter.all false
set_option maxRecDepth 100000
set_option maxHeartbeats 4000000
/-! VL, part J: a needle that may be refused. -/
namespace VL
open PySem PySem.Spec PyProof.Rows L2
/-- C(e, ..), whose __init__ may raise -/
def tMakeX (W : WX) (C : Addr) (sp : Sp) (t : TA) : TE := fun σ H Q => t σ H fun vs H1 => ∀ x dx, H1 x = none → H1 dx = none → dx ≠ x →
  sp (.ref x :: vs) (upd (upd H1 dx (.own x)) x (.ins C dx [])) (fun v H2 => v = .non ∧ Q (.ref x) H2) (fun cls d H' => W cls d σ H')
/-- C(k = v, ..), whose __init__ may raise -/
def tMakeXK0 (W : WX) (C : Addr) (m : Nat) (sp : Sp) (gV : List V → List V → List V) (tk : TA) : TE := fun σ H Q => tk σ H fun zs H2 => zs.length = m ∧ ∀ x dx, H2 x = none → H2 dx = none → dx ≠ x →
  sp (gV [.ref x] zs) (upd (upd H2 dx (.own x)) x (.ins C dx [])) (fun v H3 => v = .non ∧ Q (.ref x) H3) (fun cls d H' => W cls d σ H')
section
variable {X : Cx} {W : WX} {k n : Nat} {f C : Addr} {fd : FuncData} {ps ks : List Str} {sp : Sp} {x : Str} {p pos : Pos} {e : Expr} {es : List Expr} {kws : List Keyword} {t u : TA} {gf : List Value → List Value → List Value} {gV : List V → List V → List V}
/-- a new instance, whose __init__ may raise -/
theorem run_makeX {pins : List (Addr × Obj)} {σ : L2.St} {H : Hp} {s : Shared} {Q : VK} {us : List Value} {xs : Addr → List Value} {vx : Addr → List V} {kw : List (Str × Value)} (M : Mk X.K C f) (F : FnOk X.prog X.w X.K X.mg X.base (L2.CX X.prog X.w) k f fd ps sp) (hr : Room (k + 1) X.A)
    (tk : Takes X W) (I : Inv X pins σ H s)
    (h : ∀ x dx, H x = none → H dx = none → dx ≠ x → sp (vx x) (upd (upd H dx (.own x)) x (.ins C dx [])) (fun v H2 => v = .non ∧ Q (.ref x) H2) (fun cls d H' => W cls d σ H')) (rl : ∀ a : Addr, Vals (vx a) (xs a))
    (hbd : ∀ (s2 : Shared) (a : Addr), X.K.In s2.heap → BindsTo s2 fd ⟨Value.ref a :: us, kw⟩ (ps.zip (xs a))) :
    wpAny (model X.prog X.w) X.A (call (.ref C) us kw) (EP X pins σ Q) X.xe s := by
  have hq := h (s.heap.objs.size + 1) s.heap.objs.size (I.hok.fresh (Nat.le_succ _)) (I.hok.fresh (Nat.le_refl _)) (Nat.ne_of_lt (Nat.lt_succ_self _))
  have I2 := Inv.made (C := C) I
  refine wpAny_call (make_map (f := f) I.kIn M.makes M.init (beq_iff_eq.mp M.fn) (codeAny_mono (F.run _ X.stack _ _ ⟨Value.ref (s.heap.objs.size + 1) :: us, kw⟩ (xs (s.heap.objs.size + 1)) _ _ _ (hr.make C us kw)
    (I2.env0.make C us kw) (hbd _ _ I2.kIn) (rl _) hq) fun r s' hq' => ?_))
  match r, hq' with
  | .error e, hq' => exact tk e s' (XE.of_call I2 (fun _ _ _ h => h) hq')
  | .ok (.ret u), hq' =>
    obtain ⟨v, H', I3, rv, ev, q3⟩ := I2.after hq'
    subst ev
    exact ⟨rv, ⟨V.ref (s.heap.objs.size + 1), H', I3, rfl, q3⟩⟩
  | .ok .next, hq' => exact False.elim hq'
  | .ok .brk, hq' => exact False.elim hq'
  | .ok .cont, hq' => exact False.elim hq'
theorem pe_makeX (M : Mk X.K C f) (F : FnOk X.prog X.w X.K X.mg X.base (L2.CX X.prog X.w) k f fd ps sp) (hr : Room (k + 1) X.A) (hg : Gl X x) (hm : X.mg x = some (.ref C)) (hb : Binds X.K fd ps []) (tk : Takes X W)
    (ha : PA X (e :: es) t) (hdb : (x == ("__debug__" : Str)) = false := by decide) (he : starEach (e :: es) X.env = (false, eval e X.env) :: starEach es X.env := by rfl) (hpl : (backTo pos (starEach es X.env)).any (·.1) = false := by rfl) :
    PE X (.Call (.Name x p) (e :: es) [] pos) (tMakeX W C sp t) := by
  refine ⟨fun pins s σ H Q I h => ?_⟩
  refine wpAny_Call_Name_kw (ld_glob I hg hm ?_ hdb)
  refine PySem.W.callWith_K (h₀ := X.base) I.ok.mod.kin M.kp (thn (ha.run pos pins s σ H _ I h) fun us s1 ⟨vs, H1, I1, r, q⟩ => ⟨I1.kIn, ?_⟩) he hpl
  have q1 := q (s1.heap.objs.size + 1) s1.heap.objs.size (I1.hok.fresh (Nat.le_succ _)) (I1.hok.fresh (Nat.le_refl _)) (Nat.ne_of_lt (Nat.lt_succ_self _))
  have hl : us.length + 1 = ps.length := by
    rw [← r.length]
    exact F.len _ _ _ _ q1
  refine run_makeX (xs := fun a => .ref a :: us) (vx := fun a => .ref a :: vs) M F hr tk I1 q (fun a => .cons rfl r) fun s2 a hin => ?_
  have b := hb s2 (.ref a :: us) hin (by simpa using hl)
  rwa [List.append_nil] at b
theorem pe_makeXK0 (M : Mk X.K C f) (F : FnOk X.prog X.w X.K X.mg X.base (L2.CX X.prog X.w) k f fd ps sp) (hr : Room (k + 1) X.A) (hg : Gl X x) (hm : X.mg x = some (.ref C)) (hb : KBn X.K fd ps 1 ks gf gV) (tk : Takes X W) (hkw : PK X kws u)
    (hall : (backToKw pos (keywordEach kws X.env)).all (·.1.isSome) = true := by rfl) (hks : (backToKw pos (keywordEach kws X.env)).filterMap (·.1) = ks := by rfl) (hdb : (x == ("__debug__" : Str)) = false := by decide)
    (hpl : ((backTo pos (starEach [] X.env)).any (·.1) || (backToKw pos (keywordEach kws X.env)).any (·.1.isNone)) = false := by rfl) :
    PE X (.Call (.Name x p) [] kws pos) (tMakeXK0 W C ks.length sp gV u) := by
  refine ⟨fun pins s σ H Q I h => ?_⟩
  refine wpAny_Call_Name_kw (ld_glob I hg hm ?_ hdb)
  refine PySem.W.callWith_KW0 (h₀ := X.base) I.ok.mod.kin M.kp hall ?_ hpl
  refine thn (hkw.run pos pins s σ H _ I h) fun ws s2 ⟨zs, H2, I2, rz, l2, q2⟩ => ⟨I2.kIn, ?_⟩
  rw [hks]
  refine run_makeX (us := []) (xs := fun a => gf [.ref a] ws) (vx := fun a => gV [.ref a] zs) M F hr tk I2 q2 (fun a => hb.rel (.cons rfl .nil) rz) fun s3 a hin => ?_
  exact hb.to _ [.ref a] ws hin rfl (rz.length.symm.trans l2)
end
/-- what __init__ promises: a needle, or the refusal of its three integers -/
def spInitX (C xk : Addr) : Sp := fun vs H Q E => spInit C vs H Q E0 ∨ ∃ (x dx : Addr) (s p m : Int), vs = [.ref x, .int s, .int p, .int m] ∧ H x = some (.ins C dx []) ∧ ¬ (1 ≤ s ∧ s ≤ p ∧ 0 ≤ m ∧ m < p) ∧
  ∀ t d H', (∀ b o, H b = some o → H' b = some o) → H t = none → H d = none → H' t = some (.tup [.int s, .int p, .int m]) → H' d = some (.xd [("value", .ref t)]) → E (.ref xk) (some d) H'
def oNdlX : List D → (D → Prop) → Prop
  | [.int s, .int p, .int m], Q => ((1 ≤ s ∧ s ≤ p ∧ 0 ≤ m ∧ m < p ∧ p < 10 ^ 60) ∧ Q (.ndl s p m)) ∨ (¬ (1 ≤ s ∧ s ≤ p ∧ 0 ≤ m ∧ m < p) ∧ Q (.exo 1 (.tup [.int s, .int p, .int m]) []))
  | _, _ => False
section
variable {g : Gm} {W : WX} {X : Cx} {e : Expr} {es : List Expr} {kws : List Keyword} {ml mk : MA} {R : List Nat} {c ca cb n m : Nat}
theorem makeX_use {S : SS} {H H1 : Hp} {B : Nat} {vs : List V} {ds : List D} {Qd : D → Prop} {Q : VK} {E : XK} (A : AftL g R S H H1 B ca vs ds) (hm : oNdlX ds Qd) (k : ∀ v H' d, Aft g false R S H H' B ca v d → Qd d → Q v H')
    (kx : ∀ k v en cls d H', Fr g H H' → PB g (B + ca) H' → Exf g H (fun a => ∃ i, i ∈ R ∧ S i a) H' k v cls d → Qd (.exo k v en) → E cls d H') (x dx : Addr) (hx : H1 x = none) (hdx : H1 dx = none) (ne : dx ≠ x) :
    spInitX g.C.nd (g.C.xc 1) (.ref x :: vs) (upd (upd H1 dx (.own x)) x (.ins g.C.nd dx [])) (fun v H2 => v = .non ∧ Q (.ref x) H2) E := by
  unfold oNdlX at hm
  split at hm
  · rename_i s p m
    rcases hm with hm | ⟨nv, hm⟩
    · exact .inl (make_use A hm k x dx hx hdx ne)
    · have r := A.rep
      cases r with
      | cons r1 r =>
        cases r1
        cases r with
        | cons r2 r =>
          cases r2
          cases r with
          | cons r3 r =>
            cases r3
            cases r
            refine .inr ⟨x, dx, s, p, m, rfl, upd_same, nv, fun t d H' ke ht hd e1 e2 => ?_⟩
            have up : ∀ b, upd (upd H1 dx (.own x)) x (.ins g.C.nd dx []) b = none → H1 b = none := fun b hb => by
              by_cases q : b = x
              · rw [q, upd_same] at hb
                cases hb
              · rw [upd_ne q] at hb
                by_cases q2 : b = dx
                · rw [q2, upd_same] at hb
                  cases hb
                · rw [upd_ne q2] at hb
                  exact hb
            have sm : Same H1 H' := fun b o eb => by
              have nx := ne_of_none eb hx
              refine ke b o ?_
              rw [upd_ne nx, upd_ne (ne_of_none eb hdx)]
              exact eb
            have F := A.fr.trans (Fr.of sm)
            have some_ne : ∀ {b : Addr} {o : HO}, H' b = some o → H' b ≠ none := fun e q => by
              rw [e] at q
              cases q
            have nt := A.pb.not (up t ht)
            have nd := A.pb.not (up d hd)
            exact kx 1 _ [] _ _ H' F (A.pb.same sm) ⟨d, .ref t, rfl, rfl, e2, A.fr.back nd (up d hd), nd, .tup ⟨.inl (A.fr.back nt (up t ht)), some_ne e1, nt⟩ e1 (.cons (.int _) (.cons (.int _) (.cons (.int _) .nil)))⟩ hm
  · exact hm.elim
theorem vx_make (hp : ∀ {t : TA}, PA X es t → PE X e (tMakeX W g.C.nd (spInitX g.C.nd (g.C.xc 1)) t)) (ha : VA g X es ml R ca) : VX g X W e (mCall oNdlX ml) R ca false := by
  obtain ⟨t, p, k⟩ := ha
  exact ⟨_, hp p, fun σ H env S B Qd Q rl pb hb hm q qx => k σ H env S B _ _ rl pb hb hm fun vs H1 ds A z => fun x dx hx hdx ne => makeX_use A z q qx x dx hx hdx ne⟩
def mMakeXK (m : Nat) (ρ : List Nat) (mk : MA) : ME := fun env Q => mk env fun es => es.length = m ∧ oNdlX (pick .non ρ es) Q
theorem vx_makeK0 {ρ : List Nat} (hp : ∀ {u : TA}, PK X kws u → PE X e (tMakeXK0 W g.C.nd m (spInitX g.C.nd (g.C.xc 1)) (fun vs zs => pick .non (0 :: ρ.map (· + 1)) (vs ++ zs)) u)) (hk : VKw g X kws mk R ca) : VX g X W e (mMakeXK m ρ mk) R ca false := by
  obtain ⟨t, p, k⟩ := hk
  refine ⟨_, hp p, fun σ H env S B Qd Q rl pb hb hm q qx => k σ H env S B _ _ rl pb hb hm fun zs H1 es A z => ⟨by rw [A.rep.length]; exact z.1, fun x dx hx hdx ne => ?_⟩⟩
  show spInitX g.C.nd (g.C.xc 1) (pick V.non (0 :: ρ.map (· + 1)) (V.ref x :: zs)) _ _ _
  rw [pick_head]
  exact makeX_use ⟨A.fr, A.pb, pick_rep A.rep ρ⟩ z.2 q qx x dx hx hdx ne
end
end VL

set_option Elab.async false
set_option linter.all false
set_option maxRecDepth 100000
set_option maxHeartbeats 4000000
/-! VL, part AA: texts. -/
namespace VL
open PySem PySem.Spec PyProof.Rows L2
theorem line16 {n : Nat} (h : n ≤ 16000000) : n ≤ sizeLine := Nat.le_trans h (by rw [sizeLine_eq]; decide)
def isS : D → (Str → Prop) → Prop
  | .str x, Q => Q x
  | _, _ => False
section
variable {g : Gm} {f fa fb : Bool} {X : Cx} {a b e : Expr} {es : List Expr} {ma mb m : ME} {R Ra Rb : List Nat} {c ca cb cc : Nat} {pos : Pos}
theorem isS_of {S : Addr → Prop} {H : Hp} {v : V} {d : D} {Q : Str → Prop} (r : Rep g S H v d) (h : isS d Q) : ∃ x, v = .str x ∧ d = .str x ∧ Q x := by
  cases d <;> first | exact h.elim | skip
  cases r
  exact ⟨_, rfl, rfl, h⟩
/-! ### slices -/
def mSlS (m : ME) (ml mh : MO) : ME := fun env Q => m env fun x => ml env fun lo => mh env fun hi => isS x fun z => z.length ≤ 16000000 ∧ Q (.str (cutS z lo hi))
theorem ve_sliceS {lo hi : Option Expr} {p2 : Pos} {ml mh : MO} (h : VE g X e m R ca f) (hl : VO g X lo ml cb) (hh : VO g X hi mh cc) : VE g X (.Subscript e (.Slice lo hi none p2) pos) (mSlS m ml mh) [] (ca + cb + cc) fa := by
  obtain ⟨t, p, k⟩ := h
  obtain ⟨t1, p1, k1⟩ := hl
  obtain ⟨t2, p2, k2⟩ := hh
  refine ⟨_, pe_slice sl_str p p1 p2, fun σ H env S B Qd Q rl pb hb hm q => ?_⟩
  refine k σ H env S B _ _ rl pb (by omega) hm fun x H1 dx A1 hm1 => ?_
  refine k1 σ H1 env S (B + ca) _ _ (rl.fr A1.fr) A1.pb (by omega) hm1 fun lo H2 fr2 pb2 hm2 => ?_
  refine k2 σ H2 env S (B + ca + cb) _ _ ((rl.fr A1.fr).fr fr2) pb2 (by omega) hm2 fun hi H3 fr3 pb3 hm3 => ?_
  obtain ⟨z, rfl, rfl, hz, q'⟩ := isS_of A1.rep hm3
  exact ⟨z, rfl, line16 hz, q _ H3 _ (aft_sc ((A1.fr.trans fr2).trans fr3) (pb3.mono (by omega)) (fun _ => .str _) fun x e => (by cases x <;> cases e)) q'⟩
/-! ### methods of texts -/
def mS1 (o : Str → (D → Prop) → Prop) (ma : ME) : ME := fun env Q => ma env fun x => isS x fun a => o a Q
def mS2 (o : Str → D → (D → Prop) → Prop) (ma mb : ME) : ME := fun env Q => ma env fun x => isS x fun a => mb env fun y => o a y Q
def SimS0 (g : Gm) (f : Bool) (r : V → List V → Hp → VK → Prop) (o : Str → (D → Prop) → Prop) : Prop := ∀ (S : Addr → Prop) (H : Hp) (B : Nat) (a : Str) (Qd : D → Prop) (Q : VK), (∀ x, S x → H x ≠ none ∧ some x ≠ g.pa) → PB g B H →
  o a Qd → (∀ v H' d, Same H H' → Rep g (Res g S H H') H' v d → (f = true → Fsh g (Res g S H H') H H' v d) → Qd d → Q v H') → r (.str a) [] H Q
def SimS (g : Gm) (f : Bool) (r : V → List V → Hp → VK → Prop) (o : Str → D → (D → Prop) → Prop) : Prop := ∀ (S : Addr → Prop) (H : Hp) (B : Nat) (a : Str) (y : V) (dy : D) (Qd : D → Prop) (Q : VK), (∀ x, S x → H x ≠ none ∧ some x ≠ g.pa) → PB g B H → Rep g S H y dy →
  o a dy Qd → (∀ v H' d, Same H H' → Rep g (Res g S H H') H' v d → (f = true → Fsh g (Res g S H H') H H' v d) → Qd d → Q v H') → r (.str a) [y] H Q
theorem ve_sm0 {r : V → List V → Hp → VK → Prop} {o : Str → (D → Prop) → Prop} (hp : ∀ {t : TE}, PE X a t → PE X e (tM0 r t)) (hs : SimS0 g f r o) (ha : VE g X a ma Ra ca fa) : VE g X e (mS1 o ma) [] ca f := by
  obtain ⟨ta, pa, ka⟩ := ha
  refine ⟨_, hp pa, fun σ H env S B Qd Q rl pb hb hm k => ?_⟩
  refine ka σ H env S B _ _ rl pb hb hm fun x H1 dx A1 hm1 => ?_
  obtain ⟨z, rfl, rfl, hm1⟩ := isS_of A1.rep hm1
  refine ⟨⟨z, rfl⟩, hs (Sr g [] S H H1) H1 (B + ca) z Qd Q (fun a s => s.2) A1.pb hm1 fun v H3 d sm rp fs q => ?_⟩
  have up : ∀ a, Res g (Sr g [] S H H1) H1 H3 a → Sr g [] S H H3 a := fun a s => ⟨s.1.elim (fun n => .inl (A1.fr.back s.2.2 n)) fun s1 => s1.1, s.2⟩
  exact k v H3 d ⟨A1.fr.trans (Fr.of sm), A1.pb.same sm, rp.mono up, fun z => fsh_up (fun a n e => A1.fr.back n e) A1.pb up (fs z)⟩ q
theorem ve_sm1 {r : V → List V → Hp → VK → Prop} {o : Str → D → (D → Prop) → Prop} (hp : ∀ {t u : TE}, PE X a t → PE X b u → PE X e (tM1 r t u)) (hs : SimS g f r o) (ha : VE g X a ma Ra ca fa) (hb : VE g X b mb Rb cb fb) : VE g X e (mS2 o ma mb) Rb (ca + cb) f := by
  obtain ⟨ta, pa, ka⟩ := ha
  obtain ⟨tb, pb, kb⟩ := hb
  refine ⟨_, hp pa pb, fun σ H env S B Qd Q rl pb hb hm k => ?_⟩
  refine ka σ H env S B _ _ rl pb (by omega) hm fun x H1 dx A1 hm1 => ?_
  obtain ⟨z, rfl, rfl, hm1⟩ := isS_of A1.rep hm1
  refine ⟨⟨z, rfl⟩, kb σ H1 env S (B + ca) _ _ (rl.fr A1.fr) A1.pb (by omega) hm1 fun y H2 dy A2 hm2 => ?_⟩
  have F2 := A1.fr.trans A2.fr
  refine hs (Sr g Rb S H H2) H2 (B + ca + cb) z y dy Qd Q (fun a s => s.2) A2.pb ?_ hm2 fun v H3 d sm rp fs q => ?_
  · exact A2.rep.mono fun a s => s.aft (fun i h => h) A1.fr
  · have F3 := F2.trans (Fr.of sm)
    have up : ∀ a, Res g (Sr g Rb S H H2) H2 H3 a → Sr g Rb S H H3 a := fun a s => ⟨s.1.elim (fun n => .inl (F2.back s.2.2 n)) fun s1 => s1.1, s.2⟩
    exact k v H3 d ⟨F3, (A2.pb.same sm).mono (by omega), rp.mono up, fun z => fsh_up (fun a n e => F2.back n e) A2.pb up (fs z)⟩ q
theorem repL_strs {S : Addr → Prop} {H : Hp} : ∀ ys : List Str, RepL g S H (ys.map V.str) (ys.map D.str)
  | [] => .nil
  | y :: ys => .cons (.str y) (repL_strs ys)
/-- s.split(sep) -/
def oSplit : Str → D → (D → Prop) → Prop
  | a, .str b, Q => ((b.length == 0) = false ∧ a.length ≤ 16000000) ∧ Q (.lst ((Txt.split a b).map D.str))
  | _, _, _ => False
theorem sim_split : SimS g true (fun x xs H Q => ∃ a b, x = .str a ∧ xs = [.str b] ∧ (b.length == 0) = false ∧ a.length + 2 ≤ sizeLine ∧ rNewStrs (Txt.split a b) H Q) oSplit := by
  intro S H B a y dy Qd Q hd pb ry hm k
  cases dy <;> first | exact hm.elim | skip
  cases ry
  refine ⟨a, _, rfl, rfl, hm.1.1, by have := hm.1.2; rw [sizeLine_eq]; omega, fun p hp => ?_⟩
  exact give_lst pb hd hp (repL_strs _) k hm.2
/-- s.partition(sep) -/
def oPart : Str → D → (D → Prop) → Prop
  | a, .str b, Q => ((b.length == 0) = false ∧ a.length ≤ 16000000) ∧ Q (.tup [.str (Txt.partition a b).1, .str (Txt.partition a b).2.1, .str (Txt.partition a b).2.2])
  | _, _, _ => False
theorem sim_part : SimS g f (fun x xs H Q => ∃ a b, x = .str a ∧ xs = [.str b] ∧ (b.length == 0) = false ∧ a.length ≤ sizeLine ∧ ∀ p, H p = none → Q (.ref p) (upd H p (.tup [.str (Txt.partition a b).1, .str (Txt.partition a b).2.1, .str (Txt.partition a b).2.2]))) oPart := by
  intro S H B a y dy Qd Q hd pb ry hm k
  cases dy <;> first | exact hm.elim | skip
  cases ry
  refine ⟨a, _, rfl, rfl, hm.1.1, line16 hm.1.2, fun p hp => ?_⟩
  exact give_tup pb hd hp (.cons (.str _) (.cons (.str _) (.cons (.str _) .nil))) k hm.2
def strsOf : List D → Option (List Str)
  | [] => some []
  | .str x :: r => (strsOf r).map (x :: ·)
  | _ => none
theorem strs_of {S : Addr → Prop} {H : Hp} : ∀ {ds : List D} {vs : List V} {ys : List Str}, RepL g S H vs ds → strsOf ds = some ys → vs = ys.map V.str
  | [], _, ns, h, e => by
    cases h
    cases e
    rfl
  | d :: r, _, ns, h, e => by
    cases h with
    | cons a b =>
      cases d <;> first | (cases e; done) | skip
      unfold strsOf at e
      cases q : strsOf r with
      | none => rw [q] at e; cases e
      | some ms =>
        rw [q] at e
        cases e
        cases a
        rw [strs_of b q]
        rfl
theorem strsOf_map : ∀ ys : List Str, strsOf (ys.map D.str) = some ys
  | [] => rfl
  | y :: r => by
    show (strsOf (r.map D.str)).map (y :: ·) = _
    rw [strsOf_map r]
    rfl
/-- sep.join(list of texts) -/
def oJoin : Str → D → (D → Prop) → Prop
  | a, .lst ds, Q => match strsOf ds with
    | some ys => (ys.map (·.length)).sum + ys.length * a.length ≤ 16000000 ∧ Q (.str (Txt.join a ys))
    | none => False
  | _, _, _ => False
theorem sim_join {K : PySem.W.Frag} : SimS g f (fun x xs H Q => ∃ a p, ∃ ys : List Str, x = .str a ∧ xs = [.ref p] ∧ (SqL K H p (ys.map V.str) ∨ SqT K H p (ys.map V.str)) ∧ (ys.map (·.length)).sum + ys.length * a.length ≤ 16777216 ∧ Q (.str (Txt.join a ys)) H) oJoin := by
  intro S H B a y dy Qd Q hd pb ry hm k
  cases dy <;> first | exact hm.elim | skip
  rename_i ds
  have hm : (match strsOf ds with
    | some ys => (ys.map (·.length)).sum + ys.length * a.length ≤ 16000000 ∧ Qd (.str (Txt.join a ys))
    | none => False) := hm
  split at hm
  · rename_i ys e
    cases ry with
    | lst s e1 r1 =>
      have z := strs_of r1 e
      subst z
      exact ⟨a, _, ys, rfl, rfl, .inl (SqL.of e1), by have := hm.1; omega, k _ H _ (Same.refl H) (.str _) (fun _ x e => (by cases x <;> cases e)) hm.2⟩
  · exact hm.elim
def oStarts : Str → D → (D → Prop) → Prop
  | a, .str b, Q => Q (.bl (Txt.startswith a b))
  | _, _, _ => False
theorem sim_starts : SimS g f (fun x xs H Q => ∃ a b, x = .str a ∧ xs = [.str b] ∧ Q (.bl (Txt.startswith a b)) H) oStarts := by
  intro S H B a y dy Qd Q hd pb ry hm k
  cases dy <;> first | exact hm.elim | skip
  cases ry
  exact ⟨a, _, rfl, rfl, k _ H _ (Same.refl H) (.bl _) (fun _ x e => (by cases x <;> cases e)) hm⟩
def oUpper (a : Str) (Q : D → Prop) : Prop := a.length ≤ 5000000 ∧ Q (.str (Txt.upper a))
theorem sim_upper : SimS0 g f (fun x xs H Q => ∃ a, x = .str a ∧ xs = [] ∧ a.length ≤ 5592405 ∧ Q (.str (Txt.upper a)) H) oUpper := by
  intro S H B a Qd Q hd pb hm k
  exact ⟨a, rfl, rfl, by have := hm.1; omega, k _ H _ (Same.refl H) (.str _) (fun _ x e => (by cases x <;> cases e)) hm.2⟩
def oIsdig (a : Str) (Q : D → Prop) : Prop := Q (.bl (Txt.isdigit a))
theorem sim_isdig : SimS0 g f (fun x xs H Q => ∃ a, x = .str a ∧ xs = [] ∧ True ∧ Q (.bl (Txt.isdigit a)) H) oIsdig := by
  intro S H B a Qd Q hd pb hm k
  exact ⟨a, rfl, rfl, trivial, k _ H _ (Same.refl H) (.bl _) (fun _ x e => (by cases x <;> cases e)) hm⟩
/-! ### x in text, text == text, text * n, int(text) -/
def inS (i j : Str) : Bool := !(Builtin.Str.occurrences j i 0 j.length 1).isEmpty
def oInS (neg : Bool) : D → D → (D → Prop) → Prop
  | .str i, .str j, Q => Q (.bl (if neg then !inS i j else inS i j))
  | _, _, _ => False
theorem sim_inS : Sim2 g f (fun x y H Q => ∃ i j, x = .str i ∧ y = .str j ∧ Q (.bl (!(Builtin.Str.occurrences j i 0 j.length 1).isEmpty)) H) (oInS false) := sim_i fun H x y dx dy S Qd Q rx ry hm k => by
  unfold oInS at hm
  split at hm
  · cases rx; cases ry
    exact ⟨_, _, rfl, rfl, k _ _ (fun _ => .bl _) hm fun x e => (by cases x <;> cases e)⟩
  · exact hm.elim
theorem sim_notInS : Sim2 g f (fun x y H Q => ∃ i j, x = .str i ∧ y = .str j ∧ Q (.bl (!(!(Builtin.Str.occurrences j i 0 j.length 1).isEmpty))) H) (oInS true) := sim_i fun H x y dx dy S Qd Q rx ry hm k => by
  unfold oInS at hm
  split at hm
  · cases rx; cases ry
    exact ⟨_, _, rfl, rfl, k _ _ (fun _ => .bl _) hm fun x e => (by cases x <;> cases e)⟩
  · exact hm.elim
def oEqS (neg : Bool) : D → D → (D → Prop) → Prop
  | .str i, .str j, Q => Q (.bl (if neg then !decide (i = j) else decide (i = j)))
  | _, _, _ => False
theorem decS (i j : Str) : decide (V.str i = V.str j) = decide (i = j) := by
  by_cases c : i = j
  · rw [c, decide_eq_true rfl, decide_eq_true rfl]
  · rw [decide_eq_false c, decide_eq_false fun e => c (by cases e; rfl)]
theorem sim_eqS : Sim2 g f rEq (oEqS false) := sim_i fun H x y dx dy S Qd Q rx ry hm k => by
  unfold oEqS at hm
  split at hm
  · cases rx; cases ry
    refine ⟨rfl, ?_⟩
    rw [decS]
    exact k _ _ (fun _ => .bl _) hm fun x e => (by cases x <;> cases e)
  · exact hm.elim
theorem sim_neS : Sim2 g f rNe (oEqS true) := sim_i fun H x y dx dy S Qd Q rx ry hm k => by
  unfold oEqS at hm
  split at hm
  · cases rx; cases ry
    refine ⟨rfl, ?_⟩
    rw [decS]
    exact k _ _ (fun _ => .bl _) hm fun x e => (by cases x <;> cases e)
  · exact hm.elim
def rMulT : R2 := fun x y H Q => ∃ z k, x = .str z ∧ y = .int k ∧ MulOk z k ∧ Q (.str (Txt.mul z k)) H
theorem op_mulT {X : Cx} : OpR X (binaryOp .Mult) rMulT := by
  intro pins s σ H x y v u Q I rx ry h
  obtain ⟨z, k, rfl, rfl, ok, q⟩ := h
  obtain ⟨t, rfl⟩ := rx
  obtain ⟨t', rfl⟩ := ry
  exact PySem.SB.mul ok fun t2 tk => ⟨.str (Txt.mul z k), H, I.tok _, ⟨_, rfl⟩, q⟩
def oMulT : D → D → (D → Prop) → Prop
  | .str z, .int k, Q => MulOk z k ∧ Q (.str (Txt.mul z k))
  | _, _, _ => False
theorem sim_mulT : Sim2 g f rMulT oMulT := sim_i fun H x y dx dy S Qd Q rx ry hm k => by
  unfold oMulT at hm
  split at hm
  · cases rx; cases ry
    exact ⟨_, _, rfl, rfl, hm.1, k _ _ (fun _ => .str _) hm.2 fun x e => (by cases x <;> cases e)⟩
  · exact hm.elim
def oIntS : List D → (D → Prop) → Prop
  | [.str a], Q => match PySem.intText? a with
    | some n => a.length ≤ 640 ∧ Q (.int n)
    | none => False
  | _, _ => False
theorem sim_intS : SimA g f (fun xs H Q => ∃ a n, xs = [.str a] ∧ PySem.intText? a = some n ∧ a.length ≤ 640 ∧ Q (.int n) H) oIntS := simA_i fun H xs ds S Qd Q r hm k => by
  unfold oIntS at hm
  split at hm
  · split at hm
    · rename_i n e
      obtain ⟨v, rfl, h⟩ := repL1 r
      cases h
      exact ⟨_, n, rfl, e, hm.1, k _ _ (fun _ => .int _) hm.2 fun x e => (by cases x <;> cases e)⟩
    · exact hm.elim
  · exact hm.elim
/-! ### a text is walked -/
def signsD (x : Str) : List D := x.cps.toList.map fun c => D.str ⟨#[c]⟩
def mItS (ma : ME) : MA := fun env Q => ma env fun d => isS d fun x => Q (signsD x)
theorem src_str {x : Str} : SrcOk g (Its x) [] (signsD x) := by
  intro U H B hU pb hg i
  have hl : (signsD x).length = x.cps.size := by simp [signsD]
  refine ⟨fun d hd => ?_, fun h => by rw [hl] at h; exact h⟩
  have hi : i < x.cps.size := by
    have z := (List.getElem?_eq_some_iff.mp hd).1
    omega
  unfold signsD at hd
  rw [List.getElem?_map, Array.getElem?_toList, Array.getElem?_eq_getElem hi] at hd
  cases hd
  refine ⟨hi, fun v H' y => ?_⟩
  obtain ⟨rfl, c, e, rfl⟩ := y
  rw [Array.getElem?_eq_getElem hi] at e
  cases e
  exact ⟨Same.refl H', .str _⟩
theorem vi_str {tg : Expr} (h : VE g X e ma R c f) : VI g X tg e (mItS ma) [] c := by
  obtain ⟨t, p, k⟩ := h
  refine ⟨_, pi_str p, fun σ H env S B Qd Rr rl pb hb hm q => k σ H env S B _ _ rl pb hb hm fun v H1 d A z => ?_⟩
  obtain ⟨x, rfl, rfl, z⟩ := isS_of A.rep z
  exact ⟨x, rfl, q _ H1 [] _ A.fr A.pb (fun p hp => by cases hp) src_str z⟩
/-! ### f'..' -/
abbrev MJ := Env → Str → (Str → Prop) → Prop
def VJ (g : Gm) (X : Cx) (es : List Expr) (m : MJ) (c : Nat) : Prop := ∃ ts, PJ X es ts ∧ ∀ (acc : Str) (σ : L2.St) (H : Hp) (env : Env) (S : SS) (B : Nat) (Qd : Str → Prop) (Q : Str → Hp → Prop),
  Rl g σ H env S → PB g B H → B + c ≤ Bmax → m env acc Qd → (∀ out H', Fr g H H' → PB g (B + c) H' → Qd out → Q out H') → tJs ts acc σ H Q
def mJnil : MJ := fun _ acc Q => Q acc
def fmtD : D → (Str → Prop) → Prop
  | .str y, Q => y.length ≤ 16000000 ∧ Q y
  | .int i, Q => i.natAbs < 10 ^ 200 ∧ Q (toString i)
  | _, _ => False
def mJfmt (me : ME) (mr : MJ) : MJ := fun env acc Q => me env fun d => fmtD d fun y => (acc ++ y).length ≤ 16000000 ∧ mr env (acc ++ y) Q
def mJstr (y : Str) (mr : MJ) : MJ := fun env acc Q => (acc ++ y).length ≤ 16000000 ∧ mr env (acc ++ y) Q
theorem vj_nil : VJ g X [] mJnil 0 := ⟨[], .nil, fun acc σ H env S B Qd Q rl pb hb hm k => k acc H Fr.refl pb hm⟩
theorem vj_str {y : Str} {j} {mr : MJ} (hr : VJ g X es mr c) : VJ g X (.Constant (.str y) j pos :: es) (mJstr y mr) c := by
  obtain ⟨ts, p, k⟩ := hr
  exact ⟨_, .cons pe_str p, fun acc σ H env S B Qd Q rl pb hb hm q => ⟨y, rfl, line16 hm.1, k _ σ H env S B Qd Q rl pb hb hm.2 q⟩⟩
theorem vj_fmt {mr : MJ} (h : VE g X e ma R ca f) (hr : VJ g X es mr c) : VJ g X (.FormattedValue e (-1) none pos :: es) (mJfmt ma mr) (ca + c) := by
  obtain ⟨t, p, k⟩ := h
  obtain ⟨ts, ps, ks⟩ := hr
  refine ⟨_, .cons (pe_fmt p) ps, fun acc σ H env S B Qd Q rl pb hb hm q => ?_⟩
  refine k σ H env S B _ _ rl pb (by omega) hm fun v H1 d A z => ?_
  have fin : ∀ y : Str, ((acc ++ y).length ≤ 16000000 ∧ mr env (acc ++ y) Qd) → ∃ y' : Str, V.str y = .str y' ∧ (acc ++ y').length ≤ sizeLine ∧ tJs ts (acc ++ y') σ H1 Q := fun y z =>
    ⟨y, rfl, line16 z.1, ks _ σ H1 env S (B + ca) Qd Q (rl.fr A.fr) A.pb (by omega) z.2 fun out H2 fr pb2 w => q out H2 (A.fr.trans fr) (pb2.mono (by omega)) w⟩
  have r := A.rep
  cases d <;> first | exact z.elim | skip
  · cases r
    exact .inr ⟨_, rfl, (int_sm z.1).1, fin _ z.2⟩
  · cases r
    exact .inl ⟨_, rfl, line16 z.1, fin _ z.2⟩
def mFs (mj : MJ) : ME := fun env Q => mj env Str.empty fun out => Q (.str out)
theorem ve_fs {v1 v2 : Expr} {rest : List Expr} {mj : MJ} (h : VJ g X (v1 :: v2 :: rest) mj c) : VE g X (.JoinedStr (v1 :: v2 :: rest) pos) (mFs mj) [] c f := by
  obtain ⟨ts, p, k⟩ := h
  refine ⟨_, pe_joined p, fun σ H env S B Qd Q rl pb hb hm q => ?_⟩
  exact k Str.empty σ H env S B _ _ rl pb hb hm fun out H1 fr pb1 z => q _ H1 _ (aft_sc fr pb1 (fun _ => .str _) fun x e => (by cases x <;> cases e)) z
/-! ### text or text -/
def mOrS (ma mb : ME) : ME := fun env Q => ma env fun d => isS d fun y => y.length ≤ 16000000 ∧ if y.length = 0 then mb env Q else Q (.str y)
theorem ve_orS {rest : List Expr} (h : VE g X a ma Ra ca fa) (h' : VE g X (.BoolOp .Or (b :: rest) pos) mb Rb cb fb) : VE g X (.BoolOp .Or (a :: b :: rest) pos) (mOrS ma mb) Rb (ca + cb) false := by
  obtain ⟨t, p, k⟩ := h
  obtain ⟨t', p', k'⟩ := h'
  refine ⟨_, pe_orT p p', fun σ H env S B Qd Q rl pb hb hm q => ?_⟩
  refine k σ H env S B _ _ rl pb (by omega) hm fun v H1 d A z => ?_
  obtain ⟨y, rfl, rfl, hz, z⟩ := isS_of A.rep z
  refine ⟨_, ⟨line16 hz, rfl⟩, ?_⟩
  by_cases c0 : y.length = 0
  · rw [if_pos c0] at z
    rw [c0, if_neg (by decide)]
    exact k' σ H1 env S (B + ca) _ _ (rl.fr A.fr) A.pb (by omega) z fun v H2 d A2 z2 => q v H2 d ⟨A.fr.trans A2.fr, A2.pb.mono (by omega), A2.rep.mono fun a s => s.aft (fun i h => h) A.fr, fun q => nomatch q⟩ z2
  · rw [if_neg c0] at z
    rw [if_pos (by simp; omega)]
    exact q _ H1 _ (aft_sc A.fr (A.pb.mono (by omega)) (fun _ => .str _) fun x e => (by cases x <;> cases e)) z
end
end VL

set_option Elab.async false
set_option linter.all false
set_option maxRecDepth 100000
set_option maxHeartbeats 4000000
/-! VL, part AB: e.replace(old, new, 1) of written texts; a body that begins with a token out. -/
namespace PySem
open Builtin Builtin.Str
namespace Txt
def replace1 (x y z : Str) : Str :=
  if ((occurrences x y 0 x.length 1).isEmpty || (y.length == 0 && z.length == 0)) = true then x
  else glued z (partsBetween x (occurrences x y 0 x.length 1) y.length)
theorem replace1_len (x y z : Str) : (Txt.replace1 x y z).length ≤ x.length + z.length := by
  unfold Txt.replace1
  split
  · omega
  · have h1 := StrLaws.occ_length_le x y 0 x.length 1
    have hy : (glued y (partsBetween x (occurrences x y 0 x.length 1) y.length)).length = x.length := by rw [StrLaws.glued_between_self]
    rw [size_glued, length_partsBetween, Nat.add_sub_cancel] at hy
    rw [size_glued, length_partsBetween, Nat.add_sub_cancel]
    have h2 : (occurrences x y 0 x.length 1).length * z.length ≤ 1 * z.length := Nat.mul_le_mul_right _ h1
    omega
end Txt
theorem gives_str_replace1 (x y z : Str) (t u v w : Tok)
    (hf : ((occurrences x y 0 x.length 1).isEmpty || (y.length == 0 && z.length == 0)) = false →
      (u == 0 || v == 0) = false ∧ (u == v) = false ∧ (y == z) = false ∧ tooLong (x.length + (occurrences x y 0 x.length 1).length * z.length) = false) :
    Gives («str.replace» ⟨[.str x t, .str y u, .str z v, .int 1 w], []⟩) (if ((occurrences x y 0 x.length 1).isEmpty || (y.length == 0 && z.length == 0)) = true then .val (.str x t) else .str (glued z (partsBetween x (occurrences x y 0 x.length 1) y.length))) := by
  show Gives (if ((occurrences x y 0 x.length 1).isEmpty || (y.length == 0 && z.length == 0)) = true then (do rule "str.replace.nothing"; ret (.str x t)) else
          (do let same ← isSame (.str y u) (.str z v)
              if same = true then (do rule "str.replace.old-is-new"; ret (.str x t)) else
              if tooLong (x.length + (occurrences x y 0 x.length 1).length * z.length) = true then unsupported "str.replace:memory" else
              retStr (glued z (partsBetween x (occurrences x y 0 x.length 1) y.length)))) _
  cases hc : ((occurrences x y 0 x.length 1).isEmpty || (y.length == 0 && z.length == 0))
  · obtain ⟨h0, huv, hyz, hl⟩ := hf hc
    rw [isSame_str_other y z u v h0 huv hyz, hl]
    exact .of_eq rfl
  · exact .rule (.of_eq rfl)
namespace SC
section
variable {prog : Program} {w : World} {A : Around} {E : Value → Shared → Prop} {s : Shared} {x y z : Str} {t u v c : Tok} {Q : Value → Shared → Prop}
theorem replace1 (hu : u ≠ 0) (hv : v ≠ 0) (huv : u ≠ v) (hyz : (y == z) = false) (hb : x.length + z.length ≤ 16777216)
    (hq : ∀ t' k, Q (.str (Txt.replace1 x y z) t') { s with toks := k }) : wpAny (model prog w) A (call (.builtin "str.replace") [.str x t, .str y u, .str z v, .int 1 c]) Q E s := by
  have hl : tooLong (x.length + (occurrences x y 0 x.length 1).length * z.length) = false := by
    have e : (2 : Nat) ^ 24 = 16777216 := by decide
    have h1 := StrLaws.occ_length_le x y 0 x.length 1
    have h2 : (occurrences x y 0 x.length 1).length * z.length ≤ 1 * z.length := Nat.mul_le_mul_right _ h1
    unfold tooLong sizeLine
    exact decide_eq_false (by omega)
  refine call_gives F.slot_str_replace (typeIs_str _ _ _) F.entry_str_replace (F.args_str_replace_4 _ _ _ _)
    (gives_str_replace1 x y z t u v c fun _ => ⟨by simp [hu, hv], by simp [huv], hyz, hl⟩) ?_
  have hq' := hq
  have hz := Txt.replace1_len x y z
  unfold Txt.replace1 at hq' hz
  cases hc : ((occurrences x y 0 x.length 1).isEmpty || (y.length == 0 && z.length == 0))
  · rw [hc] at hq' hz
    simp only [Bool.false_eq_true, if_false] at hq' hz ⊢
    exact ⟨by rw [sizeLine_eq]; omega, hq' _ _⟩
  · rw [hc] at hq'
    simp only [if_true] at hq' ⊢
    exact hq' t s.toks
end
end SC
end PySem
namespace VL
open PySem PySem.Spec PyProof.Rows L2
def tRepl1 (to : TE) (y z : Str) : TE := fun σ H Q => to σ H fun v H1 => ∃ x, v = .str x ∧ x.length + z.length ≤ 16777216 ∧ Q (.str (Txt.replace1 x y z)) H1
section
variable {g : Gm} {rk f fa fb : Bool} {xw : Option WX} {X : Cx} {a b e o : Expr} {es : List Expr} {ma mb m : ME} {R Ra Rb : List Nat} {c ca cb cc : Nat} {y z : Str} {j k l : Nat} {c0 c1 c2 apos pos p p' : Pos} {to : TE}
theorem pet_repl1 (ho : PE X o to) (hyz : (y == z) = false := by decide)
    (hst : starEach [.Constant (.str y) j c0, .Constant (.str z) k c1, .Constant (.int 1) l c2] X.env = [(false, eval (.Constant (.str y) j c0) X.env), (false, eval (.Constant (.str z) k c1) X.env), (false, eval (.Constant (.int 1) l c2) X.env)] := by rfl)
    (hbase : attributeBase o "replace" X.env (eval o X.env) = eval o X.env := by rfl) (hline : (apos.endLine == pos.line) = true := by rfl) :
    PET X (.Call (.Attribute o "replace" apos) [.Constant (.str y) j c0, .Constant (.str z) k c1, .Constant (.int 1) l c2] [] pos) (tRepl1 to y z) := by
  intro pins s σ H Q h0 I h
  refine PySem.wpAny_Call_method_lateS hbase (by rw [hst]; rfl) hline ?_
  rw [hst]
  refine wpAny_mono (PySem.wpAny_toks (ho.run pins s σ H _ I h)) (fun v s1 q => ?_) fun _ _ z => z.2
  obtain ⟨hk, v', H1, I1, r1, x, e1, hb, q⟩ := q
  subst e1
  obtain ⟨tx, e2⟩ := r1
  subst e2
  refine ⟨"str", _, PySem.F.plainAttrs_str, PySem.F.slot_str_replace, PySem.F.type_str_replace, typeIs_str _ _ _, (fun _ e => nomatch e), Calls.callWith_builtin rfl (Calls.evalArgs_plain (Calls.spliced_cons ?_))⟩
  show wpAny _ _ (eval (.Constant (.str y) j c0) X.env) _ _ _
  refine Calls.Constant_str (pos := c0) (k := j) ?_
  refine Calls.spliced_cons ?_
  show wpAny _ _ (eval (.Constant (.str z) k c1) X.env) _ _ _
  refine Calls.Constant_str (pos := c1) (k := k) ?_
  refine Calls.spliced_cons ?_
  show wpAny _ _ (eval (.Constant (.int 1) l c2) X.env) _ _ _
  refine wpAny_Constant_int (pos := c2) (k := l) ?_
  refine Calls.spliced_nil ?_
  exact PySem.SC.replace1 (by show s1.toks ≠ 0; omega) (by show s1.toks + 1 ≠ 0; omega) (by show s1.toks ≠ s1.toks + 1; omega) hyz hb fun t' k => ⟨.str (Txt.replace1 x y z), H1, I1.tok k, ⟨t', rfl⟩, q⟩
/-! ### where a token is out -/
theorem pet_bm {T : String} {name : Str} {id : String} {cpos : Pos} {r : V → List V → Hp → VK → Prop} {t : TA} (pa : PlainAttrs T) (slot : Slot T name id) (hty : typeOf (.builtin id) = pure (.type "method_descriptor")) (hm : MtR X id r) (ho : PE X o to) (ha : PAT X (e :: es) t)
    (hbase : attributeBase o name X.env (eval o X.env) = eval o X.env := by rfl)
    (hfew : ((backTo cpos (starEach (e :: es) X.env)).all (fun x => !x.1) && (backToKw cpos (keywordEach [] X.env)).all (fun x => x.1.isSome)
      && decide ((e :: es).length + ([] : List Keyword).length + (if ([] : List Keyword).isEmpty then 0 else 1) < 30)) = true := by rfl)
    (hline : (apos.endLine == cpos.line) = true := by rfl) (hs : starEach (e :: es) X.env = (false, eval e X.env) :: starEach es X.env := by rfl) (hplain : (backTo cpos (starEach es X.env)).any (·.1) = false := by rfl) :
    PET X (.Call (.Attribute o name apos) (e :: es) [] cpos) (tBM X.K T r to t) := by
  intro pins s σ H Q h0 I h
  refine wpAny_Call_method_late hbase hfew hline rfl (wpAny_mono (PySem.wpAny_toks (ho.run pins s σ H _ I h)) (fun v s1 q => ?_) fun _ _ z => z.2)
  obtain ⟨hk, x, H1, I1, r1, ty, q1⟩ := q
  obtain ⟨h1, h2⟩ := tyV_is I1 r1 ty
  refine ⟨T, id, pa, slot, hty, h1, h2, ?_⟩
  have hA := ha cpos pins s1 σ H1 _ (Nat.le_trans h0 hk) I1 q1
  rw [hs] at hA ⊢
  refine Calls.callWith_builtin (by show (false || (backTo cpos (starEach es X.env)).any (·.1)) = false; rw [hplain] <;> rfl) (Calls.evalArgs_plain ?_)
  exact thn hA fun us s2 ⟨xs, H2, I2, r2, q2⟩ => hm pins s2 σ H2 x xs v us Q I2 r1 r2 q2
theorem pst_expr {te : TE} (he : PET X e te) (hs : swapsWith e none pos.line X.env = pure false := by rfl) : PST X (.Expr e pos) (tDrop te) := by
  intro pins s σ H D h0 I h
  exact wpAny_Expr_any (thn (he pins s σ H _ h0 I h) fun v s1 ⟨x, H1, I1, r1, q1⟩ => ⟨σ, H1, I1, q1⟩) I.quiet hs
theorem PSsT.nox {st : List Stmt} {t : TS} (h : PSsT X.nox st t) : PSsT X st t := fun pins s σ H D h0 I hw =>
  wpAny_mono (h pins s σ H D h0 (I.wish _) hw) (fun _ _ q => q.unwish) fun _ _ z => False.elim z
def VET (g : Gm) (X : Cx) (e : Expr) (m : ME) (R : List Nat) (c : Nat) (f : Bool) : Prop := ∃ t, PET X e t ∧ ∀ (σ : L2.St) (H : Hp) (env : Env) (S : SS) (B : Nat) (Qd : D → Prop) (Q : VK),
  Rl g σ H env S → PB g B H → B + c ≤ Bmax → m env Qd → (∀ v H' d, Aft g f R S H H' B c v d → Qd d → Q v H') → t σ H Q
def VAT (g : Gm) (X : Cx) (es : List Expr) (m : MA) (R : List Nat) (c : Nat) : Prop := ∃ t, PAT X es t ∧ ∀ (σ : L2.St) (H : Hp) (env : Env) (S : SS) (B : Nat) (Qd : List D → Prop) (Q : List V → Hp → Prop),
  Rl g σ H env S → PB g B H → B + c ≤ Bmax → m env Qd → (∀ vs H' ds, AftL g R S H H' B c vs ds → Qd ds → Q vs H') → t σ H Q
theorem vet_of (h : VE g X e m R c f) : VET g X e m R c f := by
  obtain ⟨t, p, k⟩ := h
  exact ⟨t, PET.of p, k⟩
where PET.of {X : Cx} {e : Expr} {te : TE} (h : PE X e te) : PET X e te := fun pins s σ H Q _ I q => h.run pins s σ H Q I q
def mRepl1 (y z : Str) (m : ME) : ME := fun env Q => m env fun d => isS d fun x => x.length + z.length ≤ 16000000 ∧ Q (.str (Txt.replace1 x y z))
theorem vet_repl (hp : ∀ {t : TE}, PE X o t → PET X e (tRepl1 t y z)) (h : VE g X o m R c fa) : VET g X e (mRepl1 y z m) [] c f := by
  obtain ⟨t, p, k⟩ := h
  refine ⟨_, hp p, fun σ H env S B Qd Q rl pb hb hm q => k σ H env S B _ _ rl pb hb hm fun v H1 d A w => ?_⟩
  obtain ⟨x, rfl, rfl, hz, w⟩ := isS_of A.rep w
  exact ⟨x, rfl, by omega, q _ H1 _ (aft_sc A.fr A.pb (fun _ => .str _) fun x e => (by cases x <;> cases e)) w⟩
theorem vat_nil : VAT g X [] mNil [] 0 := ⟨_, pat_nil, fun σ H env S B Qd Q rl pb hb hm k => k [] H [] ⟨Fr.refl, pb, .nil⟩ hm⟩
theorem vat_cons {mr : MA} (ha : VET g X e ma Ra ca fa) (hr : VAT g X es mr Rb cb) (hs : starEach (e :: es) X.env = (false, eval e X.env) :: starEach es X.env := by rfl) : VAT g X (e :: es) (mCons ma mr) (Ra ++ Rb) (ca + cb) := by
  obtain ⟨ta, pa, ka⟩ := ha
  obtain ⟨tb, pb, kb⟩ := hr
  refine ⟨_, pat_cons pa pb hs, fun σ H env S B Qd Q rl pb hb hm k => ?_⟩
  refine ka σ H env S B _ _ rl pb (by omega) hm fun x H1 dx A1 hm1 => ?_
  refine kb σ H1 env S (B + ca) _ _ (rl.fr A1.fr) A1.pb (by omega) hm1 fun ys H2 dys A2 hm2 => ?_
  refine k (x :: ys) H2 (dx :: dys) ⟨A1.fr.trans A2.fr, A2.pb.mono (by omega), .cons ?_ ?_⟩ hm2
  · exact A1.rep.goN fun a o s e => ⟨s.fwd (fun i h => List.mem_append_left _ h) A2.fr, A2.fr a o s.2.2 e⟩
  · exact A2.rep.mono fun a s => s.aft (fun i h => List.mem_append_right _ h) A1.fr
theorem vet_lst {ma : MA} (h : VAT g X es ma Ra ca) : VET g X (.List es pos) (mCall oLst ma) Ra ca true := by
  obtain ⟨ta, pa, ka⟩ := h
  exact ⟨_, pet_lst pa, args_ok sim_lst ka⟩
def VST (g : Gm) (rk : Bool) (xw : Option WX) (ol : List Nat) (X : Cx) (st : Stmt) (m : MS) (own own' : List Nat) (c : Nat) : Prop := ∃ t, PST X st t ∧ ∀ (H0 : Hp) (A0 : Addr → Prop) (gs : Gh) (σ : L2.St) (H : Hp) (env : Env) (S : SS) (B : Nat) (M : MEnds) (D' : Ends),
  Rs g H0 A0 own gs σ H env S → PB g B H → B + c ≤ Bmax → m M env → Br g rk xw ol H0 A0 gs own' (B + c) M D' → t D' σ H
def VBT (g : Gm) (rk : Bool) (xw : Option WX) (ol : List Nat) (X : Cx) (st : List Stmt) (m : MS) (own own' : List Nat) (c : Nat) : Prop := ∃ t, PSsT X st t ∧ ∀ (H0 : Hp) (A0 : Addr → Prop) (gs : Gh) (σ : L2.St) (H : Hp) (env : Env) (S : SS) (B : Nat) (M : MEnds) (D' : Ends),
  Rs g H0 A0 own gs σ H env S → PB g B H → B + c ≤ Bmax → m M env → Br g rk xw ol H0 A0 gs own' (B + c) M D' → t D' σ H
end
section
variable {g : Gm} {rk f fa fb : Bool} {xw : Option WX} {X : Cx} {e a b : Expr} {ma mb : ME} {R Ra Rb : List Nat} {c c1 c2 ca cb : Nat} {own own1 own2 own' ol : List Nat} {st st2 : Stmt} {rest : List Stmt} {m m1 m2 : MS} {pos : Pos}
theorem vst_of (h : VS g rk xw ol X st m own own' c) : VST g rk xw ol X st m own own' c := by
  obtain ⟨t, p, k⟩ := h
  exact ⟨t, PST.of p, k⟩
theorem vbt_of {sts : List Stmt} (h : VB g rk xw ol X sts m own own' c) : VBT g rk xw ol X sts m own own' c := by
  obtain ⟨t, p, k⟩ := h
  exact ⟨t, PSsT.of p, k⟩
theorem pst_ifT {c : Expr} {a b : List Stmt} {tc : TT} {t u : TS} (hc : PT X c tc) (ha : PSsT X a t) (hb : PSsT X b u) : PST X (.If c a b pos) (tIfS tc t u) := CwR.pst_if hc ha hb
theorem vbt_one (h : VST g rk xw ol X st m own own' c) : VBT g rk xw ol X [st] m own own' c := by
  obtain ⟨t, p, k⟩ := h
  exact ⟨_, CwR.psst_one p, fun H0 A0 gs σ H env S B M D' r pb hb hm br => k H0 A0 gs σ H env S B _ _ r pb hb hm ⟨fun σ H env S r p q => br.nx σ H env S r p q, br.rt, br.bk, br.ct, br.ex⟩⟩
theorem vbt_cons (h : VST g rk xw ol X st m1 own own1 c1) (h' : VBT g rk xw ol X rest m2 own1 own2 c2) : VBT g rk xw ol X (st :: rest) (mSeq m1 m2) own own2 (c1 + c2) := by
  obtain ⟨t, p, k⟩ := h
  obtain ⟨t', p', k'⟩ := h'
  refine ⟨_, psst_cons p p', fun H0 A0 gs σ H env S B M D' r pb hb hm br => ?_⟩
  refine k H0 A0 gs σ H env S B _ _ r pb (by omega) hm ⟨fun σ1 H1 env1 S1 r1 p1 q1 => ?_, fun v H d r p q => br.rt v H d r (p.mono (by omega)) q, fun _ _ _ _ r p q => br.bk _ _ _ _ r (p.mono (by omega)) q, fun _ _ _ _ r p q => br.ct _ _ _ _ r (p.mono (by omega)) q, fun W e _ _ _ _ _ _ _ _ r p x q => br.ex W e _ _ _ _ _ _ _ _ r (p.mono (by omega)) x q⟩
  exact k' H0 A0 gs σ1 H1 env1 S1 (B + c1) M D' r1 p1 (by omega) q1 ⟨fun _ _ _ _ r p q => br.nx _ _ _ _ r (p.mono (by omega)) q, fun _ _ _ r p q => br.rt _ _ _ r (p.mono (by omega)) q, fun _ _ _ _ r p q => br.bk _ _ _ _ r (p.mono (by omega)) q, fun _ _ _ _ r p q => br.ct _ _ _ _ r (p.mono (by omega)) q, fun W e _ _ _ _ _ _ _ _ r p x q => br.ex W e _ _ _ _ _ _ _ _ r (p.mono (by omega)) x q⟩
theorem vst_if {mt : MT} {b1 b2 : List Stmt} (ht : VT g X e mt c) (h1 : VBT g rk xw ol X b1 m1 own own' c1) (h2 : VBT g rk xw ol X b2 m2 own own' c2) : VST g rk xw ol X (.If e b1 b2 pos) (mIfS mt m1 m2) own own' (c + (c1 + c2)) := by
  obtain ⟨t, p, k⟩ := ht
  obtain ⟨t1, p1, k1⟩ := h1
  obtain ⟨t2, p2, k2⟩ := h2
  refine ⟨_, pst_ifT p p1 p2, fun H0 A0 gs σ H env S B M D' r pb hb hm br => ?_⟩
  refine k σ H env S B _ _ r.rl pb (by omega) hm fun b H1 fr pb1 z => ?_
  cases b with
  | true => exact k1 H0 A0 gs σ H1 env S (B + c) M D' (r.go fr) pb1 (by omega) z ⟨fun _ _ _ _ r p q => br.nx _ _ _ _ r (p.mono (by omega)) q, fun _ _ _ r p q => br.rt _ _ _ r (p.mono (by omega)) q, fun _ _ _ _ r p q => br.bk _ _ _ _ r (p.mono (by omega)) q, fun _ _ _ _ r p q => br.ct _ _ _ _ r (p.mono (by omega)) q, fun W e _ _ _ _ _ _ _ _ r p x q => br.ex W e _ _ _ _ _ _ _ _ r (p.mono (by omega)) x q⟩
  | false => exact k2 H0 A0 gs σ H1 env S (B + c) M D' (r.go fr) pb1 (by omega) z ⟨fun _ _ _ _ r p q => br.nx _ _ _ _ r (p.mono (by omega)) q, fun _ _ _ r p q => br.rt _ _ _ r (p.mono (by omega)) q, fun _ _ _ _ r p q => br.bk _ _ _ _ r (p.mono (by omega)) q, fun _ _ _ _ r p q => br.ct _ _ _ _ r (p.mono (by omega)) q, fun W e _ _ _ _ _ _ _ _ r p x q => br.ex W e _ _ _ _ _ _ _ _ r (p.mono (by omega)) x q⟩
theorem vst_ext (sc : Bool) {k : Nat} {call : Expr} (h : VET g X e ma R c f) (hk : k ∈ own) (ok : okIn sc own R = true)
    (hp : ∀ {t : TE}, PET X e t → PST X (.Expr call pos) (tDrop (tBM X.K "list" rExtend (tVar k) (tCons t tNil)))) : VST g rk xw ol X (.Expr call pos) (mExt sc k ma) own own c := by
  obtain ⟨t, p, q⟩ := h
  refine ⟨_, hp p, fun H0 A0 gs σ H env S B M D' r pb hb hm br => ?_⟩
  obtain ⟨xs, he, hm⟩ := isL_of hm
  obtain ⟨ys, l, vs, T, h1, h2, h3, h4, h5, h6⟩ := r.ow k hk _ he rfl
  obtain rfl := kx_lst h1
  refine ⟨.ref l, h2, .inl ⟨rfl, _, .inl (.inl h3)⟩, ?_⟩
  refine q σ H env S B _ _ r.rl pb hb hm fun v H1 d A z => ?_
  obtain ⟨zs, e1, z⟩ := isL_of z
  cases e1
  have ex : ∃ U : Addr → Prop, (∃ b us, v = .ref b ∧ H1 b = some (.lst us) ∧ RepL g U H1 us zs) ∧ (∀ a, U a → (H1 a ≠ none ∧ some a ≠ g.pa) ∧ (H0 a = none ∨ A0 a)) ∧ ∀ j, j ∈ own → ∀ l, σ[j]? = some (some (.ref l)) → (∃ e, env[j]? = some (some e)) → ¬ U l := by
    have rp := A.rep
    cases sc with
    | true =>
      cases rp with
      | lst s e r0 => exact ⟨fun _ => False, ⟨_, _, rfl, e, scDs_rep r0 (z.1 rfl)⟩, fun a s => s.elim, fun _ _ _ _ _ s => s⟩
    | false =>
      obtain ⟨U, rp, hU, hn⟩ := in_set r A ok (fun q => nomatch q)
      cases rp with
      | lst s e r0 => exact ⟨U, ⟨_, _, rfl, e, r0⟩, hU, hn⟩
  obtain ⟨U, ⟨b, us, rfl, eb, ru⟩, hU, hn⟩ := ex
  obtain ⟨l', vs', g1, g2, T', g3, g4⟩ := (r.go A.fr).mutate hk he hU hn
  rw [h2] at g1
  cases g1
  refine ⟨l, b, vs', us, rfl, rfl, g2, eb, by rw [g3.length, ru.length]; exact line_of z.2.1, ?_⟩
  have fin := g4 (vs' ++ us) (xs ++ zs) ((g3.mono fun a t => .inl t).append (ru.mono fun a u => .inr u))
  exact br.nx _ _ _ _ fin.2.2 (fin.2.1 _ A.pb) z.2.2
end
/-! ### a def whose body begins with a token out -/
theorem vbt_fin {g : Gm} {rk : Bool} {xw : Option WX} {ol : List Nat} {X : Cx} {st : List Stmt} {m : MS} {own own1 : List Nat} {c c1 : Nat} (h : VBT g rk xw ol X st m own own1 c1) (hc : c1 ≤ c) : VBT g rk xw ol X st m own [] c := by
  obtain ⟨t, p, k⟩ := h
  exact ⟨t, p, fun H0 A0 gs σ H env S B M D' r pb hb hm br => k H0 A0 gs σ H env S B M D' r pb (by omega) hm ⟨fun _ _ _ _ r p q => br.nx _ _ _ _ (r.less (fun _ z => (by cases z)) fun _ z => z) (p.mono (by omega)) q, fun _ _ _ r p q => br.rt _ _ _ r (p.mono (by omega)) q, fun _ _ _ _ r p q => br.bk _ _ _ _ r (p.mono (by omega)) q, fun _ _ _ _ r p q => br.ct _ _ _ _ r (p.mono (by omega)) q, fun W e _ _ _ _ _ _ _ _ r p x q => br.ex W e _ _ _ _ _ _ _ _ r (p.mono (by omega)) x q⟩⟩
theorem body_okT {C : Kl} {N : List Str} {st : Stmt} {kN n c : Nat} {rk : Bool} {m : MS} {own' : List Nat} {X : Cx} {vs : List V} {H : Hp} {Q : VK} {E : XK} (hN : N.length = kN)
    (hb : ∀ pa, VBT ⟨C, pa⟩ rk none [] X (defBody st) m [] own' c) (h : spV C (runM kN n m) c rk vs H Q E) : ∃ t, PSsT X (defBody st) t ∧ t { nx := fun _ H' => Q .non H', rt := Q } (L2.start N vs) H := by
  obtain ⟨pa, B, ds, U, Qd, r, hU, pb, hB, ⟨hl, hm⟩, k⟩ := h
  obtain ⟨t, p, q⟩ := hb pa
  refine ⟨t, p, q H U [] (L2.start N vs) H (startE kN ds) (fun _ => U) B _ _ (start_rs hN r hU) pb hB hm ⟨fun σ' H' env' S' r' p' z => ?_, fun v H' d r' p' z => k d v H' z r' p', fun _ _ _ _ _ _ z => z.elim, fun _ _ _ _ _ _ z => z.elim, fun _ e => nomatch e⟩⟩
  exact k .non .non H' z ⟨r'.fr, .non, fun _ xs e => (by cases xs <;> cases e)⟩ p'
theorem fn_vT {P : Program} {w : World} {K : PySem.W.Frag} {mg : Str → Option Value} {base : Heap} {x qual : Str} {st : Stmt} {C : Kl} {f : Addr} {fd : FuncData} {N ps : List Str} {k kN n c : Nat} {rk : Bool} {m : MS} {own' : List Nat}
    (F : Fun K x qual st f fd) (S : FnScope N ps (defScope st)) (hnc : ∀ y ∈ (defScope st).names, y.2 ≠ .cell) (hps : 1 ≤ ps.length) (hN : N.length = kN) (hp : ps.length = n)
    (hb : ∀ pa (cdv : Value) (A : Around) (outer : List PySem.Env) (s : Shared) (H : Hp) (E : XK), Room k (A.deeper (envOfC qual (defScope st) s.heap.objs.size f cdv)) → VBT ⟨C, pa⟩ rk none [] (cxOf CX0 P w K mg base N qual (defScope st) f cdv A outer s H E).nox (defBody st) m [] own' c) :
    FnOk P w K mg base CX0 (k + 1) f fd ps (spV C (runM kN n m) c rk) := by
  obtain ⟨oc, od, kV, doc, pm, an, cdv, ct, osl, rfl, lk, hcd⟩ := F.ex
  refine fn_ofT lk hcd S hnc hps (fun vs H Q E h => by rw [hp]; exact spV_len h) fun A outer s H vs Q E hr hsp => ?_
  obtain ⟨t, h, q⟩ := body_okT hN (fun pa => hb pa cdv A outer s H E hr) hsp
  exact ⟨t, PSsT.nox h, q⟩
end VL

set_option Elab.async false
set_option linter.all false
set_option maxRecDepth 100000
set_option maxHeartbeats 4000000
/-! VL, part AC: [e], e may raise. -/
namespace VL
open PySem PySem.Spec PyProof.Rows L2
def lstX (Q : D → Prop) : D → Prop := fun d => match d with
  | .exo k v en => Q (.exo k v en)
  | d => Q (.lst [d])
theorem lstX_real {g : Gm} {S : Addr → Prop} {H : Hp} {v : V} {d : D} {Q : D → Prop} (r : Rep g S H v d) (h : lstX Q d) : Q (.lst [d]) := by
  cases r <;> exact h
def mLst1 (m : ME) : ME := fun env Q => m env (lstX Q)
theorem vx_lst1 {g : Gm} {W : WX} {X : Cx} {e : Expr} {m : ME} {R : List Nat} {c : Nat} {f : Bool} {pos : Pos} (h : VX g X W e m R c f) (hs : starEach [e] X.env = [(false, eval e X.env)] := by rfl) : VX g X W (.List [e] pos) (mLst1 m) R c true := by
  obtain ⟨t, p, k⟩ := h
  refine ⟨_, pe_lst (pa_cons p pa_nil hs), fun σ H env S B Qd Q rl pb hb hm q qx => k σ H env S B _ _ rl pb hb hm (fun v H1 d A z => ?_) (fun k v en cls d H' fr pb x z => qx k v en cls d H' fr pb x z)⟩
  refine sim_lst (g := g) (Sr g R S H H1) H1 (B + c) [v] [d] Qd Q (fun a s => s.2) A.pb (.cons A.rep .nil) ⟨len_le rfl, lstX_real A.rep z⟩ fun v H3 d sm rp fs q' => ?_
  have up : ∀ a, Res g (Sr g R S H H1) H1 H3 a → Sr g R S H H3 a := fun a s => ⟨s.1.elim (fun n => .inl (A.fr.back s.2.2 n)) fun s1 => s1.1, s.2⟩
  exact q v H3 d ⟨A.fr.trans (Fr.of sm), A.pb.same sm, rp.mono up, fun z => fsh_up (fun a n e => A.fr.back n e) A.pb up (fs z)⟩ q'
end VL

set_option Elab.async false
set_option linter.all false
set_option maxRecDepth 100000
set_option maxHeartbeats 4000000
/-! VL, part AD: a list != [], whatever it holds. -/
namespace PySem.SeqAt
open AutoSeq1 (wpAny_loadPart')
open MeetsSeq MeetsSeq2 MeetsSeq3 SeqRoads2
section
variable {prog : Program} {w : World}
theorem ne_lens (l b : Addr) (items items2 : Array Value) (n n2 : Nat) (dd dd2 : Option Addr) (sl sl2 : Array (Option Value)) (hsz : items.size ≠ items2.size) :
    MeetsIn prog w (Builtin.«list.__ne__» ⟨[.ref l, .ref b], []⟩)
      (fun A R s => s.heap.get? l = some { cls := .type "list", dict := dd, data := .seq items n, slots := sl } ∧ s.heap.get? b = some { cls := .type "list", dict := dd2, data := .seq items2 n2, slots := sl2 } ∧
        R (.ok (.ret (.bool true))) s) := by
  intro A R s h
  obtain ⟨hp, g, d, tk, os⟩ := s; obtain ⟨hl, hb, h⟩ := h
  have f3 := AutoSeq1.sub_list_list
  have hne : (items.size != items2.size) = true := by simp [hsz]
  wp_walk using wpAny_loadPart' hl, wpAny_loadPart' hb
  exact h
theorem rcNe_lens {A : Around} {s : Shared} {l b : Addr} {items items2 : Array Value} (hl : s.heap.IsList l items) (hb : s.heap.IsList b items2) (hsz : items.size ≠ items2.size) (hu : A.units < cLine)
    (E Q : Value → Shared → Prop) (h : Q (.bool true) s) : wpAny (model prog w) A (richCompare .NotEq (.ref l) (.ref b)) Q E s := by
  obtain ⟨⟨cls, dd, data, sl⟩, ho, hc, n, hd⟩ := id hl
  obtain ⟨⟨cls2, dd2, data2, sl2⟩, ho2, hc2, n2, hd2⟩ := id hb
  simp only at hc hd hc2 hd2
  subst hc hd hc2 hd2
  have ta : s.TypeIs (.ref l) "list" := ⟨_, ho, rfl⟩
  have tb : s.TypeIs (.ref b) "list" := ⟨_, ho2, rfl⟩
  exact wpAny_richCompare_same_room (op := .NotEq) ta tb F.slot_list_ne (call_meetsIn F.slot_list_ne ta F.entry_list_ne (F.args_list_ne_2 _ _) (ne_lens l b items items2 n n2 dd dd2 sl sl2 hsz)
    ⟨ho, ho2, show Value.bool true ≠ Value.notImplemented ∧ Q (.bool true) s from ⟨(fun x => nomatch x), h⟩⟩) hu
end
end PySem.SeqAt
namespace VL
open PySem PySem.Spec PyProof.Rows L2
def rNeL0 (K : PySem.W.Frag) : R2 := fun x y H Q => ∃ (a b : Addr) (vs : List V), x = .ref a ∧ y = .ref b ∧ SqL K H a vs ∧ SqL K H b [] ∧ vs ≠ [] ∧ Q (.bl true) H
theorem op_neL0 {X : Cx} {k : Nat} (hr : Room k X.A) : OpR X (compareOp .NotEq) (rNeL0 X.K) := by
  intro pins s σ H x y v u Q I rx ry hq
  obtain ⟨a, b, vs, rfl, rfl, hqx, hqy, hne, q⟩ := hq
  cases rx
  cases ry
  obtain ⟨its, rv, p1, _⟩ := I.list hqx
  obtain ⟨its2, rv2, p2, _⟩ := I.list hqy
  have z1 : its.toArray.size = vs.length := by rw [List.size_toArray, ← rv.length]
  have z2 : its2.toArray.size = 0 := by rw [List.size_toArray, ← rv2.length]; rfl
  show wpAny (model X.prog X.w) X.A (richCompare .NotEq (.ref a) (.ref b)) (EP X pins σ Q) X.xe s
  refine PySem.SeqAt.rcNe_lens p1.isList p2.isList (by rw [z1, z2]; intro e; exact hne (List.length_eq_zero_iff.mp e)) (by have z := hr.un; omega) _ _ ⟨.bl true, H, I, rfl, q⟩
def oNeL0 : D → D → (D → Prop) → Prop
  | .lst xs, .lst [], Q => Q (.bl (!xs.isEmpty))
  | _, _, _ => False
theorem sim_neL0 {g : Gm} {f : Bool} {K : PySem.W.Frag} : Sim2 g f (fun x y H Q => rNeL0 K x y H Q ∨ rNeD K x y H Q) oNeL0 := sim_i fun H x y dx dy S Qd Q rx ry hm k => by
  cases dx <;> first | exact hm.elim | skip
  rename_i xs
  cases dy <;> first | exact hm.elim | skip
  rename_i ys
  cases ys with
  | cons _ _ => exact hm.elim
  | nil =>
    have hm : Qd (.bl (!xs.isEmpty)) := hm
    cases xs with
    | nil => exact .inr ⟨_, _, dp_of (n := 60) rx rfl, dp_of (n := 60) ry rfl, rfl, rfl, k _ _ (fun _ => .bl _) hm fun x e => (by cases x <;> cases e)⟩
    | cons d ds =>
      cases rx with
      | lst s1 e1 r1 =>
        cases ry with
        | lst s2 e2 r2 =>
          cases r2
          refine .inl ⟨_, _, _, rfl, rfl, SqL.of e1, SqL.of e2, (fun e => ?_), k _ _ (fun _ => .bl _) hm fun x e => (by cases x <;> cases e)⟩
          have l := r1.length
          rw [e] at l
          cases l
end VL

set_option Elab.async false
set_option linter.all false
set_option maxRecDepth 100000
set_option maxHeartbeats 4000000
/-! VL, part AI: errors whose context is None, made in a try; raise X(..) from e in the suite of an except .. as e. -/
namespace VX
open PySem PySem.W PySem.Calls PyProof.Rows PySem.HandSPX
structure Made2 (h h' : Heap) (e C d : Addr) (v : Value) : Prop where
  keep : ∀ b o, h.get? b = some o → h'.get? b = some o
  new : h.objs.size ≤ e
  obj : ∃ t1, h'.get? e = some { cls := .ref C, dict := some d, data := .fields #[.ref t1, .none, .none, .none, .bool false, .none] }
  dbig : h.objs.size ≤ d
  dne : d ≠ e
  ns : h'.Ns1 d (fun y => if y = "value" then some v else none)
section
variable {prog : Program} {w : World} {A : Around} {E : Value → Shared → Prop} {R : Result → Shared → Prop} {s : Shared} {K : Frag} {mg mb : Str → Option Value} {C D fI : Addr} {st : Stmt}
theorem own_made2 (T : SupTxt K prog mg st D fI) (TC : XcTxt K C D fI) {v : Value} (X : K.In s.heap) (hlim : s.heap.NoLimit) (hg : s.heap.Ns mainGlobals mg) (hbn : s.heap.Ns builtinsNs mb) (hmb : mb "super" = some (.type "super")) (hroom : A.depth + 1 < recursionLimit)
    (hq : ∀ h' tk e d, Made2 s.heap h' e C d v → R (.ok (.ret (.ref e))) { s with heap := h', toks := tk }) :
    codeAny (model prog w) A (.call (.ref C) ⟨[v], []⟩) R s := by
  obtain ⟨nm, q, N, bs, bm, sn, sub, ab, col, dd, k0, k1, k2, k3, k5, hC, hbm⟩ := TC.cls
  obtain ⟨hp, g, dr, tk, os⟩ := s
  have k : ∀ b o, hp.get? b = some o → ((hp.push (kdv_tup [v])).push (excO C hp.objs.size)).get? b = some o := fun b o e => Heap.get?_push_of_some _ (Heap.get?_push_of_some _ e)
  have hget : ((hp.push (kdv_tup [v])).push (excO C hp.objs.size)).get? (hp.objs.size + 1) = some (excO C hp.objs.size) := by heap_get
  have hnx : K.lookup (hp.objs.size + 1) = none := by
    cases e : K.lookup (hp.objs.size + 1) with
    | none => rfl
    | some o =>
      have z : hp.get? (hp.objs.size + 1) = some o := X _ _ e
      exact absurd (Nat.lt_of_succ_lt (Heap.lt_size z)) (Nat.lt_irrefl _)
  refine call_own F.excBase_ValueError (fun X => refsVE_contains X bm hbm) (X _ _ hC) (looks_findIn X TC.iC) (fun self => bind_fn X self T.tI) (one_size v) ?_
  refine own_init (s := ⟨(hp.push (kdv_tup [v])).push (excO C hp.objs.size), g, dr, tk, os⟩) T TC (X.keeps k) (hlim.keeps k) (hg.keeps k) (hbn.keeps k) hmb hget hnx ?_ fun h' tk' dx t1 ⟨k', hx, dn, dne, hns⟩ => ?_
  · show A.depth + 1 < recursionLimit
    exact hroom
  · have old : ∀ b o, hp.get? b = some o → h'.get? b = some o := fun b o e => k' b o (Nat.ne_of_lt (Nat.lt_succ_of_lt (Heap.lt_size e))) (k b o e)
    have z : hp.objs.size + 1 + 1 ≤ dx := by
      first
        | (simpa only [Heap.size_push] using dn)
        | exact dn
        | (have q := dn; rw [Heap.size_push, Heap.size_push] at q; exact q)
    exact ⟨rfl, hq h' tk' (hp.objs.size + 1) dx ⟨old, Nat.le_succ _, ⟨t1, hx⟩, Nat.le_trans (Nat.le_trans (Nat.le_succ _) (Nat.le_succ _)) z, dne, hns⟩⟩
end
end VX
namespace VL
open PySem PySem.Spec PyProof.Rows L2
section
variable {X : Cx} {C D fI : Addr} {st : Stmt} {mg : Str → Option Value}
theorem pmkN_val {a : Expr} {x : Str} {ta : TE} {p pos : Pos} {k : Nat} (T : VX.SupTxt X.K X.prog X.mg st D fI) (TC : VX.XcTxt X.K C D fI) (hm : X.mg x = some (.ref C)) (hr : Room k X.A) (hg : Gl X x) (hdb : (x == ("__debug__" : Str)) = false) (ha : PE X a ta)
    (he : starEach (a :: []) X.env = (false, eval a X.env) :: starEach [] X.env) (hpl : (backTo pos (starEach [] X.env)).any (·.1) = false) :
    L2N.PMk X (.Call (.Name x p) [a] [] pos) (tMkX C ta) := by
  intro pins s σ H Q I h
  refine wpAny_Call_Name_kw (ld_glob I hg hm ?_ hdb)
  refine PySem.W.callWith_K (h₀ := X.base) I.ok.mod.kin TC.kC ?_ he hpl
  rw [he]
  show wpAny _ _ (spliced ((false, eval a X.env) :: backTo pos (starEach [] X.env))) _ _ s
  refine Calls.spliced_cons (thn (ha.run pins s σ H _ I h) fun u s1 ⟨v, H1, I1, r1, q1⟩ => ?_)
  refine Calls.spliced_nil ⟨I1.kIn, ?_⟩
  show wpAny _ _ (call (.ref C) [u]) _ _ _
  have hlim := I1.nolimit
  obtain ⟨mb, hb1, hb2⟩ := I1.ok.mod.blt
  have hmb : mb "super" = some (.type "super") := (hb2 _ (by decide +kernel)).trans (by first | rfl | kernel_rfl)
  have hgl := I1.ok.mod.glob.keeps I1.bk
  have hbl := hb1.keeps I1.bk
  have hin := I1.kIn
  obtain ⟨hp, g, dr, tk, os⟩ := s1
  refine wpAny_call (VX.own_made2 T TC hin hlim hgl hbl hmb (by have := hr.dp; omega) fun h' tk' e d M => ?_)
  show L2N.MkP X pins σ Q (.ref e) ⟨h', g, dr, tk', os⟩
  obtain ⟨t1, hoe⟩ := M.obj
  have hns := M.ns
  obtain ⟨G', g1, g2⟩ := restrict h' fun b => decide (b ≠ e)
  have gk : ∀ b, b ≠ e → G'.get? b = h'.get? b := fun b hb => g1 b (decide_eq_true hb)
  have ge : G'.get? e = none := g2 e (by simp)
  have old : ∀ b o, hp.get? b = some o → G'.get? b = some o := fun b o q => (gk b (Nat.ne_of_lt (Nat.lt_of_lt_of_le (Heap.lt_size q) M.new))).trans (M.keep b o q)
  have ob : ObjOk X.prog X.w (upd H1 d (.xd [(("value" : Str), v)])) G' d (.xd [(("value" : Str), v)]) :=
    ⟨_, hns.at (fun o q => (gk d M.dne).trans q), fun f => relO_val r1 f⟩
  have J : Inv X pins σ (upd H1 d (.xd [(("value" : Str), v)])) ⟨G', g, dr, tk', os⟩ := I1.laid (t' := tk') old M.dbig ob
  refine ⟨e, _, _, ⟨G', g, dr, tk', os⟩, _, .ref C, some d, rfl, J, fun b o q => ?_, ge, hoe, ⟨rfl, rfl, fun vs e => by cases e; rfl⟩, rfl, rfl, ?_, rfl, I1.bare, raises_own TC.exC TC.tyC, q1 d (I1.hok.fresh M.dbig)⟩
  · by_cases hb : b = e
    · have q' : G'.get? b = some o := q
      rw [hb, ge] at q'; cases q'
    · exact (gk b hb).symm.trans q
  · rw [upd_ne (Ne.symm M.dne)]
    exact I1.hok.fresh M.new
end
section
variable {P : Program} {w : World} {K : PySem.W.Frag} {mg : Str → Option Value} {base : Heap}
/-- as Fun.ok, for a def that may raise errors whose context is None -/
theorem fun_okN {x qual : Str} {st : Stmt} {f : Addr} {fd : FuncData} {N ps : List Str} {k : Nat} {sp : Sp} (F : Fun K x qual st f fd) (S : FnScope N ps (defScope st)) (len : ∀ vs H Q E, sp vs H Q E → vs.length = ps.length)
    (hbody : ∀ (cdv : Value) (A : Around) (outer : List PySem.Env) (s : Shared) (H : Hp) (vs : List V) (Q : VK) (E : XK), Room k (A.deeper (envOfC qual (defScope st) s.heap.objs.size f cdv)) → sp vs H Q E →
      ∃ t, PSs (cxOf (L2N.CX P w) P w K mg base N qual (defScope st) f cdv A outer s H E) (defBody st) t ∧ t { nx := fun _ H' => Q .non H', rt := Q } (L2.start N vs) H) : FnOk P w K mg base (L2N.CX P w) (k + 1) f fd ps sp := by
  obtain ⟨oc, od, kV, doc, pm, an, cdv, ct, osl, rfl, lk, hcd⟩ := F.ex
  exact fn_of lk hcd S len fun A outer s H vs Q E hr hsp => hbody cdv A outer s H vs Q E hr hsp
end
/-- C(*e), whose __init__ may raise an error whose context is None -/
def tMakeXS (K : PySem.W.Frag) (W : WX) (C : Addr) (sp : Sp) (te : TE) : TE := fun σ H Q => te σ H fun y H1 => ∃ a vs, y = V.ref a ∧ (SqT K H1 a vs ∨ SqL K H1 a vs) ∧ ∀ x dx, H1 x = none → H1 dx = none → dx ≠ x →
  sp (.ref x :: vs) (upd (upd H1 dx (.own x)) x (.ins C dx [])) (fun v H2 => v = .non ∧ Q (.ref x) H2) (fun cls d H' => W cls d σ H')
section
variable {X : Cx} {W : WX} {k n : Nat} {f C : Addr} {fd : FuncData} {ps ks : List Str} {sp : Sp} {x : Str} {p sp_ pos : Pos} {e : Expr} {te : TE}
theorem pe_makeXS (M : Mk X.K C f) (F : FnOk X.prog X.w X.K X.mg X.base (L2N.CX X.prog X.w) k f fd ps sp) (hr : Room (k + 1) X.A) (hg : Gl X x) (hm : X.mg x = some (.ref C)) (hb : Binds X.K fd ps []) (tk : L2N.Takes X W)
    (he : PE X e te) (hdb : (x == ("__debug__" : Str)) = false := by decide) (hst : starEach [.Starred e sp_] X.env = [(true, eval e X.env)] := by rfl) :
    PE X (.Call (.Name x p) [.Starred e sp_] [] pos) (tMakeXS X.K W C sp te) := by
  refine ⟨fun pins s σ H Q I h => ?_⟩
  refine wpAny_Call_Name_kw (ld_glob I hg hm ?_ hdb)
  refine PySem.W.callWith_S (h₀ := X.base) I.ok.mod.kin M.kp (thn (he.run pins s σ H _ I h) fun v s1 ⟨y, H1, I1, ry, a, vs, ey, hxs, q⟩ => ?_) hst
  subst ey
  obtain rfl : v = Value.ref a := ry
  refine StX.star_any I1 hxs fun us s2 I2 r => ⟨I2.kIn, ?_⟩
  have q1 := q (s2.heap.objs.size + 1) s2.heap.objs.size (I2.hok.fresh (Nat.le_succ _)) (I2.hok.fresh (Nat.le_refl _)) (Nat.ne_of_lt (Nat.lt_succ_self _))
  have hl : us.length + 1 = ps.length := by
    rw [← r.length]
    exact F.len _ _ _ _ q1
  have I3 := Inv.made (C := C) I2
  refine wpAny_call (make_map (f := f) I2.kIn M.makes M.init (beq_iff_eq.mp M.fn) (codeAny_mono (F.run _ X.stack _ _ ⟨Value.ref (s2.heap.objs.size + 1) :: us, []⟩ (Value.ref (s2.heap.objs.size + 1) :: us) (V.ref (s2.heap.objs.size + 1) :: _) _ _ (hr.make C us [])
    (I3.env0.make C us []) (by
      have b := hb _ (.ref (s2.heap.objs.size + 1) :: us) I3.kIn (by simpa using hl)
      rwa [List.append_nil] at b) (.cons (show RelV (V.ref (s2.heap.objs.size + 1)) (Value.ref (s2.heap.objs.size + 1)) from rfl) r) q1) fun r' s' hq' => ?_))
  match r', hq' with
  | .error e, hq' => exact tk e s' (L2N.XE.of_call I3 (fun _ _ _ h => h) hq')
  | .ok (.ret u), hq' =>
    obtain ⟨v, H', J, rv, ev, q3⟩ := I3.after hq'
    subst ev
    exact ⟨rv, ⟨V.ref (s2.heap.objs.size + 1), H', J, rfl, q3⟩⟩
  | .ok .next, hq' => exact False.elim hq'
  | .ok .brk, hq' => exact False.elim hq'
  | .ok .cont, hq' => exact False.elim hq'
end
end VL
namespace HotX
open PySem PySem.Spec PyProof.Rows
def fromE (c : Value) (h : Heap) (a : Addr) : Heap := (h.update a (Obj.mapFields (·.setIfInBounds 3 c))).update a (Obj.mapFields (·.setIfInBounds 4 (.bool true)))
theorem fromE_at {c : Value} {h : Heap} {a : Addr} {oe : Obj} {vs : Array Value} (ha : h.get? a = some oe) (hd : oe.data = .fields vs) :
    (fromE c h a).get? a = some ((oe.mapFields (·.setIfInBounds 3 c)).mapFields (·.setIfInBounds 4 (.bool true))) ∧ ((oe.mapFields (·.setIfInBounds 3 c)).mapFields (·.setIfInBounds 4 (.bool true))).data = .fields ((vs.setIfInBounds 3 c).setIfInBounds 4 (.bool true)) := by
  have hd3 := Obj.data_mapFields hd (·.setIfInBounds 3 c)
  have ha3 := Heap.get?_update_self (Obj.mapFields (·.setIfInBounds 3 c)) ha (Obj.isFreed_of_fields hd3)
  have hd4 := Obj.data_mapFields hd3 (·.setIfInBounds 4 (.bool true))
  exact ⟨Heap.get?_update_self (Obj.mapFields (·.setIfInBounds 4 (.bool true))) ha3 (Obj.isFreed_of_fields hd4), hd4⟩
theorem fromE_other {c : Value} {h : Heap} {a b : Addr} (hne : a ≠ b) : (fromE c h a).get? b = h.get? b := by
  unfold fromE
  rw [Heap.get?_update_other _ _ hne, Heap.get?_update_other _ _ hne]
theorem raise_made_hotE {prog : Program} {w : World} {A : Around} {E : Value → Shared → Prop} {env : Env} {s : Shared} {x c : Sem Value} {Q : Flow → Shared → Prop} {x1 : Addr}
    (h : wpAny (model prog w) A x (fun v s₁ => ∃ a oe vs cls, v = .ref a ∧ s₁.heap.get? a = some oe ∧ oe.cls = cls ∧ oe.data = .fields vs ∧ vs[1]? = some .none ∧ 4 < vs.size ∧ x1 ≠ a ∧ HotAt A x1 s₁.heap ∧ (∀ Q' : Value → Shared → Prop, Q' (.ref x1) s₁ → wpAny (model prog w) A c Q' E s₁) ∧ PySem.W.Looks (model prog w) s₁.heap (isInstance (.ref x1) (.type "BaseException")) true ∧
      PySem.W.Looks (model prog w) s₁.heap (isSubtype cls (.type "BaseException")) true ∧ PySem.W.Looks (model prog w) (fromE (.ref x1) s₁.heap a) (typeOf cls) (.type "type") ∧
      E (.ref a) { s₁ with heap := (fromE (.ref x1) s₁.heap a).update a (Obj.mapFields (·.setIfInBounds 2 (.ref x1))) }) E s) :
    wpAny (model prog w) A (raiseStmt env (some x) (some c)) Q E s := by
  unfold raiseStmt
  dsimp only
  refine wpAny_bind (wpAny_mono h (fun v s₁ h₁ => ?_) fun _ _ x => x)
  obtain ⟨a, oe, vs, cls, rfl, ha, hcls, hd, h1, hi, hne, hot, hcs, LX, L1, L3, hE⟩ := h₁
  have LT : PySem.W.Looks (model prog w) s₁.heap (typeOf (.ref a)) cls := fun A Q E s k q => wpAny_typeOf_ref (k _ _ ha) (by rw [hcls]; exact q)
  have LI : PySem.W.Looks (model prog w) s₁.heap (isInstance (.ref a) (.type "BaseException")) true := LT.andThen L1
  have hnt : ∀ {Q' : Bool → Shared → Prop}, Q' false s₁ → wpAny (model prog w) A (isType (.ref a)) Q' E s₁ := by
    intro Q' hq
    simp only [isType, loadHead]
    refine wpAny_bind (wpAny_loadPart ha ?_)
    rw [hd]; exact wpAny_pure hq
  have hntx : ∀ {Q' : Bool → Shared → Prop}, Q' false s₁ → wpAny (model prog w) A (isType (.ref x1)) Q' E s₁ := by
    intro Q' hq
    obtain ⟨_, o, vs', q2, q3, _⟩ := hot
    simp only [isType, loadHead]
    refine wpAny_bind (wpAny_loadPart q2 ?_)
    rw [q3]; exact wpAny_pure hq
  have hd3 := Obj.data_mapFields hd (·.setIfInBounds 3 (.ref x1))
  have ha3 := Heap.get?_update_self (Obj.mapFields (·.setIfInBounds 3 (.ref x1))) ha (Obj.isFreed_of_fields hd3)
  obtain ⟨ha4, hd4⟩ := fromE_at ha hd
  have s3 : 3 < vs.size := by omega
  have s4 : 4 < (vs.setIfInBounds 3 (Value.ref x1)).size := by rw [set_size]; exact hi
  have s2 : 2 < ((vs.setIfInBounds 3 (Value.ref x1)).setIfInBounds 4 (Value.bool true)).size := by rw [set_size, set_size]; omega
  have h14 : ((vs.setIfInBounds 3 (Value.ref x1)).setIfInBounds 4 (Value.bool true))[1]? = some Value.none := set_other (by decide) (set_other (by decide) h1)
  have hcls4 : ((oe.mapFields (·.setIfInBounds 3 (.ref x1))).mapFields (·.setIfInBounds 4 (.bool true))).cls = cls := by rw [Obj.cls_mapFields, Obj.cls_mapFields]; exact hcls
  have LT4 : PySem.W.Looks (model prog w) (fromE (.ref x1) s₁.heap a) (typeOf (.ref a)) cls := fun A Q E s k q => wpAny_typeOf_ref (k _ _ ha4) (by rw [hcls4]; exact q)
  have hnt4 : ∀ {Q' : Bool → Shared → Prop}, Q' false { s₁ with heap := fromE (.ref x1) s₁.heap a } → wpAny (model prog w) A (isType (.ref a)) Q' E { s₁ with heap := fromE (.ref x1) s₁.heap a } := by
    intro Q' hq
    simp only [isType, loadHead]
    refine wpAny_bind (wpAny_loadPart ha4 ?_)
    rw [hd4]; exact wpAny_pure hq
  have hot4 : HotAt A x1 (fromE (.ref x1) s₁.heap a) := by
    obtain ⟨q1, o, vs', q2, q3, q4⟩ := hot
    exact ⟨q1, o, vs', by rw [fromE_other (Ne.symm hne)]; exact q2, q3, q4⟩
  -- what stands behind the two stores
  have rest : wpAny (model prog w) A (do
      let b ← isType (.ref a)
      if b = true then do
        let e ← holding [.ref a] (raisedFor (.ref a) (.ref a))
        setFlight e none
        raiseNew e
      else do
        let e ← raisedInstance (.ref a)
        setFlight e none
        raiseNew e : Sem Flow) Q E { s₁ with heap := fromE (.ref x1) s₁.heap a } := by
    refine wpAny_bind (hnt4 ?_)
    simp only [Bool.false_eq_true, if_false]
    unfold raisedInstance
    refine wpAny_bind (wpAny_bind (LT4.here (wpAny_bind (L3.here ?_))))
    rw [if_pos (beq_self_eq_true _)]
    refine wpAny_pure ?_
    unfold setFlight
    refine wpAny_bind (wpAny_bind (wpAny_field ha4 hd4 h14 ?_))
    rw [if_neg (by decide)]
    refine wpAny_pure ?_
    exact raiseNew_hot hot4 hne ha4 hd4 s2 hE
  refine wpAny_bind (wpAny_holding (hcs _ (wpAny_bind (wpAny_pure ?_))))
  dsimp only
  refine wpAny_bind (wpAny_holding ?_)
  unfold excFromValue isExcClass
  refine wpAny_bind (wpAny_bind (hnt ?_))
  simp only [Bool.false_eq_true, if_false]
  refine wpAny_pure ?_
  simp only [Bool.false_eq_true, if_false]
  refine wpAny_bind (LI.here ?_)
  simp only [if_true]
  refine wpAny_pure ?_
  have nb : (Value.ref x1 == Value.none) = false := by simp
  simp only [nb, Bool.false_eq_true, if_false]
  refine wpAny_bind (wpAny_holding ?_)
  refine wpAny_bind (wpAny_bind (hntx ?_))
  simp only [Bool.false_eq_true, if_false]
  refine wpAny_pure ?_
  simp only [Bool.false_eq_true, if_false]
  refine wpAny_bind (LX.here ?_)
  simp only [if_true]
  refine wpAny_pure ?_
  first
  | refine wpAny_bind (wpAny_setField ha hd s3 (wpAny_bind (wpAny_setField ha3 hd3 s4 ?_)))
  | refine wpAny_bind (wpAny_pure (wpAny_bind (wpAny_setField ha hd s3 (wpAny_bind (wpAny_setField ha3 hd3 s4 ?_)))))
  | refine wpAny_bind (wpAny_pure (wpAny_bind (wpAny_bind (wpAny_setField ha hd s3 (wpAny_bind (wpAny_setField ha3 hd3 s4 ?_))))))
  | refine wpAny_bind (wpAny_bind (wpAny_pure (wpAny_bind (wpAny_setField ha hd s3 (wpAny_setField ha3 hd3 s4 ?_)))))
  first
  | exact rest
  | (dsimp only; exact rest)
  | (refine wpAny_pure ?_; exact rest)
  | (simp only [bind_pure_comp] ; exact rest)
end HotX
namespace L2X
open PySem PySem.Spec PyProof.Rows L2
theorem funFrames_chg {base h h' : Heap} : ∀ {l : List PySem.Env}, (∀ b ∈ l.filterMap (·.frame), ∀ o, h.get? b = some o → (∀ vs, o.data ≠ .fields vs) → ∃ o', h'.get? b = some o' ∧ ∀ vs, o'.data ≠ .fields vs) → h.FunFrames base l → h'.FunFrames base l
  | [], _, _ => trivial
  | env :: rest, k, hl => by
    obtain ⟨h1, ⟨L, o, hf, hn, ho, hd⟩, hr⟩ := hl
    have mem : L ∈ (env :: rest).filterMap (·.frame) := by
      rw [List.filterMap_cons, hf]
      exact List.mem_cons_self
    obtain ⟨o', e1, e2⟩ := k L mem o ho hd
    refine ⟨h1, ⟨L, o', hf, hn, e1, e2⟩, funFrames_chg (fun b hb => k b ?_) hr⟩
    rw [List.filterMap_cons, hf]
    exact List.mem_cons_of_mem _ hb
section
variable {X : Cx} {pins : List (Addr × Obj)} {σ : L2.St} {H : Hp} {s : Shared}
/-- the name n is gone from the frame -/
theorem gone_inv {i : Nat} {n : Str} {m : Str → Option Value} {h' : Heap} {v : Option Value} {t' : Nat} (I : Inv X pins σ H s) (hN : X.N.Nodup) (hi : X.N[i]? = some n) (hn : s.heap.Ns X.env.locals m)
    (hlk : ∀ (i : Nat) (x : Str) (v : V), X.N[i]? = some x → σ[i]? = some (some v) → Vis X.env.scope x → ∃ u, RelV v u ∧ Look X.env s.heap m x u) (hn' : h'.Ns X.env.locals (fun x => if x = n then v else m x)) (hs : Heap.SameBut X.env.locals s.heap h') :
    Inv X pins (σ.set i none) H { s with heap := h', toks := t' } := by
  obtain ⟨oL, _, _, hoL, _⟩ := id hn
  have neL : ∀ b o, X.s_0.heap.get? b = some o → b ≠ X.env.locals := fun b o e => Nat.ne_of_lt (Nat.lt_of_lt_of_le (Heap.lt_size e) I.ok.above)
  refine ⟨I.ok, I.os, I.bare, ⟨fun b o e n hb hx => ?_, fun b o e n hb hx => ?_, I.base.free, fun b o e hx => ?_, I.base.tups, I.base.frzs, I.base.tbls⟩, ⟨_, hn', fun j y v' e1 e2 e3 => ?_⟩, fun y c e => ?_, I.free, I.freeC, fun p hp => ?_, fun b ob e => ?_, by simpa using I.len⟩
  · exact (hs.2 b (neL b o e)).trans (I.base.keep b o e n hb hx)
  · obtain ⟨sl, e1⟩ := I.base.slot b o e n hb hx
    exact ⟨sl, (hs.2 b (neL b o e)).trans e1⟩
  · obtain ⟨o', e1⟩ := I.base.there b o e hx
    exact ⟨o', (hs.2 b (neL b o e)).trans e1⟩
  · by_cases hj : j = i
    · subst hj
      by_cases hlt : j < σ.length
      · rw [List.getElem?_set_self hlt] at e2; cases e2
      · rw [List.getElem?_eq_none (by simpa using hlt)] at e2; cases e2
    · rw [List.getElem?_set_ne (Ne.symm hj)] at e2
      obtain ⟨u', r', q⟩ := hlk j y v' e1 e2 e3
      refine ⟨u', r', ?_⟩
      rcases q with ⟨k, e⟩ | ⟨k, c, e, z⟩
      · have ny : y ≠ n := fun e => hj (nodup_ix hN e1 (e ▸ hi))
        exact .inl ⟨k, (if_neg ny).trans e⟩
      · exact .inr ⟨k, c, e, z.sameBut hs (I.cne y c e)⟩
  · obtain ⟨w', z⟩ := I.cell y c e
    exact ⟨w', z.sameBut hs (I.cne y c e)⟩
  · obtain ⟨e, n, ne, nf, d⟩ := I.pin p hp
    exact ⟨(hs.2 p.1 ne).trans e, n, ne, nf, d⟩
  · refine (I.hok b ob e).stay (fun c w' hc q => (hs.2 c ?_).trans q) (fun _ q => q) fun _ _ q => q
    intro z
    subst z
    rcases hc with hc | hc
    · rw [← hc, I.free] at e; cases e
    · rw [I.free] at hc; cases hc
end
section
variable {X : Cx} {W : WX} {i : Nat} {n : Str} {pos : Pos} {a : Addr} {q : Addr × Obj} {pins : List (Addr × Obj)} {xs : Value → Shared → Prop}
/-- the context of the suite of an except .. as n that may raise: what is raised, xs takes -/
abbrev asX (X : Cx) (a : Addr) (pn : List (Addr × Obj)) (xs : Value → Shared → Prop) : Cx := { X with A := X.A.mark (some (.ref a)), calm := false, pn := pn, xe := xs }
theorem note_sky {M : Model} {A : Around} {E₁ : Value → Shared → Prop} {env : PySem.Env} {outer : List PySem.Env} {L a : Addr} {B : Heap} {Z : Obj → Prop} {s : Shared} {Q : Unit → Shared → Prop} (hZ : HandSPX.Steady Z) (hfr : A.frames = some (env :: outer)) (hf : env.frame = some L)
    (x : Sky B (env :: outer) a Z L s.heap) (hQ : ∀ h', HandSPX.HeldZ B (env :: outer) a Z L h' → s.heap.UpToSlots h' → Q () { s with heap := h' }) : wpAny M A (noteFrame (.ref a) env) Q E₁ s := by
  rcases x with ⟨hB, hn, hl, oe, vs, he, hz, hd, h1⟩ | fl | hh
  · exact HandSPX.look_newZ hZ hfr hl hf he hB hn hd h1 hz hQ
  · exact HandSPX.looks_onZ hZ hfr hf fl hQ
  · exact HandSPX.againZ hf hh.2.2.2 (hQ s.heap hh (Heap.UpToSlots.refl _))
/-- an error that leaves such a suite: the name goes, then it flies on -/
theorem leaves_as {N E2 E3 : Value → Shared → Prop} (ok : X.Ok) (hs : X.stack = X.env :: X.outer) (hf : X.env.frame = some X.env.locals) (hN : X.N.Nodup) (hi : X.N[i]? = some n) (hln : X.env.kindOf n = some .local) (tk : L2.Takes X W)
    (hW : ∀ cls d σ H, W cls d σ H → W cls d (σ.set i none) H) (hpa : ∀ e s', X.xe e s' → N e s') {u : Value} {s' : Shared} (x : L2.XE (asX X a (q :: (X.pn ++ pins)) xs) W u s') :
    wpAny (model X.prog X.w) (X.A.mark (some (.ref a))) (noteFrame u X.env) (fun _ s₃ => wpAny (model X.prog X.w) (X.A.mark (some (.ref a))) (do bindName X.env n .none; unbindBehindTheSuite X.env n pos)
      (fun _ s₄ => wpAny (model X.prog X.w) (X.A.mark (some (.ref a))) (passOn "try.except-as" u X.env : Sem Flow) (fun _ _ => False) N s₄) E2 s₃) E3 s' := by
  obtain ⟨a2, B, sI, pins', σ', H', cls, d, rfl, J, nb, up, sky, na, os, ag, w⟩ := x
  have hfr : (X.A.mark (some (.ref a))).frames = some (X.env :: X.outer) := by
    show X.A.frames = _
    rw [ok.frames, hs]
  have sky' : Sky B (X.env :: X.outer) a2 (Zc cls d) X.env.locals s'.heap := by rw [← hs]; exact sky
  refine note_sky Zc.steady hfr hf sky' fun h1 held up0 => ?_
  obtain ⟨m, hnI, hlk⟩ := id J.loc
  have up1 : sI.heap.UpToSlots h1 := up.trans up0
  have hn1 : h1.Ns X.env.locals m := up1.ns hnI
  have hcls : (X.env.scope.kind == .class || (X.env.scope.kind == .module && X.env.locals != X.env.globals)) = false := by rw [ok.kind]; rfl
  refine wpAny_nameGoes_keeps hln hn1 hcls fun h2 v hn2 hs2 => ?_
  have memL : X.env.locals ∈ (X.env :: X.outer).filterMap (·.frame) := by
    rw [List.filterMap_cons, hf]
    exact List.mem_cons_self
  obtain ⟨bN, oL, hoL, hnf⟩ := held.2.2.1.mem memL
  obtain ⟨b1, b2, b3, oe, vs, T, oT, ts, he, hz, hd, e1, hnT, hTe, hT, hdT, h3⟩ := id held
  have nA : a2 ≠ X.env.locals := fun z => by
    rw [z, hoL] at he
    cases he
    exact hnf _ hd
  have nT : T ≠ X.env.locals := fun z => by
    rw [z, hoL] at hT
    cases hT
    exact hnf _ hdT
  have he2 : h2.get? a2 = some oe := (hs2.2 _ nA).trans he
  have tr2 : HandSPX.TracedZ h2 B a2 (Zc cls d) (rawInt X.env.locals) := ⟨oe, vs, T, oT, ts, he2, hz, hd, e1, hnT, hTe, (hs2.2 _ nT).trans hT, hdT, h3⟩
  have st2 : B.StaysIn h2 := fun b o e => (hs2.2 b (fun z => by rw [z, bN] at e; cases e)).trans (b1 b o e)
  obtain ⟨o4, es, ep, e4, d4, r4⟩ := id hn2
  have fr2 : h2.FunFrames B (X.env :: X.outer) := funFrames_chg (fun b hb o e hno => by
    by_cases c : b = X.env.locals
    · rw [c]
      exact ⟨o4, e4, fun vs z => by rw [d4] at z; cases z⟩
    · exact ⟨o, (hs2.2 b c).trans e, hno⟩) b3
  unfold PySem.passOn
  refine wpAny_bind (wpAny_field he2 hd e1 ?_)
  rw [if_neg (show ¬ ((Value.ref T == Value.none) = true) from by simp)]
  have fin : wpAny (model X.prog X.w) (X.A.mark (some (.ref a))) (setFlight (.ref a2) X.env.frame) (fun _ s4 => wpAny (model X.prog X.w) (X.A.mark (some (.ref a))) (throw (.ref a2) : Sem Flow) (fun _ _ => False) N s4) N { s' with heap := h2, toks := s'.toks + 1 } := by
    rw [hf]
    refine HandSPX.setFlight_anyZ (fr := some X.env.locals) st2 fr2 tr2 fun h5 k1 k2 k3 k4 => wpAny_throw (hpa _ _ (tk _ _ ?_))
    obtain ⟨oI, _, _, hoI, _⟩ := id hnI
    have gL : (sI.heap.update X.env.locals (fun _ => o4)).get? X.env.locals = some o4 := Heap.get?_update_self _ hoI (Obj.isFreed_of_dict d4)
    have gO : ∀ b, b ≠ X.env.locals → (sI.heap.update X.env.locals (fun _ => o4)).get? b = sI.heap.get? b := fun b hb => Heap.get?_update_other _ _ (Ne.symm hb)
    have I2 := gone_inv (t' := sI.toks) J hN hi hnI hlk (h' := sI.heap.update X.env.locals (fun _ => o4)) (v := v) ⟨o4, es, ep, gL, d4, r4⟩ ⟨Heap.size_update _ _ _, gO⟩
    have I3 : Inv X pins (σ'.set i none) H' { sI with heap := sI.heap.update X.env.locals (fun _ => o4) } := Inv.unsuite (X := X) (a := a) (q := q) (pn' := pins') (show Inv (X.suite a (q :: (X.pn ++ pins))) pins' _ _ _ from I2.wish fun _ _ => False) ok
    refine ⟨a2, B, _, pins, σ'.set i none, H', cls, d, rfl, I3, fun b o e hb => ?_, fun b o e hno => ?_, .inr (.inr ⟨k1, b2, by rw [hs]; exact k2, k3⟩), na, os, ag, hW _ _ _ _ w⟩
    · have nbL : b ≠ X.env.locals := fun z => hb (by rw [z]; show X.env.locals ∈ X.stack.filterMap (·.frame); rw [hs]; exact memL)
      exact nb b o ((gO b nbL).symm.trans e) hb
    · by_cases c : b = X.env.locals
      · have e : (sI.heap.update X.env.locals (fun _ => o4)).get? b = some o := e
        rw [c, gL] at e
        cases e
        rw [c]
        exact k4 _ _ e4 hno
      · have e' : sI.heap.get? b = some o := (gO b c).symm.trans e
        obtain ⟨sl, q1⟩ := up1 b o e' hno
        obtain ⟨sl2, q2⟩ := k4 b _ ((hs2.2 b c).trans q1) hno
        exact ⟨sl2, q2⟩
  first
    | exact wpAny_bind (wpAny_pure (wpAny_bind fin))
    | exact wpAny_bind fin
end
end L2X
namespace L2H
open PySem PySem.Spec PyProof.Rows L2 HotX
section
variable {X : Cx} {x n : Str} {c : Value} {i : Nat} {body suite : List Stmt} {b₀ : Stmt} {np pos pos' : Pos} {tb : WX → TS} {ts : Addr → Value → Option Addr → TS} {Wout : WX}
theorem ps_try_asX (hs : X.stack = X.env :: X.outer) (hf : X.env.frame = some X.env.locals) (hN : X.N.Nodup) (hi : X.N[i]? = some n) (hln : X.env.kindOf n = some .local) (hc : Names X x c) (hpa : ∀ hd : Option Value, PassesOwnAt (model X.prog X.w) (X.A.mark hd) X.A X.env X.xe) (tk : L2.Takes X Wout) (hW : ∀ cls d σ H, Wout cls d σ H → Wout cls d (σ.set i none) H)
    (hb : ∀ (W : WX) (pn : List (Addr × Obj)) (xe : Value → Shared → Prop), L2N.Takes (X.tr pn xe) W → L2.Takes (X.tr pn xe) (wPass X.K c Wout) → PassesOwn (model X.prog X.w) X.A X.env xe → PSs (X.tr pn xe) body (tb W))
    (hsu : ∀ (a : Addr) (oe : Obj) (cls : Value) (d : Option Addr) (pn : List (Addr × Obj)), L2N.Zn cls d oe → (∃ vs, oe.data = .fields vs) → ∀ xs : Value → Shared → Prop, L2.Takes (L2X.asX X a ((a, oe) :: pn) xs) Wout → HotC (L2X.asX X a ((a, oe) :: pn) xs) →
      PSs (L2X.asX X a ((a, oe) :: pn) xs) (b₀ :: suite) (ts a cls d)) :
    PS X (.Try body [.ExceptHandler (some (.Name x np)) (some n) (b₀ :: suite) pos'] [] [] pos) (fun D σ H => tb (wAs X.K c i ts Wout D) D σ H) := by
  refine ⟨fun pins s σ H D I h => ?_⟩
  have ok := I.ok
  have hloc : Loc X.env.scope n := .inl hln
  have hfr : X.A.frames = some (X.env :: X.outer) := by rw [ok.frames, hs]
  have notFr : ∀ {B h : Heap} {a : Addr} {o : Obj} {vs : Array Value}, h.FunFrames B (X.env :: X.outer) → h.get? a = some o → o.data = .fields vs → a ∉ frs (X.env :: X.outer) := fun {B h a o vs} ff e dd hm => by
    obtain ⟨_, o', e', hnf⟩ := ff.mem hm
    rw [e] at e'; cases e'
    exact hnf _ dd
  have flyOn : ∀ {a : Addr} {B : Heap} {sI s' : Shared} {σ' : L2.St} {H' : Hp} {cls : Value} {d : Option Addr} {h3 : Heap}, Inv X pins σ' H' sI → (∀ b o, sI.heap.get? b = some o → b ∉ frs X.stack → B.get? b = some o) → sI.heap.UpToSlots h3 →
      HandSPX.FlyingZ B (X.env :: X.outer) a (Zc cls d) h3 → H' a = none → s'.os = sI.os → AllBare s'.gens → Wout cls d σ' H' → wpAny (model X.prog X.w) X.A (handleBy (.ref a) X.env []) (SP X pins D) X.xe { s' with heap := h3 } := by
    intro a B sI s' σ' H' cls d h3 J nb up fl3 na os ag w
    refine wpAny_handleBy_nil ?_
    obtain ⟨k1, k2, k3, oe, vs, T, oT, ts', he, hz, hd, h1, hr⟩ := id fl3
    unfold PySem.passOn
    refine wpAny_bind (wpAny_field he hd h1 ?_)
    rw [if_neg (show ¬ ((Value.ref T == Value.none) = true) from by simp)]
    have fin : wpAny (model X.prog X.w) X.A (setFlight (.ref a) X.env.frame) (fun _ s4 => wpAny (model X.prog X.w) X.A (throw (.ref a) : Sem Flow) (SP X pins D) X.xe s4) X.xe { s' with heap := h3 } := by
      rw [hf]
      refine HandSPX.setFlight_upZ fl3 fun h4 hh4 up4 => wpAny_throw (tk _ _ ?_)
      exact ⟨a, B, sI, pins, σ', H', cls, d, rfl, J, nb, up.trans up4, .inr (.inr (by rw [hs]; exact hh4)), na, os, ag, w⟩
    first
      | exact wpAny_bind (wpAny_pure (wpAny_bind fin))
      | exact wpAny_bind fin
  refine wpAny_Try_except ?_
  refine wpAny_mono ((hb (wAs X.K c i ts Wout D) (X.pn ++ pins) (fun e s₁ => wpAny (model X.prog X.w) X.A (noteFrame e X.env) (fun _ s₂ => wpAny (model X.prog X.w) X.A (setFlight e none) (fun _ s₃ =>
    wpAny (model X.prog X.w) X.A (handleBy e X.env [.ExceptHandler (some (.Name x np)) (some n) (b₀ :: suite) pos']) (SP X pins D) X.xe s₃) X.xe s₂) X.xe s₁) (fun u s' xx => ?_) (fun u s' xx => ?_) PassesOwn.looking).run [] s σ H D (I.toTry _) h) (fun f s1 hsp => ?_) (fun e s1 he => he)
  · -- an exception whose context is None
    obtain ⟨a, B, sI, pins', σ', H', cls, d, rfl, J', nb, up, sky, na, os, ag, b, hb1, hyes, hno⟩ := xx
    have J : Inv X pins σ' H' sI := J'.ofTry ok
    have sky' : Sky B (X.env :: X.outer) a (L2N.Zn cls d) X.env.locals s'.heap := by rw [← hs]; exact sky
    show wpAny (model X.prog X.w) X.A (noteFrame (.ref a) X.env) _ _ _
    refine L2N.Sky.land L2N.Zn.steady hfr hf sky' fun h3 fl3 up3 => ?_
    have J3 : Inv X pins σ' H' { s' with heap := h3 } := J.landed nb fl3.1 (up.trans up3) os ag
    obtain ⟨oe3, vs3, he3, hz3, hd3⟩ := fl3.there
    have nfr : a ∉ frs (X.env :: X.outer) := notFr fl3.2.2.1 he3 hd3
    have nL : a ≠ X.env.locals := fun z => nfr (List.mem_filterMap.mpr ⟨X.env, List.mem_cons_self, by rw [hf, z]⟩)
    have nF : a ∉ X.fs := fun hm => by
      obtain ⟨e, he, q⟩ := List.mem_filterMap.mp hm
      exact nfr (List.mem_filterMap.mpr ⟨e, List.mem_cons_of_mem _ he, q⟩)
    have S3 := J3.suite he3 hd3 na nL nF
    refine wpAny_handleBy_cons (codeAny_handlers_test ?_) (by intro q; cases q)
    have LT : PySem.W.Looks (model X.prog X.w) h3 (typeOf (.ref a)) cls := fun A Q E s k q => wpAny_typeOf_ref (k _ _ he3) (by rw [hz3.1]; exact q)
    have LM := PySem.W.exm_one (M := model X.prog X.w) (J3.kIn) LT hb1
    have test : ∀ {Q : Value → Shared → Prop} {E : Value → Shared → Prop}, Q c { s' with heap := h3 } → wpAny (model X.prog X.w) (X.A.mark (some (.ref a))) (eval (.Name x np) X.env) Q E { s' with heap := h3 } := fun {Q E} q => by
      obtain ⟨hg, hdbg, hm | ⟨hm, hv, hnn⟩⟩ := hc
      · exact ld_glob (X := X.suite a ((a, oe3) :: (X.pn ++ pins))) S3 hg hm q hdbg
      · exact ld_blt (X := X.suite a ((a, oe3) :: (X.pn ++ pins))) S3 hg hm hv q hnn hdbg
    refine test (LM.here ?_)
    cases b with
    | true =>
      refine codeAny_handlers_suite_as ?_
      refine HandSPX.lands_againZ fl3 fun h4 fl4 up4 => ?_
      have J4 : Inv X pins σ' H' { s' with heap := h4 } := J.landed nb fl4.1 ((up.trans up3).trans up4) os ag
      obtain ⟨oe4, vs4, he4, hz4, hd4⟩ := fl4.there
      have S4 := J4.suite he4 hd4 na nL nF
      refine store_ok (X := X.suite a ((a, oe4) :: (X.pn ++ pins))) (v := .ref a) S4 hN hi hloc rfl (fun s5 S5 => ?_) (.inr hln)
      refine wpAny_mono ((hsu a oe4 cls d (X.pn ++ pins) hz4 ⟨_, hd4⟩ _ (fun u2 s2 x2 => L2X.leaves_as ok hs hf hN hi hln tk hW (fun e6 s6 z => hpa (some (.ref a)) e6 s6 z) x2) ⟨(a, oe4), ⟨rfl, vs4, hd4, hz4.2.2 vs4 hd4⟩, List.mem_cons_self⟩).run [] s5 _ H' _ (Inv.unwish (X := L2X.asX X a ((a, oe4) :: (X.pn ++ pins)) _) (E := fun _ _ => False) S5) (hyes rfl a na)) (fun f s6 hsp => ?_) (fun e6 s6 z => z)
      have end_ : ∀ {σ6 : L2.St} {H6 : Hp} {Q : Shared → Prop} {xs : Value → Shared → Prop}, Inv (L2X.asX X a ((a, oe4) :: (X.pn ++ pins)) xs) [] σ6 H6 s6 → (∀ s7, Inv X pins (σ6.set i none) H6 s7 → Q s7) →
          wpAny (model X.prog X.w) X.A (do bindName X.env n .none; unbindBehindTheSuite X.env n pos') (fun _ s7 => Q s7) X.xe s6 := fun {σ6 H6 Q xs} S6 hq => gone_ok ((show Inv (X.suite a ((a, oe4) :: (X.pn ++ pins))) [] σ6 H6 s6 from S6.wish fun _ _ => False).unsuite ok) hN hi hln hq
      cases f with
      | next =>
        obtain ⟨σ6, H6, S6, q6⟩ := hsp
        exact end_ S6 fun s7 J7 => ⟨_, _, J7, q6⟩
      | brk =>
        obtain ⟨σ6, H6, S6, q6⟩ := hsp
        exact end_ S6 fun s7 J7 => ⟨_, _, J7, q6⟩
      | cont =>
        obtain ⟨σ6, H6, S6, q6⟩ := hsp
        exact end_ S6 fun s7 J7 => ⟨_, _, J7, q6⟩
      | ret u =>
        obtain ⟨v6, σ6, H6, S6, r6, q6⟩ := hsp
        exact end_ S6 fun s7 J7 => ⟨_, _, _, J7, r6, q6⟩
    | false =>
      show wpAny _ X.A (handleBy (.ref a) X.env []) _ _ _
      exact flyOn J nb (up.trans up3) (flyingZ_imp (fun o z => z.zc) fl3) na os ag (hno rfl)
  · -- any other: the clause doesn't name it
    obtain ⟨a, B, sI, pins', σ', H', cls, d, rfl, J', nb, up, sky, na, os, ag, hb1, hno⟩ := xx
    have J : Inv X pins σ' H' sI := J'.ofTry ok
    have sky' : Sky B (X.env :: X.outer) a (Zc cls d) X.env.locals s'.heap := by rw [← hs]; exact sky
    show wpAny (model X.prog X.w) X.A (noteFrame (.ref a) X.env) _ _ _
    refine L2.Sky.land Zc.steady hfr hf sky' fun h3 fl3 up3 => ?_
    have J3 : Inv X pins σ' H' { s' with heap := h3 } := J.landed nb fl3.1 (up.trans up3) os ag
    obtain ⟨oe3, vs3, he3, hz3, hd3⟩ := fl3.there
    have nfr : a ∉ frs (X.env :: X.outer) := notFr fl3.2.2.1 he3 hd3
    have nL : a ≠ X.env.locals := fun z => nfr (List.mem_filterMap.mpr ⟨X.env, List.mem_cons_self, by rw [hf, z]⟩)
    have nF : a ∉ X.fs := fun hm => by
      obtain ⟨e, he, q⟩ := List.mem_filterMap.mp hm
      exact nfr (List.mem_filterMap.mpr ⟨e, List.mem_cons_of_mem _ he, q⟩)
    have S3 := J3.suite he3 hd3 na nL nF
    refine wpAny_handleBy_cons (codeAny_handlers_test ?_) (by intro q; cases q)
    have LT : PySem.W.Looks (model X.prog X.w) h3 (typeOf (.ref a)) cls := fun A Q E s k q => wpAny_typeOf_ref (k _ _ he3) (by rw [hz3.1]; exact q)
    have LM := PySem.W.exm_one (M := model X.prog X.w) (J3.kIn) LT hb1
    have test : ∀ {Q : Value → Shared → Prop} {E : Value → Shared → Prop}, Q c { s' with heap := h3 } → wpAny (model X.prog X.w) (X.A.mark (some (.ref a))) (eval (.Name x np) X.env) Q E { s' with heap := h3 } := fun {Q E} q => by
      obtain ⟨hg, hdbg, hm | ⟨hm, hv, hnn⟩⟩ := hc
      · exact ld_glob (X := X.suite a ((a, oe3) :: (X.pn ++ pins))) S3 hg hm q hdbg
      · exact ld_blt (X := X.suite a ((a, oe3) :: (X.pn ++ pins))) S3 hg hm hv q hnn hdbg
    refine test (LM.here ?_)
    show wpAny _ X.A (handleBy (.ref a) X.env []) _ _ _
    exact flyOn J nb (up.trans up3) fl3 na os ag hno
  · cases f with
    | next =>
      obtain ⟨σ', H', J', q⟩ := hsp
      exact wpAny_execs_nil ⟨σ', H', J'.ofTry ok, q⟩
    | brk =>
      obtain ⟨σ', H', J', q⟩ := hsp
      exact ⟨σ', H', J'.ofTry ok, q⟩
    | cont =>
      obtain ⟨σ', H', J', q⟩ := hsp
      exact ⟨σ', H', J'.ofTry ok, q⟩
    | ret u =>
      obtain ⟨v, σ', H', J', r, q⟩ := hsp
      exact ⟨v, σ', H', J'.ofTry ok, r, q⟩
end
end L2H
namespace L2H
open PySem PySem.Spec PyProof.Rows L2 HotX
/-- raise X(..) from n, n the error at hand, in the suite of except .. as n -/
theorem ps_raiseHE {X : Cx} {W : WX} {e : Expr} {t : L2.St → Hp → XK → Prop} {i : Nat} {n : Str} {a1 C1 : Addr} {oe1 : Obj} {vs1 : Array Value} {cpos pos : Pos} (hp : (a1, oe1) ∈ X.pn) (hh : X.A.handled = some (.ref a1)) (hd1 : oe1.data = .fields vs1) (hc1 : vs1[2]? = some .none) (hcl : oe1.cls = .ref C1)
    (hs1 : PySem.W.subIn X.K (.ref C1) (.type "BaseException") = some true) (hi : X.N[i]? = some n) (hln : X.env.scope.names.lookup n = some .local) (hdb : (n == ("__debug__" : Str)) = false) (tk : L2.Takes X W) (he : PMk5 X e t) :
    PS X (.Raise (some e) (some (.Name n cpos)) pos) (fun _ σ H => σ[i]? = some (some (.ref a1)) ∧ t σ H fun cls d H' => W cls d σ H') := by
  refine ⟨fun pins s σ H D I h => ?_⟩
  obtain ⟨hσ, h⟩ := h
  show wpAny _ _ (do standAt pos; raiseStmt X.env (some (do let v ← eval e X.env; standAt pos; pure v)) (some (do let v ← eval (.Name n cpos) X.env; standAt pos; pure v))) _ _ _
  refine wpAny_bind (wpAny_standAt (raise_made_hotE (x1 := a1) (wpAny_bind (wpAny_mono (he pins s σ H _ I h) (fun u s1 hu => wpAny_bind (wpAny_standAt (wpAny_pure ?_))) fun _ _ x => x))))
  obtain ⟨⟨a, oe, vs, sI, H', cls, d, rfl, J, k, hne, ha, hz, hd, h1, na, os, ag, r, q⟩, h5⟩ := hu
  have hi5 : 4 < vs.size := h5 a oe vs rfl ha hd
  have k4 : ∀ b u, sI.heap.get? b = some u → (fromE (.ref a1) s1.heap a).get? b = some u := fun b u z => by
    have nab : a ≠ b := fun y => by
      rw [← y, hne] at z
      cases z
    rw [fromE_other nab]
    exact k b u z
  obtain ⟨r1, _⟩ := r (model X.prog X.w) s1.heap (J.kIn.keeps k)
  obtain ⟨_, r2⟩ := r (model X.prog X.w) (fromE (.ref a1) s1.heap a) (J.kIn.keeps k4)
  have P1 := (J.pin (a1, oe1) (List.mem_append_left _ hp)).1
  have nap : a1 ≠ a := fun z => by
    rw [z, hne] at P1
    cases P1
  have Q1 : s1.heap.get? a1 = some oe1 := k _ _ P1
  have LX : PySem.W.Looks (model X.prog X.w) s1.heap (isInstance (.ref a1) (.type "BaseException")) true :=
    PySem.W.Looks.andThen (fun A Q E s k q => wpAny_typeOf_ref (k _ _ Q1) (by rw [hcl]; exact q)) (PySem.W.looks_subIn (J.kIn.keeps k) hs1)
  obtain ⟨ha4, hd4⟩ := fromE_at (c := .ref a1) ha hd
  have h12 : (((vs.setIfInBounds 3 (Value.ref a1)).setIfInBounds 4 (Value.bool true)).setIfInBounds 2 (Value.ref a1))[1]? = some Value.none := set_other (by decide) (set_other (by decide) (set_other (by decide) h1))
  have name : ∀ Q' : Value → Shared → Prop, Q' (.ref a1) s1 → wpAny (model X.prog X.w) X.A (do let v ← eval (.Name n cpos) X.env; standAt pos; pure v) Q' X.xe s1 := fun Q' q' => by
    obtain ⟨m, hn, hl⟩ := J.loc
    obtain ⟨u, ru, l⟩ := hl i n _ hi hσ (.inl hln)
    cases ru
    rcases l with ⟨hk, hm⟩ | ⟨hk, c, hc, hcell⟩
    · exact wpAny_bind (wpAny_Name (wpAny_loadName_local J.ok.kind hk (hn.keeps k) hm (wpAny_bind (wpAny_standAt (wpAny_pure q')))) hdb)
    · have hk2 : X.env.kindOf n = some .local := hln
      rcases hk with hk | hk <;> rw [hk2] at hk <;> cases hk
  refine ⟨a, oe, vs, cls, rfl, ha, hz.1, hd, h1, hi5, nap, ⟨hh, oe1, vs1, Q1, hd1, hc1⟩, name, LX, r1, r2, tk _ _ (XE.new J (fun b u z => ?_) hne (Heap.get?_update_self _ ha4 (Obj.isFreed_of_fields (Obj.data_mapFields hd4 _)))
    ⟨by rw [Obj.cls_mapFields, Obj.cls_mapFields, Obj.cls_mapFields]; exact hz.1, by rw [HandSPX.dict_mapFields, HandSPX.dict_mapFields, HandSPX.dict_mapFields]; exact hz.2.1⟩ (Obj.data_mapFields hd4 _) h12 na os ag q)⟩
  have nab : a ≠ b := fun y => by
    rw [← y, hne] at z
    cases z
  show ((fromE (.ref a1) s1.heap a).update a (Obj.mapFields (·.setIfInBounds 2 (.ref a1)))).get? b = some u
  rw [Heap.get?_update_other _ _ nab]
  exact k4 b u z
end L2H
namespace VL
open PySem PySem.Spec PyProof.Rows L2
section
variable {X : Cx} {C D fI : Addr} {st : Stmt} {mg : Str → Option Value}
theorem pmk5_val {a : Expr} {x : Str} {ta : TE} {p pos : Pos} (T : VX.SupTxt X.K X.prog X.mg st D fI) (TC : VX.XcTxt X.K C D fI) (hm : X.mg x = some (.ref C)) (hdp : X.A.depth + 1 < recursionLimit) (hg : Gl X x) (hdb : (x == ("__debug__" : Str)) = false) (ha : PE X a ta)
    (he : starEach (a :: []) X.env = (false, eval a X.env) :: starEach [] X.env) (hpl : (backTo pos (starEach [] X.env)).any (·.1) = false) :
    L2H.PMk5 X (.Call (.Name x p) [a] [] pos) (tMkX C ta) := by
  intro pins s σ H Q I h
  refine wpAny_Call_Name_kw (ld_glob I hg hm ?_ hdb)
  refine PySem.W.callWith_K (h₀ := X.base) I.ok.mod.kin TC.kC ?_ he hpl
  rw [he]
  show wpAny _ _ (spliced ((false, eval a X.env) :: backTo pos (starEach [] X.env))) _ _ s
  refine Calls.spliced_cons (thn (ha.run pins s σ H _ I h) fun u s1 ⟨v, H1, I1, r1, q1⟩ => ?_)
  refine Calls.spliced_nil ⟨I1.kIn, ?_⟩
  show wpAny _ _ (call (.ref C) [u]) _ _ _
  have hlim := I1.nolimit
  obtain ⟨mb, hb1, hb2⟩ := I1.ok.mod.blt
  have hmb : mb "super" = some (.type "super") := (hb2 _ (by decide +kernel)).trans (by first | rfl | kernel_rfl)
  have hgl := I1.ok.mod.glob.keeps I1.bk
  have hbl := hb1.keeps I1.bk
  have hin := I1.kIn
  obtain ⟨hp, g, dr, tk, os⟩ := s1
  refine wpAny_call (VX.own_made2 T TC hin hlim hgl hbl hmb hdp fun h' tk' e d M => ?_)
  refine ⟨?_, ?_⟩
  rotate_left
  · intro a2 oe2 vs2 ea hg2 hd2
    obtain ⟨t1, hoe⟩ := M.obj
    cases ea
    have hg2 : h'.get? e = some oe2 := hg2
    rw [hoe] at hg2
    cases hg2
    cases hd2
    show (4 : Nat) < 6
    decide
  show L2N.MkP X pins σ Q (.ref e) ⟨h', g, dr, tk', os⟩
  obtain ⟨t1, hoe⟩ := M.obj
  have hns := M.ns
  obtain ⟨G', g1, g2⟩ := restrict h' fun b => decide (b ≠ e)
  have gk : ∀ b, b ≠ e → G'.get? b = h'.get? b := fun b hb => g1 b (decide_eq_true hb)
  have ge : G'.get? e = none := g2 e (by simp)
  have old : ∀ b o, hp.get? b = some o → G'.get? b = some o := fun b o q => (gk b (Nat.ne_of_lt (Nat.lt_of_lt_of_le (Heap.lt_size q) M.new))).trans (M.keep b o q)
  have ob : ObjOk X.prog X.w (upd H1 d (.xd [(("value" : Str), v)])) G' d (.xd [(("value" : Str), v)]) :=
    ⟨_, hns.at (fun o q => (gk d M.dne).trans q), fun f => relO_val r1 f⟩
  have J : Inv X pins σ (upd H1 d (.xd [(("value" : Str), v)])) ⟨G', g, dr, tk', os⟩ := I1.laid (t' := tk') old M.dbig ob
  refine ⟨e, _, _, ⟨G', g, dr, tk', os⟩, _, .ref C, some d, rfl, J, fun b o q => ?_, ge, hoe, ⟨rfl, rfl, fun vs e => by cases e; rfl⟩, rfl, rfl, ?_, rfl, I1.bare, raises_own TC.exC TC.tyC, q1 d (I1.hok.fresh M.dbig)⟩
  · by_cases hb : b = e
    · have q' : G'.get? b = some o := q
      rw [hb, ge] at q'; cases q'
    · exact (gk b hb).symm.trans q
  · rw [upd_ne (Ne.symm M.dne)]
    exact I1.hok.fresh M.new
end
/-- what the suite asks -/
def tsRF (C1 Ck : Addr) (e t : Nat) (W : WX) : Addr → Value → Option Addr → TS := fun a cls _ _ σ H => cls = .ref C1 ∧ σ[e]? = some (some (.ref a)) ∧ tMkX Ck (tVar t) σ H fun cls d H' => W cls d σ H'
theorem pss_rf {X : Cx} {C1 Ck a : Addr} {e t : Nat} {W : WX} {oe : Obj} {cls : Value} {d : Option Addr} {pn : List (Addr × Obj)} {xs : Value → Shared → Prop} {ex : Expr} {n : Str} {cpos pos : Pos} (hz : L2N.Zn cls d oe) (hf : ∃ vs, oe.data = .fields vs) (hs1 : PySem.W.subIn X.K (.ref C1) (.type "BaseException") = some true) (hi : X.N[e]? = some n)
    (hln : X.env.scope.names.lookup n = some .local) (hdb : (n == ("__debug__" : Str)) = false) (tk : L2.Takes (L2X.asX X a ((a, oe) :: pn) xs) W) (he : L2H.PMk5 (L2X.asX X a ((a, oe) :: pn) xs) ex (tMkX Ck (tVar t))) : PSs (L2X.asX X a ((a, oe) :: pn) xs) [.Raise (some ex) (some (.Name n cpos)) pos] (tsRF C1 Ck e t W a cls d) := by
  refine ⟨fun pins s σ H D I h => ?_⟩
  obtain ⟨hc, h⟩ := h
  subst hc
  obtain ⟨vs, hd⟩ := hf
  exact (pss_one (L2H.ps_raiseHE (X := L2X.asX X a ((a, oe) :: pn) xs) (i := e) (n := n) List.mem_cons_self rfl hd (hz.2.2 vs hd) hz.1 hs1 hi hln hdb tk he)).run pins s σ H D I h
theorem dpt_of {k : Nat} {A : Around} (hr : Room k A) : A.depth + 1 < recursionLimit := by
  have := hr.dp
  omega
/-- try: x = Needle(*y) except .. as e: raise Unreadable(t) from e -/
def mTryRF (i s e t k : Nat) : MS := fun M env => (i < env.length ∧ e < env.length ∧ t ≠ e) ∧ match env[s]? with
  | some (some (.lst [.int a, .int b, .int c])) => ((1 ≤ a ∧ a ≤ b ∧ 0 ≤ c ∧ c < b ∧ b < 10 ^ 60) ∧ M.nx (env.set i (some (.ndl a b c)))) ∨ (¬ (1 ≤ a ∧ a ≤ b ∧ 0 ≤ c ∧ c < b) ∧ match env[t]? with
    | some (some v) => M.rt (.exo k v (env.set e none))
    | _ => False)
  | _ => False
theorem vs_tryRF {g : Gm} {rk : Bool} {W : WX} {X : Cx} {ol : List Nat} {i s e t k : Nat} {cv : Value} {st : Stmt} (hx : PySem.W.exmOne X.K (.ref (g.C.xc 1)) cv = some true)
    (hp : PS X st (fun D σ H => tAsg (tMakeXS X.K (wAs X.K cv e (tsRF (g.C.xc 1) (g.C.xc k) e t W) W D) g.C.nd (spInitX g.C.nd (g.C.xc 1)) (tVar s)) (gName i) D σ H)) : VS g rk (some W) ol X st (mTryRF i s e t k) [] [] 0 := by
  refine ⟨_, hp, fun H0 A0 gs σ H env S B M D' r pb hb hm br => ?_⟩
  obtain ⟨⟨hi, he, hte⟩, hm⟩ := hm
  split at hm
  · rename_i a b c hs
    obtain ⟨v, g1, g2⟩ := r.rl.rep s _ hs
    cases g2 with
    | lst sl el rl =>
      rename_i l vs
      refine ⟨_, g1, l, vs, rfl, .inr (SqL.of el), fun x dx hx1 hdx ne => ?_⟩
      have A : AftL g [s] S H H B 0 vs [.int a, .int b, .int c] := ⟨Fr.refl, pb, rl.mono fun y u => ⟨.inr ⟨s, List.mem_singleton.mpr rfl, u⟩, r.rl.dom s y u⟩⟩
      refine makeX_use (Q := fun v H' => gName i v σ H' D'.nx) (E := fun cls d H' => wAs X.K cv e (tsRF (g.C.xc 1) (g.C.xc k) e t W) W D' cls d σ H') (Qd := fun d => (∃ a b c, d = .ndl a b c ∧ M.nx (env.set i (some d))) ∨ ((∃ v en, d = .exo 1 v en) ∧ match env[t]? with
        | some (some v) => M.rt (.exo k v (env.set e none))
        | _ => False)) A ?_ (fun v H1 d A1 z => ?_) (fun k1 v1 en cls d H1 F1 pb1 x1 z => ?_) x dx hx1 hdx ne
      · rcases hm with ⟨h1, h2⟩ | ⟨h1, h2⟩
        · exact .inl ⟨h1, .inl ⟨a, b, c, rfl, h2⟩⟩
        · exact .inr ⟨h1, .inr ⟨⟨_, _, rfl⟩, h2⟩⟩
      · rcases z with ⟨a1, b1, c1, rfl, z⟩ | ⟨⟨v1, en, rfl⟩, _⟩
        · have rp := A1.rep
          refine br.nx _ _ _ _ ((r.go A1.fr).put (i := i) (own' := []) rp (fun y u => ⟨u.2, sr_al r u⟩) (fun j hj => (by cases hj)) (fun j hj => (by cases hj)) (fun hj => (by cases hj))) (A1.pb.mono (by omega)) z
        · have rp := A1.rep
          cases rp
      · rcases z with ⟨a1, b1, c1, q, _⟩ | ⟨⟨v2, en2, q⟩, z⟩
        · cases q
        cases q
        obtain ⟨da, u, rfl, rfl, h3, h4, h5, h6⟩ := x1
        refine ⟨true, hx, fun _ a1 na1 => ⟨rfl, List.getElem?_set_self (by rw [r.rl.len]; exact he), ?_⟩, fun z => (nomatch z)⟩
        split at z
        · rename_i tv ht
          obtain ⟨w, k1, k2⟩ := r.rl.rep t _ ht
          refine ⟨w, by rw [List.getElem?_set_ne (Ne.symm hte)]; exact k1, fun d2 hd2 => ?_⟩
          have F2 : Fr g H (upd H1 d2 (.xd [("value", w)])) := F1.trans (Fr.of (same_new hd2))
          have np := pb1.not hd2
          have r2 := r.go F2
          refine br.ex W rfl _ _ (env.set e none) S k tv _ _ ⟨⟨by rw [List.length_set, List.length_set, r2.rl.len], fun j d ej => ?_, r2.rl.dom⟩, r2.fr, r2.al, r2.gh, fun j hj => (by cases hj)⟩ ((pb1.new hd2).mono (by omega)) ⟨d2, w, rfl, rfl, upd_same, r.fr.back np (F1.back np hd2), np, k2.goN fun y o q1 q2 => ⟨⟨r.al t y q1, ?_, (r.rl.dom t y q1).2⟩, F2 y o (r.rl.dom t y q1).2 q2⟩⟩ z
          · by_cases cj : j = e
            · subst cj
              rw [List.getElem?_set_self he] at ej
              cases ej
            · rw [List.getElem?_set_ne (Ne.symm cj)] at ej
              obtain ⟨u1, q1, q2⟩ := r2.rl.rep j d ej
              exact ⟨u1, by rw [List.getElem?_set_ne (Ne.symm cj)]; exact q1, q2⟩
          · exact F2.dom y (r.rl.dom t y q1).2 (r.rl.dom t y q1).1
        · exact z.elim
  · exact hm.elim
end VL

set_option Elab.async false
namespace VL
end VL

set_option Elab.async false
set_option linter.all false
set_option maxRecDepth 100000
set_option maxHeartbeats 4000000
namespace LW
open PySem PySem.Spec PyProof.Rows L2 VL
def top (i : Nat) : Stmt := PySem.Challenge.pw_slowneedles_k62_needles_in_texts.main.body.getD i (.Pass ⟨0, 0, 0, 0⟩)
abbrev s_l_pool : Stmt := top 16
theorem sc_l_pool : FnScope ["_law_script", "_law_spot", "_law_cell"] ["_law_script", "_law_spot"] (defScope s_l_pool) := ⟨rfl, rfl, rfl, by decide +kernel, rfl, by decide +kernel, by decide +kernel⟩
abbrev s_Needle___eq__ : Stmt := inClass (top 7) 1
theorem sc_Needle___eq__ : FnScope ["self", "other"] ["self", "other"] (defScope s_Needle___eq__) := ⟨rfl, rfl, rfl, by decide +kernel, rfl, by decide +kernel, by decide +kernel⟩
abbrev s_l_form : Stmt := top 19
theorem sc_l_form : FnScope ["_law_kind_here", "_law_one", "_law_two"] ["_law_kind_here"] (defScope s_l_form) := ⟨rfl, rfl, rfl, by decide +kernel, rfl, by decide +kernel, by decide +kernel⟩
abbrev s_number_in : Stmt := top 13
theorem sc_number_in : FnScope ["text", "digits", "sign"] ["text"] (defScope s_number_in) := ⟨rfl, rfl, rfl, by decide +kernel, rfl, by decide +kernel, by decide +kernel⟩
abbrev s_common_divisor : Stmt := top 6
theorem sc_common_divisor : FnScope ["one", "other"] ["one", "other"] (defScope s_common_divisor) := ⟨rfl, rfl, rfl, by decide +kernel, rfl, by decide +kernel, by decide +kernel⟩
abbrev s_Needle___init__ : Stmt := inClass (top 7) 0
theorem sc_Needle___init__ : FnScope ["self", "share", "parts", "more", "divisor"] ["self", "share", "parts", "more"] (defScope s_Needle___init__) := ⟨rfl, rfl, rfl, by decide +kernel, rfl, by decide +kernel, by decide +kernel⟩
abbrev s_Needle_share : Stmt := inClass (top 7) 2
theorem sc_Needle_share : FnScope ["self"] ["self"] (defScope s_Needle_share) := ⟨rfl, rfl, rfl, by decide +kernel, rfl, by decide +kernel, by decide +kernel⟩
abbrev s_Needle_parts : Stmt := inClass (top 7) 3
theorem sc_Needle_parts : FnScope ["self"] ["self"] (defScope s_Needle_parts) := ⟨rfl, rfl, rfl, by decide +kernel, rfl, by decide +kernel, by decide +kernel⟩
abbrev s_Needle_more : Stmt := inClass (top 7) 4
theorem sc_Needle_more : FnScope ["self"] ["self"] (defScope s_Needle_more) := ⟨rfl, rfl, rfl, by decide +kernel, rfl, by decide +kernel, by decide +kernel⟩
abbrev s_show_needle : Stmt := top 9
theorem sc_show_needle : FnScope ["needle"] ["needle"] (defScope s_show_needle) := ⟨rfl, rfl, rfl, by decide +kernel, rfl, by decide +kernel, by decide +kernel⟩
abbrev s_read_needle : Stmt := top 14
theorem sc_read_needle : FnScope ["text", "ahead", "plus", "behind", "share", "bar", "parts", "integers", "part", "found", "error"] ["text"] (defScope s_read_needle) := ⟨rfl, rfl, rfl, by decide +kernel, rfl, by decide +kernel, by decide +kernel⟩
abbrev s_Needle_plain : Stmt := inClass (top 7) 5
theorem sc_Needle_plain : FnScope ["self", "share", "parts", "more"] ["self"] (defScope s_Needle_plain) := ⟨rfl, rfl, rfl, by decide +kernel, rfl, by decide +kernel, by decide +kernel⟩
abbrev s_l_draw : Stmt := top 17
theorem sc_l_draw : FnScope ["_law_pool_here", "_law_many", "_law_drawn", "_law_mixed"] ["_law_pool_here", "_law_many"] (defScope s_l_draw) := ⟨rfl, rfl, rfl, by decide +kernel, rfl, by decide +kernel, by decide +kernel⟩
abbrev s_l_great_right : Stmt := top 27
theorem sc_l_great_right : FnScope ["_law_pool_here", "_law_many", "_law_often", "_law_share_here", "_law_rest", "_law_form_here", "_law_wording", "_law_told_here", "_law_plain_now", "_law_twin"] ["_law_pool_here"] (defScope s_l_great_right) := ⟨rfl, rfl, rfl, by decide +kernel, rfl, by decide +kernel, by decide +kernel⟩
abbrev s_l_kind : Stmt := top 18
theorem sc_l_kind : FnScope ["_law_pool_here", "_law_parts_here", "_law_share_here", "_law_often", "_law_rest"] ["_law_pool_here"] (defScope s_l_kind) := ⟨rfl, rfl, rfl, by decide +kernel, rfl, by decide +kernel, by decide +kernel⟩
abbrev s_l_made : Stmt := top 20
theorem sc_l_made : FnScope ["_law_kind_here"] ["_law_kind_here"] (defScope s_l_made) := ⟨rfl, rfl, rfl, by decide +kernel, rfl, by decide +kernel, by decide +kernel⟩
abbrev s_l_longer : Stmt := top 23
theorem sc_l_longer : FnScope ["_law_pool_here", "_law_wording", "_law_begins", "_law_spot", "_law_begin", "_law_end"] ["_law_pool_here", "_law_wording"] (defScope s_l_longer) := ⟨rfl, rfl, rfl, by decide +kernel, rfl, by decide +kernel, by decide +kernel⟩
abbrev s_l_changed : Stmt := top 24
theorem sc_l_changed : FnScope ["_law_pool_here", "_law_wording", "_law_size", "_law_way", "_law_signs", "_law_spot", "_law_sign", "_law_menu", "_law_glue", "_law_some", "_law_one", "_law_two", "_law_part"] ["_law_pool_here", "_law_wording"] (defScope s_l_changed) := ⟨rfl, rfl, rfl, by decide +kernel, rfl, by decide +kernel, by decide +kernel⟩
abbrev s_l_told : Stmt := top 26
theorem sc_l_told : FnScope ["_law_wording", "_law_told_here", "e"] ["_law_wording"] (defScope s_l_told) := ⟨rfl, rfl, rfl, by decide +kernel, rfl, by decide +kernel, by decide +kernel⟩
abbrev s_l_integer : Stmt := top 21
theorem sc_l_integer : FnScope ["_law_wording", "_law_digits", "_law_sign"] ["_law_wording"] (defScope s_l_integer) := ⟨rfl, rfl, rfl, by decide +kernel, rfl, by decide +kernel, by decide +kernel⟩
abbrev s_l_integers : Stmt := top 22
theorem sc_l_integers : FnScope ["_law_some", "_law_found", "_law_one"] ["_law_some"] (defScope s_l_integers) := ⟨rfl, rfl, rfl, by decide +kernel, rfl, by decide +kernel, by decide +kernel⟩
abbrev s_l_due : Stmt := top 25
theorem sc_l_due : FnScope ["_law_wording", "_law_ahead", "_law_glue", "_law_behind", "_law_some", "_law_found"] ["_law_wording"] (defScope s_l_due) := ⟨rfl, rfl, rfl, by decide +kernel, rfl, by decide +kernel, by decide +kernel⟩
abbrev s_l_right : Stmt := top 28
theorem sc_l_right : FnScope ["_law_pool_here", "_law_kind_here", "_law_made_here", "_law_wording", "_law_turn", "_law_bent"] ["_law_pool_here"] (defScope s_l_right) := ⟨rfl, rfl, rfl, by decide +kernel, rfl, by decide +kernel, by decide +kernel⟩
abbrev s_law : Stmt := top 29
theorem sc_law : FnScope ["_law_script", "_law_spot", "_law_pool_here", "_law_turn"] ["_law_script"] (defScope s_law) := ⟨rfl, rfl, rfl, by decide +kernel, rfl, by decide +kernel, by decide +kernel⟩
abbrev P : Program := PySem.Challenge.pw_slowneedles_k62_needles_in_texts
abbrev s_XI : Stmt := inClass (top 2) 0
theorem it_XI : VX.InitText s_XI := ⟨⟨_, _, _, _, _, _, _, _, _, _, rfl, fun env => ⟨_, by with_unfolding_all rfl⟩⟩, by first | rfl | decide +kernel, by first | rfl | decide +kernel, by first | rfl | decide +kernel, by first | rfl | decide +kernel, rfl, rfl, rfl, by decide +kernel, ⟨_, rfl, rfl⟩, fun _ _ _ _ _ _ _ _ _ => rfl⟩
def kx_1 (k : Nat) : Bool := if k = 1 then true else false
def kx_10 (k : Nat) : Bool := if k = 1 then false else true
/-- what the top has written -/
structure Tx (K : PySem.W.Frag) (mg : Str → Option Value) where
  C : Kl
  tb : C.tb = false
  f_l_pool : Addr
  d_l_pool : FuncData
  F_l_pool : Fun K "_law_pool" "_law_pool" s_l_pool f_l_pool d_l_pool
  g_l_pool : mg "_law_pool" = some (.ref f_l_pool)
  f_Needle___eq__ : Addr
  d_Needle___eq__ : FuncData
  F_Needle___eq__ : Fun K "__eq__" "Needle.__eq__" s_Needle___eq__ f_Needle___eq__ d_Needle___eq__
  m_Needle___eq__ : Meth K C.nd "__eq__" f_Needle___eq__
  f_l_form : Addr
  d_l_form : FuncData
  F_l_form : Fun K "_law_form" "_law_form" s_l_form f_l_form d_l_form
  g_l_form : mg "_law_form" = some (.ref f_l_form)
  f_number_in : Addr
  d_number_in : FuncData
  F_number_in : Fun K "number_in" "number_in" s_number_in f_number_in d_number_in
  g_number_in : mg "number_in" = some (.ref f_number_in)
  f_common_divisor : Addr
  d_common_divisor : FuncData
  F_common_divisor : Fun K "common_divisor" "common_divisor" s_common_divisor f_common_divisor d_common_divisor
  g_common_divisor : mg "common_divisor" = some (.ref f_common_divisor)
  f_Needle___init__ : Addr
  d_Needle___init__ : FuncData
  F_Needle___init__ : Fun K "__init__" "Needle.__init__" s_Needle___init__ f_Needle___init__ d_Needle___init__
  f_Needle_share : Addr
  d_Needle_share : FuncData
  F_Needle_share : Fun K "share" "Needle.share" s_Needle_share f_Needle_share d_Needle_share
  q_Needle_share : Addr
  p_Needle_share : PropOf K C.nd "share" q_Needle_share f_Needle_share
  f_Needle_parts : Addr
  d_Needle_parts : FuncData
  F_Needle_parts : Fun K "parts" "Needle.parts" s_Needle_parts f_Needle_parts d_Needle_parts
  q_Needle_parts : Addr
  p_Needle_parts : PropOf K C.nd "parts" q_Needle_parts f_Needle_parts
  f_Needle_more : Addr
  d_Needle_more : FuncData
  F_Needle_more : Fun K "more" "Needle.more" s_Needle_more f_Needle_more d_Needle_more
  q_Needle_more : Addr
  p_Needle_more : PropOf K C.nd "more" q_Needle_more f_Needle_more
  f_show_needle : Addr
  d_show_needle : FuncData
  F_show_needle : Fun K "show_needle" "show_needle" s_show_needle f_show_needle d_show_needle
  g_show_needle : mg "show_needle" = some (.ref f_show_needle)
  f_read_needle : Addr
  d_read_needle : FuncData
  F_read_needle : Fun K "read_needle" "read_needle" s_read_needle f_read_needle d_read_needle
  g_read_needle : mg "read_needle" = some (.ref f_read_needle)
  f_Needle_plain : Addr
  d_Needle_plain : FuncData
  F_Needle_plain : Fun K "plain" "Needle.plain" s_Needle_plain f_Needle_plain d_Needle_plain
  m_Needle_plain : Meth K C.nd "plain" f_Needle_plain
  f_l_draw : Addr
  d_l_draw : FuncData
  F_l_draw : Fun K "_law_draw" "_law_draw" s_l_draw f_l_draw d_l_draw
  g_l_draw : mg "_law_draw" = some (.ref f_l_draw)
  f_l_great_right : Addr
  d_l_great_right : FuncData
  F_l_great_right : Fun K "_law_great_right" "_law_great_right" s_l_great_right f_l_great_right d_l_great_right
  g_l_great_right : mg "_law_great_right" = some (.ref f_l_great_right)
  f_l_kind : Addr
  d_l_kind : FuncData
  F_l_kind : Fun K "_law_kind" "_law_kind" s_l_kind f_l_kind d_l_kind
  g_l_kind : mg "_law_kind" = some (.ref f_l_kind)
  f_l_made : Addr
  d_l_made : FuncData
  F_l_made : Fun K "_law_made" "_law_made" s_l_made f_l_made d_l_made
  g_l_made : mg "_law_made" = some (.ref f_l_made)
  f_l_longer : Addr
  d_l_longer : FuncData
  F_l_longer : Fun K "_law_longer" "_law_longer" s_l_longer f_l_longer d_l_longer
  g_l_longer : mg "_law_longer" = some (.ref f_l_longer)
  f_l_changed : Addr
  d_l_changed : FuncData
  F_l_changed : Fun K "_law_changed" "_law_changed" s_l_changed f_l_changed d_l_changed
  g_l_changed : mg "_law_changed" = some (.ref f_l_changed)
  f_l_told : Addr
  d_l_told : FuncData
  F_l_told : Fun K "_law_told" "_law_told" s_l_told f_l_told d_l_told
  g_l_told : mg "_law_told" = some (.ref f_l_told)
  f_l_integer : Addr
  d_l_integer : FuncData
  F_l_integer : Fun K "_law_integer" "_law_integer" s_l_integer f_l_integer d_l_integer
  g_l_integer : mg "_law_integer" = some (.ref f_l_integer)
  f_l_integers : Addr
  d_l_integers : FuncData
  F_l_integers : Fun K "_law_integers" "_law_integers" s_l_integers f_l_integers d_l_integers
  g_l_integers : mg "_law_integers" = some (.ref f_l_integers)
  f_l_due : Addr
  d_l_due : FuncData
  F_l_due : Fun K "_law_due" "_law_due" s_l_due f_l_due d_l_due
  g_l_due : mg "_law_due" = some (.ref f_l_due)
  f_l_right : Addr
  d_l_right : FuncData
  F_l_right : Fun K "_law_right" "_law_right" s_l_right f_l_right d_l_right
  g_l_right : mg "_law_right" = some (.ref f_l_right)
  f_law : Addr
  d_law : FuncData
  F_law : Fun K "law" "law" s_law f_law d_law
  g_law : mg "law" = some (.ref f_law)
  ownN : OwnT K C.nd
  ownC : false = true → OwnT K C.ch
  isN : IsiF K false C isNdl (.ref C.nd)
  nfN : ∀ d t, tyD false C d = some t → PySem.W.notFirst K C.nd t = true
  eqN : EqT K C.nd f_Needle___eq__
  g_Needle : mg "Needle" = some (.ref C.nd)
  cl : Cls K C.nd
  mkN : Mk K C.nd f_Needle___init__
  n_passed : NoAttr K C.nd "passed"
  n_form : NoAttr K C.nd "form"
  D0 : Addr
  f_XI : Addr
  sup : VX.SupTxt K P mg s_XI D0 f_XI
  xt : ∀ k, VX.XcTxt K (C.xc k) D0 f_XI
  xo : ∀ k, KitO K (C.xc k)
  xkv : ∀ k, PySem.W.kitOne K (.ref (C.xc k)) (.type "ValueError") = some true
  r_1 : mg "InvalidNeedle" = some (.ref (C.xc 1))
  r_10 : mg "Unreadable" = some (.ref (C.xc 10))
  x_1 : Addr
  g_InvalidNeedle : mg "InvalidNeedle" = some (.ref x_1)
  xk_1 : ∀ k, PySem.W.kitOne K (.ref (C.xc k)) (.ref x_1) = some (kx_1 k)
  x_10 : Addr
  g_Unreadable : mg "Unreadable" = some (.ref x_10)
  xk_10 : ∀ k, PySem.W.kitOne K (.ref (C.xc k)) (.ref x_10) = some (kx_10 k)
  xm_1 : ∀ k, PySem.W.exmOne K (.ref (C.xc k)) (.ref x_1) = some (kx_1 k)
  xm_10 : ∀ k, PySem.W.exmOne K (.ref (C.xc k)) (.ref x_10) = some (kx_10 k)
  b_ValueError : mg "ValueError" = none
  b_abs : mg "abs" = none
  b_all : mg "all" = none
  b_int : mg "int" = none
  b_isinstance : mg "isinstance" = none
  b_len : mg "len" = none
  b_max : mg "max" = none
  b_min : mg "min" = none
  b_range : mg "range" = none
  b_repr : mg "repr" = none
  b_str : mg "str" = none
  b_tuple : mg "tuple" = none
  t_DIGITS : Tok
  c_DIGITS : mg "DIGITS" = some (.str "0123456789" t_DIGITS)
  t_MOST_DIGITS : Tok
  c_MOST_DIGITS : mg "MOST_DIGITS" = some (.int (40) t_MOST_DIGITS)
theorem Tx.xf {K : PySem.W.Frag} {mg : Str → Option Value} (T : Tx K mg) (k : Nat) : XfC K (T.C.xc k) := ⟨(T.xt k).ga, (T.xt k).gg, (T.xt k).exC, (T.xt k).hdC⟩
section
variable {w : World} {K : PySem.W.Frag} {mg : Str → Option Value} {base : Heap}
theorem b_l_pool (T : Tx K mg) : Binds K T.d_l_pool ["_law_script", "_law_spot"] [] := T.F_l_pool.binds fun _ _ _ _ _ _ us hl => match us, hl with | [_, _], _ => rfl
theorem b_Needle___eq__ (T : Tx K mg) : Binds K T.d_Needle___eq__ ["self", "other"] [] := T.F_Needle___eq__.binds fun _ _ _ _ _ _ us hl => match us, hl with | [_, _], _ => rfl
theorem b_l_form (T : Tx K mg) : Binds K T.d_l_form ["_law_kind_here"] [] := T.F_l_form.binds fun _ _ _ _ _ _ us hl => match us, hl with | [_], _ => rfl
theorem b_number_in (T : Tx K mg) : Binds K T.d_number_in ["text"] [] := T.F_number_in.binds fun _ _ _ _ _ _ us hl => match us, hl with | [_], _ => rfl
theorem b_common_divisor (T : Tx K mg) : Binds K T.d_common_divisor ["one", "other"] [] := T.F_common_divisor.binds fun _ _ _ _ _ _ us hl => match us, hl with | [_, _], _ => rfl
theorem b_Needle___init__ (T : Tx K mg) : Binds K T.d_Needle___init__ ["self", "share", "parts", "more"] [] := T.F_Needle___init__.binds fun _ _ _ _ _ _ us hl => match us, hl with | [_, _, _, _], _ => rfl
theorem b_Needle_share (T : Tx K mg) : Binds K T.d_Needle_share ["self"] [] := T.F_Needle_share.binds fun _ _ _ _ _ _ us hl => match us, hl with | [_], _ => rfl
theorem b_Needle_parts (T : Tx K mg) : Binds K T.d_Needle_parts ["self"] [] := T.F_Needle_parts.binds fun _ _ _ _ _ _ us hl => match us, hl with | [_], _ => rfl
theorem b_Needle_more (T : Tx K mg) : Binds K T.d_Needle_more ["self"] [] := T.F_Needle_more.binds fun _ _ _ _ _ _ us hl => match us, hl with | [_], _ => rfl
theorem b_show_needle (T : Tx K mg) : Binds K T.d_show_needle ["needle"] [] := T.F_show_needle.binds fun _ _ _ _ _ _ us hl => match us, hl with | [_], _ => rfl
theorem b_read_needle (T : Tx K mg) : Binds K T.d_read_needle ["text"] [] := T.F_read_needle.binds fun _ _ _ _ _ _ us hl => match us, hl with | [_], _ => rfl
theorem b_Needle_plain (T : Tx K mg) : Binds K T.d_Needle_plain ["self"] [] := T.F_Needle_plain.binds fun _ _ _ _ _ _ us hl => match us, hl with | [_], _ => rfl
theorem b_l_draw (T : Tx K mg) : Binds K T.d_l_draw ["_law_pool_here", "_law_many"] [] := T.F_l_draw.binds fun _ _ _ _ _ _ us hl => match us, hl with | [_, _], _ => rfl
theorem b_l_great_right (T : Tx K mg) : Binds K T.d_l_great_right ["_law_pool_here"] [] := T.F_l_great_right.binds fun _ _ _ _ _ _ us hl => match us, hl with | [_], _ => rfl
theorem b_l_kind (T : Tx K mg) : Binds K T.d_l_kind ["_law_pool_here"] [] := T.F_l_kind.binds fun _ _ _ _ _ _ us hl => match us, hl with | [_], _ => rfl
theorem b_l_made (T : Tx K mg) : Binds K T.d_l_made ["_law_kind_here"] [] := T.F_l_made.binds fun _ _ _ _ _ _ us hl => match us, hl with | [_], _ => rfl
theorem b_l_longer (T : Tx K mg) : Binds K T.d_l_longer ["_law_pool_here", "_law_wording"] [] := T.F_l_longer.binds fun _ _ _ _ _ _ us hl => match us, hl with | [_, _], _ => rfl
theorem b_l_changed (T : Tx K mg) : Binds K T.d_l_changed ["_law_pool_here", "_law_wording"] [] := T.F_l_changed.binds fun _ _ _ _ _ _ us hl => match us, hl with | [_, _], _ => rfl
theorem b_l_told (T : Tx K mg) : Binds K T.d_l_told ["_law_wording"] [] := T.F_l_told.binds fun _ _ _ _ _ _ us hl => match us, hl with | [_], _ => rfl
theorem b_l_integer (T : Tx K mg) : Binds K T.d_l_integer ["_law_wording"] [] := T.F_l_integer.binds fun _ _ _ _ _ _ us hl => match us, hl with | [_], _ => rfl
theorem b_l_integers (T : Tx K mg) : Binds K T.d_l_integers ["_law_some"] [] := T.F_l_integers.binds fun _ _ _ _ _ _ us hl => match us, hl with | [_], _ => rfl
theorem b_l_due (T : Tx K mg) : Binds K T.d_l_due ["_law_wording"] [] := T.F_l_due.binds fun _ _ _ _ _ _ us hl => match us, hl with | [_], _ => rfl
theorem b_l_right (T : Tx K mg) : Binds K T.d_l_right ["_law_pool_here"] [] := T.F_l_right.binds fun _ _ _ _ _ _ us hl => match us, hl with | [_], _ => rfl
theorem b_law (T : Tx K mg) : Binds K T.d_law ["_law_script"] [] := T.F_law.binds fun _ _ _ _ _ _ us hl => match us, hl with | [_], _ => rfl
theorem b_init (T : Tx K mg) : Binds K T.d_Needle___init__ ["self", "share", "parts", "more"] [] := b_Needle___init__ T
def spPool (K : PySem.W.Frag) : Sp := fun vs H Q _ => ∃ (a : Addr) (ns : List Int) (spot : Int), vs = [.ref a, .int spot] ∧ SqL K H a (ns.map V.int) ∧ ns.length ≤ 63 ∧ 0 ≤ spot ∧ spot < 1000 ∧
  ∀ p H', Same H H' → H p = none → (∃ p0 p1 : Int, H' p = some (.lst [.int p0, .int p1, .int 0]) ∧ p1.natAbs < 2 ^ 100) → Q (.ref p) H'
theorem ok_l_pool (T : Tx K mg) : FnOk P w K mg base CX0 1 T.f_l_pool T.d_l_pool ["_law_script", "_law_spot"] (spPool K) := by
  refine T.F_l_pool.ok sc_l_pool (fun vs H Q E h => ?_) (fun cdv A outer s H vs Q E hr h => ?_)
  · obtain ⟨a, ns, spot, rfl, _⟩ := h
    rfl
  · obtain ⟨a, ns, spot, rfl, hS, hl, h0, h1, k⟩ := h
    refine ⟨_, pss_cons (ps_set (i := 2) sc_l_pool.nd rfl (Or.inl rfl) pe_int)
      (pss_cons (ps_if (pt_cmpR op_lt (pv 1) (pe_callB call_len_seq (by rfl) T.b_len (by decide +kernel) (pa_cons (pv 0) pa_nil)) (nomark _)) (pss_one (ps_set (i := 2) sc_l_pool.nd rfl (Or.inl rfl) (pe_ix ix_list (pv 0) (pv 1) (fun _ _ => rfl)))) pss_nil)
      (pss_one (ps_ret (pe_lst (pa_cons (pe_callB (call_max2 rfl) (by rfl) T.b_max (by decide +kernel) (pa_cons pe_int (pa_cons (pe_op op_sub (pe_callB call_abs (by rfl) T.b_abs (by decide +kernel) (pa_cons (pv 2) pa_nil)) (pe_op op_powW pe_int pe_int)) pa_nil)))
        (pa_cons (pe_op op_add (pe_op op_mod (pe_callTy call_int1 (by rfl) T.b_int (by decide +kernel) (pa_cons (pv 2) pa_nil)) pe_int) (pe_op op_mul pe_int (pe_op op_add (pv 1) pe_int))) (pa_cons pe_int pa_nil))))))), ?_⟩
    have tail : ∀ c : Int, (tRet (tLst (tCons (tCB (fun xs H Q => ∃ i j, xs = [V.int i, V.int j] ∧ Q (.int (if j > i then j else i)) H) (tCons (tC (.int 0)) (tCons (tOp (rI0 fun i j => .int (i - j)) (tCB (fun xs H Q => ∃ i, xs = [V.int i] ∧ Q (.int (if i < 0 then -i else i)) H) (tCons (tVar 2) tNil)) (tOp (rI POk fun i j => .int (i ^ j.toNat)) (tC (.int 10)) (tC (.int 18)))) tNil)))
        (tCons (tOp (rI0 fun i j => .int (i + j)) (tOp (rI (fun _ j => 0 < j) fun i j => .int (i % j)) (tCB (fun xs H Q => (∃ i, xs = [V.int i] ∧ Q (.int i) H) ∨ ∃ k, xs = [V.bl k] ∧ Q (.int (if k then 1 else 0)) H) (tCons (tVar 2) tNil)) (tC (.int 2305843009213693951))) (tOp (rI CMul fun i j => .int (i * j)) (tC (.int 7368787)) (tOp (rI0 fun i j => .int (i + j)) (tVar 1) (tC (.int 1))))) (tCons (tC (.int 0)) tNil))))) { nx := fun _ H' => Q .non H', rt := Q } [some (.ref a), some (.int spot), some (.int c)] H := fun c => by
      refine ⟨_, rfl, _, rfl, _, _, rfl, rfl, ⟨by decide, by decide +kernel⟩, _, _, rfl, rfl, _, _, rfl, ?_⟩
      refine ⟨_, rfl, .inl ⟨_, rfl, _, _, rfl, rfl, (by show (0 : Int) < 2305843009213693951; decide), _, rfl, _, _, rfl, rfl, _, _, rfl, rfl, .inl ⟨by decide, by decide⟩, _, _, rfl, rfl, (by show 3 ≤ sizeLine; decide), fun p hp => ?_⟩⟩
      refine k p _ (same_new hp) hp ⟨_, _, upd_same, ?_⟩
      have g0 := Int.emod_nonneg c (show (2305843009213693951 : Int) ≠ 0 by decide)
      have g1 := Int.emod_lt_of_pos c (show (0 : Int) < 2305843009213693951 by decide)
      have g2 : (2305843009213693951 + 7368787 * 1001 : Nat) < 2 ^ 100 := by decide
      omega
    refine ⟨_, rfl, _, rfl, a, _, rfl, .inl hS, _, _, rfl, rfl, _, rfl, ?_⟩
    refine ite2 (fun c => ?_) (fun c => ?_)
    · have c2 : spot < ((ns.map V.int).length : Int) := by simpa using c
      rw [List.length_map] at c2
      have hi : spot.toNat < ns.length := by omega
      refine ⟨_, rfl, _, rfl, a, _, _, V.int ns[spot.toNat], rfl, rfl, hS, ?_, tail _⟩
      unfold atI ixN
      rw [List.length_map, if_pos h0, if_pos c2]
      simp [hi]
    · exact tail 0

def m_Needle___eq__ : MS := (mRet (mAndV (m1 (oIsi false isNdl) (mVar 1)) (m2 oEq (m1 oForm (mVar 0)) (m1 oForm (mVar 1)))))
def f_Needle___eq__ : List D → (D → Prop) → Prop := runM 2 2 m_Needle___eq__
theorem ok_Needle___eq__ (T : Tx K mg) : FnOk P w K mg base CX0 1 T.f_Needle___eq__ T.d_Needle___eq__ ["self", "other"] (spV T.C f_Needle___eq__ 0 false) := by
  refine fn_v (k := 0) (own' := []) T.F_Needle___eq__ sc_Needle___eq__ rfl rfl (fun pa cdv A outer s H E hr => ?_)
  exact vb_fin (own1 := []) (vb_one (vs_ret (ve_and (ve_isi (ch := false) (p := isNdl) (fun h => pe_callB call_isi (by rfl) T.b_isinstance (by decide +kernel) (pa_cons h (pa_cons (pe_glob (v := .ref T.C.nd) rfl T.g_Needle rfl) pa_nil))) (.own _) T.ownN T.ownC T.isN (ve_var 1 (pv 1))) (ve_one (ve_cmp (f := false) (op_eqD hr.units) sim_eq (ve_form (fun h => pe_fld h rfl) T.cl T.n_form (ve_var 0 (pv 0))) (ve_form (fun h => pe_fld h rfl) T.cl T.n_form (ve_var 1 (pv 1))) (nomark _)))) (by decide))) (by decide +kernel)
def m_l_form : MS := (mSeq (mPar .any .any 1 2 (m2 oIx (mVar 0) (mC (.int 1))) (m2 oIx (mVar 0) (mC (.int 0)))) (mSeq (mWhile (mB (m2 (oCmp (fun i j => decide (j < i))) (mVar 2) (mC (.int 0)))) (mPar .any .any 1 2 (mVar 2) (m2 oMod (mCall oInt (mCons (mVar 1) mNil)) (mVar 2)))) (mRet (mCall oTup (mCons (m2 oDiv (m2 oIx (mVar 0) (mC (.int 0))) (mVar 1)) (mCons (m2 oDiv (m2 oIx (mVar 0) (mC (.int 1))) (mVar 1)) (mCons (m2 oDiv (m2 oIx (mVar 0) (mC (.int 2))) (mVar 1)) mNil)))))))
def f_l_form : List D → (D → Prop) → Prop := runM 3 1 m_l_form
theorem ok_l_form (T : Tx K mg) : FnOk P w K mg base CX0 1 T.f_l_form T.d_l_form ["_law_kind_here"] (spV T.C f_l_form 0 false) := by
  refine fn_v (k := 0) (own' := []) T.F_l_form sc_l_form rfl rfl (fun pa cdv A outer s H E hr => ?_)
  exact vb_fin (own1 := []) (vb_cons (vs_par .any .any (i := 1) (j := 2) (ve_ix ix_seq sim_ix (ve_var 0 (pv 0)) ve_int (fun _ _ => rfl)) (ve_ix ix_seq sim_ix (ve_var 0 (pv 0)) ve_int (fun _ _ => rfl)) (fun h k => ps_par rfl sc_l_form.nd rfl rfl (by decide) rfl rfl (pa_cons h (pa_cons k pa_nil)) rfl) (by decide) (by decide)) (vb_cons (vs_whileZ (own := []) PassesOwn.never (vt_cmp (f := false) op_gt sim_cmp (ve_var 2 (pv 2)) ve_int (nomark _)) (VB.rel (own := []) (own1 := []) (own' := []) (vb_one (vs_par .any .any (i := 1) (j := 2) (ve_var 2 (pv 2)) (ve_op2 op_mod (sim_mod (f := false)) (ve_bi (f := false) (fun h => pe_callTy call_int1 (by rfl) T.b_int (by decide +kernel) h) sim_int (va_cons (ve_var 1 (pv 1)) va_nil)) (ve_var 2 (pv 2))) (fun h k => ps_par rfl sc_l_form.nd rfl rfl (by decide) rfl rfl (pa_cons h (pa_cons k pa_nil)) rfl) (by decide) (by decide))) (by decide) (by decide)) (by rfl) (by rfl)) (vb_one (vs_ret (ve_tup (va_cons (ve_op2 op_fdivW (sim_div (f := false)) (ve_ix ix_seq sim_ix (ve_var 0 (pv 0)) ve_int (fun _ _ => rfl)) (ve_var 1 (pv 1))) (va_cons (ve_op2 op_fdivW (sim_div (f := false)) (ve_ix ix_seq sim_ix (ve_var 0 (pv 0)) ve_int (fun _ _ => rfl)) (ve_var 1 (pv 1))) (va_cons (ve_op2 op_fdivW (sim_div (f := false)) (ve_ix ix_seq sim_ix (ve_var 0 (pv 0)) ve_int (fun _ _ => rfl)) (ve_var 1 (pv 1))) va_nil)))) (by decide))))) (by decide +kernel)
def m_number_in : MS := (mSeq (mSet .any 1 (mIf (mB (m2 (oEqS false) (mSlS (mVar 0) mNo (mPart (mC (.int 1)))) (mC (.str "-")))) (mSlS (mVar 0) (mPart (mC (.int 1))) mNo) (mVar 0))) (mSeq (mIfS (mOr (mNot (mB (mChain (oCmp (fun i j => decide (i ≤ j))) (oCmp (fun i j => decide (i ≤ j))) (mC (.int 1)) (mCall oLen (mCons (mVar 1) mNil)) (mC (.int (40)))))) (mNot (mB (mCall oAll (mCons (mLc (mItS (mVar 1)) [2] (bName 2) mYes (m2 (oInS false) (mVar 2) (mC (.str "0123456789")))) mNil))))) (mRet (mC .non)) mNext) (mSeq (mIfS (mAnd (mB (m2 (oEqS false) (m2 oIx (mVar 1) (mC (.int 0))) (mC (.str "0")))) (mB (m2 (oEqS true) (mVar 0) (mC (.str "0"))))) (mRet (mC .non)) mNext) (mRet (mCall oIntS (mCons (mVar 0) mNil))))))
def f_number_in : List D → (D → Prop) → Prop := runM 3 1 m_number_in
theorem ok_number_in (T : Tx K mg) : FnOk P w K mg base CX0 1 T.f_number_in T.d_number_in ["text"] (spV T.C f_number_in 0 false) := by
  refine fn_v (k := 0) (own' := []) T.F_number_in sc_number_in rfl rfl (fun pa cdv A outer s H E hr => ?_)
  exact vb_fin (own1 := []) (vb_cons (vs_set .any (i := 1) (ve_if (vt_cmp (f := false) op_eq sim_eqS (ve_sliceS (fa := false) (ve_var 0 (pv 0)) vo_none (vo_some ve_int)) ve_str (nomark _)) (ve_sliceS (fa := false) (ve_var 0 (pv 0)) (vo_some ve_int) vo_none) (ve_var 0 (pv 0))) (fun h => ps_set (i := 1) sc_number_in.nd rfl (by first | exact Or.inl rfl | exact Or.inr rfl) h) (by decide)) (vb_cons (vs_if (vw_pt (vw_or (vt_not (vt_chain op_le op_le ve_int (ve_bi (f := false) (fun h => pe_callB call_len (by rfl) T.b_len (by decide +kernel) h) sim_len (va_cons (ve_var 1 (pv 1)) va_nil)) (ve_glob (v := .int (40)) (pe_glob (by rfl) T.c_MOST_DIGITS ⟨_, rfl⟩) (fun _ _ => .int _)) (by with_unfolding_all rfl))) (vw_or1 (vt_not (vt_val (ve_bi (f := false) (fun h => pe_callB (cr_all rfl) (by rfl) T.b_all (by decide +kernel) h) sim_all (va_cons (ve_lc (vs := [2]) (vi_str (ve_var 1 (pv 1))) (fun _ _ _ _ _ => (vg_name 2 (pg_name (i := 2) sc_number_in.nd rfl (Or.inl rfl)))) (fun _ _ _ _ _ => vts_nil) (fun _ _ _ _ _ => (ve_cmp (f := false) op_in_str sim_inS (ve_var 2 (pv 2)) (ve_glob (v := .str "0123456789") (pe_glob (by rfl) T.c_DIGITS ⟨_, rfl⟩) (fun _ _ => .str _)) rfl)) (by decide) (fun hi hg ht he => pe_lc (own := [("sign", 2)]) rfl sc_number_in.nd hi (blkOk_by (N := ["text", "digits", "sign"]) (sc := defScope s_number_in) (by decide +kernel)) hg ht he)) va_nil)) (fun h => pt_val h)))))) (vb_one (vs_ret ve_non (by decide))) vb_nil) (vb_cons (vs_if (vw_pt (vw_and (vt_cmp (f := false) op_eq sim_eqS (ve_ix ix_seq sim_ix (ve_var 1 (pv 1)) ve_int (fun _ _ => rfl)) ve_str (nomark _)) (vw_and1 (vt_cmp (f := false) op_ne sim_neS (ve_var 0 (pv 0)) ve_str (nomark _))))) (vb_one (vs_ret ve_non (by decide))) vb_nil) (vb_one (vs_ret (ve_bi (f := false) (fun h => pe_callTy call_int_str (by rfl) T.b_int (by decide +kernel) h) sim_intS (va_cons (ve_var 0 (pv 0)) va_nil)) (by decide)))))) (by decide +kernel)
def m_common_divisor : MS := (mSeq (mWhile (mB (m2 oNe (mVar 1) (mC (.int 0)))) (mPar .any .any 0 1 (mVar 1) (m2 oMod (mVar 0) (mVar 1)))) (mRet (mVar 0)))
def f_common_divisor : List D → (D → Prop) → Prop := runM 2 2 m_common_divisor
theorem okC_common_divisor (T : Tx K mg) (C : Kl) : FnOk P w K mg base CX0 1 T.f_common_divisor T.d_common_divisor ["one", "other"] (spV C f_common_divisor 0 false) := by
  refine fn_v (k := 0) (own' := []) T.F_common_divisor sc_common_divisor rfl rfl (fun pa cdv A outer s H E hr => ?_)
  exact vb_fin (own1 := []) (vb_cons (vs_whileZ (own := []) PassesOwn.never (vt_cmp (f := false) (op_neD hr.units) sim_ne (ve_var 1 (pv 1)) ve_int (nomark _)) (VB.rel (own := []) (own1 := []) (own' := []) (vb_one (vs_par .any .any (i := 0) (j := 1) (ve_var 1 (pv 1)) (ve_op2 op_mod (sim_mod (f := false)) (ve_var 0 (pv 0)) (ve_var 1 (pv 1))) (fun h k => ps_par rfl sc_common_divisor.nd rfl rfl (by decide) rfl rfl (pa_cons h (pa_cons k pa_nil)) rfl) (by decide) (by decide))) (by decide) (by decide)) (by rfl) (by rfl)) (vb_one (vs_ret (ve_var 0 (pv 0)) (by decide)))) (by decide +kernel)
theorem ok_common_divisor (T : Tx K mg) : FnOk P w K mg base CX0 1 T.f_common_divisor T.d_common_divisor ["one", "other"] (spV T.C f_common_divisor 0 false) := okC_common_divisor T T.C
/-- Euclid's rule, in ints -/
theorem fg_step (one other : Int) (h1 : 0 ≤ one) (h : 0 < other) : fg other (one % other) = fg one other := by
  unfold fg
  have e : (one % other).natAbs = one.natAbs % other.natAbs := by
    have z := Int.emod_nonneg one (show other ≠ 0 by omega)
    have q : ((one.natAbs % other.natAbs : Nat) : Int) = one % other := by
      rw [Int.natCast_emod, Int.natAbs_of_nonneg h1, Int.natAbs_of_nonneg (by omega)]
    omega
  show ((Nat.gcd other.natAbs (one % other).natAbs : Nat) : Int) = ((Nat.gcd one.natAbs other.natAbs : Nat) : Int)
  rw [e, Nat.gcd_comm, ← Nat.gcd_rec, Nat.gcd_comm]
theorem fg_zero (one : Int) (h : 0 ≤ one) : fg one 0 = one := by
  unfold fg
  show ((Nat.gcd one.natAbs 0 : Nat) : Int) = one
  rw [Nat.gcd_zero_right]
  omega
theorem cd_law (s p : Int) (h1 : 0 ≤ s) (h2 : 0 ≤ p) (Q : D → Prop) (hQ : Q (.int (fg s p))) : f_common_divisor [.int s, .int p] Q := by
  refine ⟨rfl, ?_⟩
  show mWhile _ _ _ _
  refine ⟨fun n env => ∃ x y : Int, env = [some (.int x), some (.int y)] ∧ 0 ≤ x ∧ 0 ≤ y ∧ fg x y = fg s p ∧ n = y.toNat, ⟨p.toNat, s, p, rfl, h1, h2, rfl, rfl⟩, ?_⟩
  rintro n env ⟨x, y, rfl, hx, hy, hg, rfl⟩
  refine ⟨rfl, rfl, ?_⟩
  by_cases hz : y = 0
  · subst hz
    have e : (!eqD (.int 0) (.int 0)) = false := by simp [eqD, py, PyData.eqv]
    show isB (.bl (!eqD (.int 0) (.int 0))) _
    rw [e]
    show Q (.int x)
    rw [fg_zero x hx] at hg
    rw [hg]
    exact hQ
  · have e : (!eqD (.int y) (.int 0)) = true := by simp [eqD, py, PyData.eqv, hz]
    show isB (.bl (!eqD (.int y) (.int 0))) _
    rw [e]
    have yp : 0 < y := by omega
    refine ⟨yp, _, ?_, y, x % y, rfl, by omega, Int.emod_nonneg x (by omega), ?_, rfl⟩
    · have z := Int.emod_lt_of_pos x yp
      have z2 := Int.emod_nonneg x (show y ≠ 0 by omega)
      omega
    · rw [fg_step x y hx yp, hg]

theorem ok_Needle___init__ (T : Tx K mg) : FnOk P w K mg base CX0 2 T.f_Needle___init__ T.d_Needle___init__ ["self", "share", "parts", "more"] (spInit T.C.nd) := by
  refine T.F_Needle___init__.ok sc_Needle___init__ (fun vs H Q E h => ?_) (fun cdv A outer s H vs Q E hr h => ?_)
  · obtain ⟨x, dx, s, p, m, rfl, _⟩ := h
    rfl
  · obtain ⟨x, dx, s, p, m, rfl, hx, ⟨h1, h2, h3, h4, h5⟩, k⟩ := h
    refine ⟨_, pss_cons (ps_if (PW.pt (pw_or (pt_not (pt_chain op_le op_le pe_int (pv 1) (pv 2))) (pw_or1 (pt_not (pt_chain op_le op_lt pe_int (pv 3) (pv 2)))))) (pss_one ps_never) pss_nil)
      (pss_cons (ps_fld (pv 0) (pe_tup (pa_cons (pv 1) (pa_cons (pv 2) (pa_cons (pv 3) pa_nil)))) rfl)
      (pss_cons (ps_set (i := 4) sc_Needle___init__.nd rfl (Or.inl rfl) (pe_call (okC_common_divisor T { T.C with tabs := [] }) hr (by rfl) T.g_common_divisor T.F_common_divisor.kp (b_common_divisor T) .nil pass0 (pa_cons (pv 1) (pa_cons (pv 2) pa_nil))))
      (pss_one (ps_fld (pv 0) (pe_tup (pa_cons (pe_op op_fdivW (pv 1) (pv 4)) (pa_cons (pe_op op_fdivW (pv 2) (pv 4)) (pa_cons (pe_op op_fdivW (pv 3) (pv 4)) pa_nil)))) rfl)))), ?_⟩
    have t1 : decide ((1 : Int) ≤ s) = true := decide_eq_true h1
    have t2 : decide (s ≤ p) = true := decide_eq_true h2
    have t3 : decide ((0 : Int) ≤ m) = true := decide_eq_true h3
    have t4 : decide (m < p) = true := decide_eq_true h4
    refine ⟨_, rfl, _, _, rfl, rfl, decide ((1 : Int) ≤ s), rfl, ?_⟩
    rw [t1]
    refine iteT ⟨_, rfl, _, _, rfl, rfl, decide (s ≤ p), rfl, ?_⟩
    rw [t2]
    refine iteF ⟨_, rfl, _, _, rfl, rfl, decide ((0 : Int) ≤ m), rfl, ?_⟩
    rw [t3]
    refine iteT ⟨_, rfl, _, _, rfl, rfl, decide (m < p), rfl, ?_⟩
    rw [t4]
    refine iteF ?_
    refine ⟨_, rfl, _, rfl, _, rfl, (by show 3 ≤ sizeLine; decide), fun q1 hq1 => ?_⟩
    have nx1 : x ≠ q1 := ne_of_none hx hq1
    refine ⟨_, rfl, x, T.C.nd, dx, [], rfl, (by rw [upd_ne nx1]; exact hx), T.cl, T.n_passed, (by show 0 < 1000; decide), ?_⟩
    refine ⟨_, rfl, _, rfl, ?_⟩
    have hp : 0 < fg s p := by
      have z : 0 < Int.gcd s p := Int.gcd_pos_of_ne_zero_left p (by omega)
      unfold fg
      omega
    have hle : fg s p ≤ s := by
      have z : (Int.gcd s p : Int) ∣ s := Int.gcd_dvd_left s p
      exact Int.le_of_dvd (by omega) z
    refine ⟨none, 0, [.int s, .int p], fun _ => False, fun d => d = .int (fg s p), .cons (.int s) (.cons (.int p) .nil), fun a u => u.elim, PB.no0 rfl, Nat.zero_le _, cd_law s p (by omega) (by omega) _ rfl, fun d v H3 hd r3 _ => ?_⟩
    subst hd
    have rv := r3.rep
    cases rv
    have kp : ∀ b o, upd (upd H q1 (.tup [V.int s, V.int p, V.int m])) x (.ins T.C.nd dx (putF "passed" (.ref q1) [])) b = some o → H3 b = some o := fun b o e => r3.fr.all rfl b o (fun q => nomatch q) e
    have dv : CDivW 0 (fg s p) := n200 hp (by
      have z : (10 : Nat) ^ 60 < 10 ^ 200 := by decide +kernel
      omega)
    refine ⟨_, rfl, _, rfl, _, _, rfl, rfl, ⟨hp, dv.2⟩, _, rfl, _, rfl, _, _, rfl, rfl, ⟨hp, dv.2⟩, _, rfl, _, rfl, _, _, rfl, rfl, ⟨hp, dv.2⟩, (by show 3 ≤ sizeLine; decide), fun q2 hq2 => ?_⟩
    have h3x : H3 x = some (.ins T.C.nd dx (putF "passed" (.ref q1) [])) := kp x _ upd_same
    have h3q : H3 q1 = some (.tup [V.int s, V.int p, V.int m]) := kp q1 _ (by rw [upd_ne nx1.symm]; exact upd_same)
    have nx2 : x ≠ q2 := ne_of_none h3x hq2
    have n12 : q1 ≠ q2 := ne_of_none h3q hq2
    refine ⟨_, rfl, x, T.C.nd, dx, _, rfl, (by rw [upd_ne nx2]; exact h3x), T.cl, T.n_form, (by show 1 < 1000; decide), ?_⟩
    have old : ∀ b, H3 b = none → H b = none := fun b hb => by
      cases e : H b with
      | none => rfl
      | some o =>
        have nb : b ≠ q1 := fun q => by rw [q, hq1] at e; cases e
        have nbx : b ≠ x := fun q => by rw [q, h3x] at hb; cases hb
        rw [kp b o (by rw [upd_ne nbx, upd_ne nb]; exact e)] at hb
        cases hb
    refine k q1 q2 _ (fun b o nb e => ?_) hq1 (old q2 hq2) n12 ?_ ?_ ?_
    · have nb1 : b ≠ q1 := fun q => by rw [q, hq1] at e; cases e
      have e3 : H3 b = some o := kp b o (by rw [upd_ne nb, upd_ne nb1]; exact e)
      rw [upd_ne nb, upd_ne (ne_of_none e3 hq2)]
      exact e3
    · rw [upd_same, put_two]
    · rw [upd_ne nx1.symm, upd_ne n12]
      exact h3q
    · rw [upd_ne nx2.symm]
      exact upd_same

theorem okn_Needle___init__ (T : Tx K mg) : FnOk P w K mg base (L2N.CX P w) 2 T.f_Needle___init__ T.d_Needle___init__ ["self", "share", "parts", "more"] (spInitX T.C.nd (T.C.xc 1)) := by
  refine fun_okN T.F_Needle___init__ sc_Needle___init__ (fun vs H Q E h => ?_) (fun cdv A outer s H vs Q E hr h => ?_)
  · rcases h with ⟨x, dx, s, p, m, rfl, _⟩ | ⟨x, dx, s, p, m, rfl, _⟩ <;> rfl
  · refine ⟨_, pss_cons (ps_if (PW.pt (pw_or (pt_not (pt_chain op_le op_le pe_int (pv 1) (pv 2))) (pw_or1 (pt_not (pt_chain op_le op_lt pe_int (pv 3) (pv 2)))))) (pss_one (L2N.ps_raise rfl (L2N.takes_of rfl rfl rfl rfl) (pmkN_val T.sup (T.xt 1) T.r_1 hr rfl rfl (pe_tup (pa_cons (pv 1) (pa_cons (pv 2) (pa_cons (pv 3) pa_nil)))) rfl rfl))) pss_nil)
      (pss_cons (ps_fld (pv 0) (pe_tup (pa_cons (pv 1) (pa_cons (pv 2) (pa_cons (pv 3) pa_nil)))) rfl)
      (pss_cons (ps_set (i := 4) sc_Needle___init__.nd rfl (Or.inl rfl) (pe_call (okC_common_divisor T { T.C with tabs := [] }) hr (by rfl) T.g_common_divisor T.F_common_divisor.kp (b_common_divisor T) .nil pass0 (pa_cons (pv 1) (pa_cons (pv 2) pa_nil))))
      (pss_one (ps_fld (pv 0) (pe_tup (pa_cons (pe_op op_fdivW (pv 1) (pv 4)) (pa_cons (pe_op op_fdivW (pv 2) (pv 4)) (pa_cons (pe_op op_fdivW (pv 3) (pv 4)) pa_nil)))) rfl)))), ?_⟩
    rcases h with ⟨x, dx, s, p, m, rfl, hx, ⟨h1, h2, h3, h4, h5⟩, k⟩ | ⟨x, dx, s, p, m, rfl, hx, nv, k⟩
    rotate_left
    · have fin : ∀ (σ : L2.St), σ[1]? = some (some (.int s)) → σ[2]? = some (some (.int p)) → σ[3]? = some (some (.int m)) → tMkX (T.C.xc 1) (tTup (tCons (tVar 1) (tCons (tVar 2) (tCons (tVar 3) tNil)))) σ H (fun cls d H' => E cls d H') := fun σ e1 e2 e3 => by
        refine ⟨_, e1, _, e2, _, e3, (by show 3 ≤ sizeLine; decide), fun q1 hq1 => fun d hd => ?_⟩
        have nd : q1 ≠ d := fun z => by
          rw [← z, upd_same] at hd
          cases hd
        have hd0 : H d = none := by rwa [upd_ne nd.symm] at hd
        refine k q1 d _ (fun b o e => ?_) hq1 hd0 ?_ upd_same
        · rw [upd_ne (ne_of_none e hd0), upd_ne (ne_of_none e hq1)]
          exact e
        · rw [upd_ne nd]
          exact upd_same
      refine ⟨_, rfl, _, _, rfl, rfl, decide ((1 : Int) ≤ s), rfl, ?_⟩
      by_cases h1 : (1 : Int) ≤ s
      · rw [decide_eq_true h1]
        refine iteT ⟨_, rfl, _, _, rfl, rfl, decide (s ≤ p), rfl, ?_⟩
        by_cases h2 : s ≤ p
        · rw [decide_eq_true h2]
          refine iteF ⟨_, rfl, _, _, rfl, rfl, decide ((0 : Int) ≤ m), rfl, ?_⟩
          by_cases h3 : (0 : Int) ≤ m
          · rw [decide_eq_true h3]
            refine iteT ⟨_, rfl, _, _, rfl, rfl, decide (m < p), rfl, ?_⟩
            rw [decide_eq_false (fun h4 => nv ⟨h1, h2, h3, h4⟩)]
            exact iteT (fin _ rfl rfl rfl)
          · rw [decide_eq_false h3]
            exact iteF ⟨_, rfl, iteT (fin _ rfl rfl rfl)⟩
        · rw [decide_eq_false h2]
          exact iteT (iteT (fin _ rfl rfl rfl))
      · rw [decide_eq_false h1]
        exact iteF ⟨_, rfl, iteT (iteT (fin _ rfl rfl rfl))⟩
    have t1 : decide ((1 : Int) ≤ s) = true := decide_eq_true h1
    have t2 : decide (s ≤ p) = true := decide_eq_true h2
    have t3 : decide ((0 : Int) ≤ m) = true := decide_eq_true h3
    have t4 : decide (m < p) = true := decide_eq_true h4
    refine ⟨_, rfl, _, _, rfl, rfl, decide ((1 : Int) ≤ s), rfl, ?_⟩
    rw [t1]
    refine iteT ⟨_, rfl, _, _, rfl, rfl, decide (s ≤ p), rfl, ?_⟩
    rw [t2]
    refine iteF ⟨_, rfl, _, _, rfl, rfl, decide ((0 : Int) ≤ m), rfl, ?_⟩
    rw [t3]
    refine iteT ⟨_, rfl, _, _, rfl, rfl, decide (m < p), rfl, ?_⟩
    rw [t4]
    refine iteF ?_
    refine ⟨_, rfl, _, rfl, _, rfl, (by show 3 ≤ sizeLine; decide), fun q1 hq1 => ?_⟩
    have nx1 : x ≠ q1 := ne_of_none hx hq1
    refine ⟨_, rfl, x, T.C.nd, dx, [], rfl, (by rw [upd_ne nx1]; exact hx), T.cl, T.n_passed, (by show 0 < 1000; decide), ?_⟩
    refine ⟨_, rfl, _, rfl, ?_⟩
    have hp : 0 < fg s p := by
      have z : 0 < Int.gcd s p := Int.gcd_pos_of_ne_zero_left p (by omega)
      unfold fg
      omega
    have hle : fg s p ≤ s := by
      have z : (Int.gcd s p : Int) ∣ s := Int.gcd_dvd_left s p
      exact Int.le_of_dvd (by omega) z
    refine ⟨none, 0, [.int s, .int p], fun _ => False, fun d => d = .int (fg s p), .cons (.int s) (.cons (.int p) .nil), fun a u => u.elim, PB.no0 rfl, Nat.zero_le _, cd_law s p (by omega) (by omega) _ rfl, fun d v H3 hd r3 _ => ?_⟩
    subst hd
    have rv := r3.rep
    cases rv
    have kp : ∀ b o, upd (upd H q1 (.tup [V.int s, V.int p, V.int m])) x (.ins T.C.nd dx (putF "passed" (.ref q1) [])) b = some o → H3 b = some o := fun b o e => r3.fr.all rfl b o (fun q => nomatch q) e
    have dv : CDivW 0 (fg s p) := n200 hp (by
      have z : (10 : Nat) ^ 60 < 10 ^ 200 := by decide +kernel
      omega)
    refine ⟨_, rfl, _, rfl, _, _, rfl, rfl, ⟨hp, dv.2⟩, _, rfl, _, rfl, _, _, rfl, rfl, ⟨hp, dv.2⟩, _, rfl, _, rfl, _, _, rfl, rfl, ⟨hp, dv.2⟩, (by show 3 ≤ sizeLine; decide), fun q2 hq2 => ?_⟩
    have h3x : H3 x = some (.ins T.C.nd dx (putF "passed" (.ref q1) [])) := kp x _ upd_same
    have h3q : H3 q1 = some (.tup [V.int s, V.int p, V.int m]) := kp q1 _ (by rw [upd_ne nx1.symm]; exact upd_same)
    have nx2 : x ≠ q2 := ne_of_none h3x hq2
    have n12 : q1 ≠ q2 := ne_of_none h3q hq2
    refine ⟨_, rfl, x, T.C.nd, dx, _, rfl, (by rw [upd_ne nx2]; exact h3x), T.cl, T.n_form, (by show 1 < 1000; decide), ?_⟩
    have old : ∀ b, H3 b = none → H b = none := fun b hb => by
      cases e : H b with
      | none => rfl
      | some o =>
        have nb : b ≠ q1 := fun q => by rw [q, hq1] at e; cases e
        have nbx : b ≠ x := fun q => by rw [q, h3x] at hb; cases hb
        rw [kp b o (by rw [upd_ne nbx, upd_ne nb]; exact e)] at hb
        cases hb
    refine k q1 q2 _ (fun b o nb e => ?_) hq1 (old q2 hq2) n12 ?_ ?_ ?_
    · have nb1 : b ≠ q1 := fun q => by rw [q, hq1] at e; cases e
      have e3 : H3 b = some o := kp b o (by rw [upd_ne nb, upd_ne nb1]; exact e)
      rw [upd_ne nb, upd_ne (ne_of_none e3 hq2)]
      exact e3
    · rw [upd_same, put_two]
    · rw [upd_ne nx1.symm, upd_ne n12]
      exact h3q
    · rw [upd_ne nx2.symm]
      exact upd_same

def m_Needle_share : MS := (mRet (m2 oIx (m1 oPassed (mVar 0)) (mC (.int 0))))
def f_Needle_share : List D → (D → Prop) → Prop := runM 1 1 m_Needle_share
theorem ok_Needle_share (T : Tx K mg) : FnOk P w K mg base CX0 1 T.f_Needle_share T.d_Needle_share ["self"] (spV T.C f_Needle_share 0 false) := by
  refine fn_v (k := 0) (own' := []) T.F_Needle_share sc_Needle_share rfl rfl (fun pa cdv A outer s H E hr => ?_)
  exact vb_fin (own1 := []) (vb_one (vs_ret (ve_ix ix_seq sim_ix (ve_passed (fun h => pe_fld h rfl) T.cl T.n_passed (ve_var 0 (pv 0))) ve_int (fun _ _ => rfl)) (by decide))) (by decide +kernel)
def m_Needle_parts : MS := (mRet (m2 oIx (m1 oPassed (mVar 0)) (mC (.int 1))))
def f_Needle_parts : List D → (D → Prop) → Prop := runM 1 1 m_Needle_parts
theorem ok_Needle_parts (T : Tx K mg) : FnOk P w K mg base CX0 1 T.f_Needle_parts T.d_Needle_parts ["self"] (spV T.C f_Needle_parts 0 false) := by
  refine fn_v (k := 0) (own' := []) T.F_Needle_parts sc_Needle_parts rfl rfl (fun pa cdv A outer s H E hr => ?_)
  exact vb_fin (own1 := []) (vb_one (vs_ret (ve_ix ix_seq sim_ix (ve_passed (fun h => pe_fld h rfl) T.cl T.n_passed (ve_var 0 (pv 0))) ve_int (fun _ _ => rfl)) (by decide))) (by decide +kernel)
def m_Needle_more : MS := (mRet (m2 oIx (m1 oPassed (mVar 0)) (mC (.int 2))))
def f_Needle_more : List D → (D → Prop) → Prop := runM 1 1 m_Needle_more
theorem ok_Needle_more (T : Tx K mg) : FnOk P w K mg base CX0 1 T.f_Needle_more T.d_Needle_more ["self"] (spV T.C f_Needle_more 0 false) := by
  refine fn_v (k := 0) (own' := []) T.F_Needle_more sc_Needle_more rfl rfl (fun pa cdv A outer s H E hr => ?_)
  exact vb_fin (own1 := []) (vb_one (vs_ret (ve_ix ix_seq sim_ix (ve_passed (fun h => pe_fld h rfl) T.cl T.n_passed (ve_var 0 (pv 0))) ve_int (fun _ _ => rfl)) (by decide))) (by decide +kernel)
def m_show_needle : MS := (mRet (mFs (mJfmt (mMeth f_Needle_share (mVar 0) mNil) (mJstr "/" (mJfmt (mMeth f_Needle_parts (mVar 0) mNil) (mJstr "+" (mJfmt (mMeth f_Needle_more (mVar 0) mNil) mJnil)))))))
def f_show_needle : List D → (D → Prop) → Prop := runM 1 1 m_show_needle
theorem ok_show_needle (T : Tx K mg) : FnOk P w K mg base CX0 3 T.f_show_needle T.d_show_needle ["needle"] (spV T.C f_show_needle 0 false) := by
  refine fn_v (k := 2) (own' := []) T.F_show_needle sc_show_needle rfl rfl (fun pa cdv A outer s H E hr => ?_)
  exact vb_fin (own1 := []) (vb_one (vs_ret (ve_fs (f := false) (vj_fmt (ve_prop (fun h => pe_prop h T.cl T.p_Needle_share (ok_Needle_share T) (hr.mono (by decide)) (b_Needle_share T) .nil pass0 rfl) (ve_var 0 (pv 0))) (vj_str (vj_fmt (ve_prop (fun h => pe_prop h T.cl T.p_Needle_parts (ok_Needle_parts T) (hr.mono (by decide)) (b_Needle_parts T) .nil pass0 rfl) (ve_var 0 (pv 0))) (vj_str (vj_fmt (ve_prop (fun h => pe_prop h T.cl T.p_Needle_more (ok_Needle_more T) (hr.mono (by decide)) (b_Needle_more T) .nil pass0 rfl) (ve_var 0 (pv 0))) vj_nil)))))) (by decide))) (by decide +kernel)
def m_read_needle : MS := (mSeq (mAsg (mS2 oPart (mVar 0) (mC (.str "+"))) (bTup (bCons (bName 1) (bCons (bName 2) (bCons (bName 3) bNil))))) (mSeq (mAsg (mS2 oPart (mVar 1) (mC (.str "/"))) (bTup (bCons (bName 4) (bCons (bName 5) (bCons (bName 6) bNil))))) (mSeq (mSet .any 7 (mLc (mItT (mCall oTup (mCons (mVar 4) (mCons (mVar 6) (mCons (mVar 3) mNil))))) [8] (bName 8) mYes (mCall f_number_in (mCons (mVar 8) mNil)))) (mSeq (mIfS (mB (m2 (oIn false) (mC .non) (mVar 7))) (mRaise 10 (mVar 0)) mNext) (mSeq (mTryRF 9 7 10 0 10) (mSeq (mIfS (mB (m2 (oEqS true) (mCall f_show_needle (mCons (mVar 9) mNil)) (mVar 0))) (mRaise 10 (mVar 0)) mNext) (mRet (mVar 9))))))))
def f_read_needle : List D → (D → Prop) → Prop := runM 11 1 m_read_needle
theorem okx_read_needle (T : Tx K mg) : FnOk P w K mg base (L2.CX P w) 5 T.f_read_needle T.d_read_needle ["text"] (spX T.C f_read_needle 0 false) := by
  refine fn_x (k := 4) (own' := []) T.F_read_needle sc_read_needle rfl rfl (fun pa cdv A outer s H E hr => ?_)
  exact vb_fin (own1 := []) (vb_cons (vs_asg (ve_sm1 (fun h k => pe_partition h k) (sim_part (f := false)) (ve_var 0 (pv 0)) ve_str) (vg_tup (vg_cons (vg_name 1 (pg_name (i := 1) sc_read_needle.nd rfl (by first | exact Or.inl rfl | exact Or.inr rfl))) (vg_cons (vg_name 2 (pg_name (i := 2) sc_read_needle.nd rfl (by first | exact Or.inl rfl | exact Or.inr rfl))) (vg_cons (vg_name 3 (pg_name (i := 3) sc_read_needle.nd rfl (by first | exact Or.inl rfl | exact Or.inr rfl))) vg_nil (fun h k => pgs_cons h k)) (fun h k => pgs_cons h k)) (fun h k => pgs_cons h k)) (fun h => pg_tup rfl h) bt3) (fun h k => ps_asg h k) (by decide)) (vb_cons (vs_asg (ve_sm1 (fun h k => pe_partition h k) (sim_part (f := false)) (ve_var 1 (pv 1)) ve_str) (vg_tup (vg_cons (vg_name 4 (pg_name (i := 4) sc_read_needle.nd rfl (by first | exact Or.inl rfl | exact Or.inr rfl))) (vg_cons (vg_name 5 (pg_name (i := 5) sc_read_needle.nd rfl (by first | exact Or.inl rfl | exact Or.inr rfl))) (vg_cons (vg_name 6 (pg_name (i := 6) sc_read_needle.nd rfl (by first | exact Or.inl rfl | exact Or.inr rfl))) vg_nil (fun h k => pgs_cons h k)) (fun h k => pgs_cons h k)) (fun h k => pgs_cons h k)) (fun h => pg_tup rfl h) bt3) (fun h k => ps_asg h k) (by decide)) (vb_cons (vs_lc .any (i := 7) (vs := [8]) (vi_tup (ve_tup (va_cons (ve_var 4 (pv 4)) (va_cons (ve_var 6 (pv 6)) (va_cons (ve_var 3 (pv 3)) va_nil))))) (fun _ _ _ _ _ => (vg_name 8 (pg_name (i := 8) sc_read_needle.nd rfl (Or.inl rfl)))) (fun _ _ _ _ _ => vts_nil) (fun _ _ _ _ _ => (ve_call (fun h => pe_callC (can_of (ok_number_in T) (hr.mono (by decide))) (by rfl) T.g_number_in T.F_number_in.kp (b_number_in T) h (by decide +kernel) rfl rfl) (va_cons (ve_var 8 (pv 8)) va_nil))) (by decide) (fun hi hg ht he => ps_setLc (i := 7) (own := [("part", 8)]) rfl sc_read_needle.nd rfl rfl (sw_true rfl rfl rfl (by decide +kernel)) hi (blkOk_by (N := ["text", "ahead", "plus", "behind", "share", "bar", "parts", "integers", "part", "found", "error"]) (sc := defScope s_read_needle) (by decide +kernel)) hg ht he) (by decide)) (vb_cons (vs_if (vt_cmp (f := false) op_in_seq sim_in ve_non (ve_var 7 (pv 7)) rfl) (vb_one (vs_raise 10 (takes_of rfl rfl rfl rfl) rfl (ve_var 0 (pv 0)) (fun h => pmk_val T.sup (T.xt 10) T.r_10 hr rfl rfl h rfl rfl))) vb_nil) (vb_cons (vs_tryRF (i := 9) (s := 7) (e := 10) (t := 0) (k := 10) (T.xm_1 1) (L2H.ps_try_asX (i := 10) (tb := fun W => tAsg (tMakeXS _ W T.C.nd (spInitX T.C.nd (T.C.xc 1)) (tVar 7)) (gName 9)) (ts := tsRF (T.C.xc 1) (T.C.xc 10) 10 0 _) rfl rfl sc_read_needle.nd rfl rfl ⟨rfl, by decide, .inl T.g_InvalidNeedle⟩ (L2H.passesAt_of rfl) (takes_of rfl rfl rfl rfl) (fun _ _ _ _ h => h) (fun W pn xe tk1 tk2 po => pss_one (ps_set (i := 9) sc_read_needle.nd rfl (by first | exact Or.inl rfl | exact Or.inr rfl) (pe_makeXS T.mkN (okn_Needle___init__ T) (hr.mono (by decide)) (by rfl) T.g_Needle (b_init T) tk1 (pv 7)))) (fun a oe cls d pn hz hf xs tks hot => pss_rf hz hf (T.xt 1).exC rfl rfl (by decide) tks (pmk5_val T.sup (T.xt 10) T.r_10 (have z := dpt_of hr; z) rfl rfl (pv 0) rfl rfl)))) (vb_cons (vs_if (vt_cmp (f := false) op_ne sim_neS (ve_call (fun h => pe_callC (can_of (ok_show_needle T) (hr.mono (by decide))) (by rfl) T.g_show_needle T.F_show_needle.kp (b_show_needle T) h (by decide +kernel) rfl rfl) (va_cons (ve_var 9 (pv 9)) va_nil)) (ve_var 0 (pv 0)) (nomark _)) (vb_one (vs_raise 10 (takes_of rfl rfl rfl rfl) rfl (ve_var 0 (pv 0)) (fun h => pmk_val T.sup (T.xt 10) T.r_10 hr rfl rfl h rfl rfl))) vb_nil) (vb_one (vs_ret (ve_var 9 (pv 9)) (by decide))))))))) (by decide +kernel)
theorem ok_read_needle (T : Tx K mg) : FnOk P w K mg base CX0 5 T.f_read_needle T.d_read_needle ["text"] (spV T.C (fN f_read_needle) 0 false) := ok_N (okx_read_needle T)
def m_Needle_plain : MS := (mSeq (mAsg (m1 oForm (mVar 0)) (bTup (bCons (bName 1) (bCons (bName 2) (bCons (bName 3) bNil))))) (mRet (mCall oNdl (mCons (mVar 1) (mCons (mVar 2) (mCons (mVar 3) mNil))))))
def f_Needle_plain : List D → (D → Prop) → Prop := runM 4 1 m_Needle_plain
theorem ok_Needle_plain (T : Tx K mg) : FnOk P w K mg base CX0 4 T.f_Needle_plain T.d_Needle_plain ["self"] (spV T.C f_Needle_plain 0 false) := by
  refine fn_v (k := 3) (own' := []) T.F_Needle_plain sc_Needle_plain rfl rfl (fun pa cdv A outer s H E hr => ?_)
  exact vb_fin (own1 := []) (vb_cons (vs_asg (ve_form (fun h => pe_fld h rfl) T.cl T.n_form (ve_var 0 (pv 0))) (vg_tup (vg_cons (vg_name 1 (pg_name (i := 1) sc_Needle_plain.nd rfl (by first | exact Or.inl rfl | exact Or.inr rfl))) (vg_cons (vg_name 2 (pg_name (i := 2) sc_Needle_plain.nd rfl (by first | exact Or.inl rfl | exact Or.inr rfl))) (vg_cons (vg_name 3 (pg_name (i := 3) sc_Needle_plain.nd rfl (by first | exact Or.inl rfl | exact Or.inr rfl))) vg_nil (fun h k => pgs_cons h k)) (fun h k => pgs_cons h k)) (fun h k => pgs_cons h k)) (fun h => pg_tup rfl h) bt3) (fun h k => ps_asg h k) (by decide)) (vb_one (vs_ret (ve_make (fun h => pe_make T.mkN (ok_Needle___init__ T) (hr.mono (by decide)) (by rfl) T.g_Needle (b_init T) .nil pass0 h) (va_cons (ve_var 1 (pv 1)) (va_cons (ve_var 2 (pv 2)) (va_cons (ve_var 3 (pv 3)) va_nil)))) (by decide)))) (by decide +kernel)
theorem ok_l_draw (T : Tx K mg) : FnOk P w K mg base CX0 1 T.f_l_draw T.d_l_draw ["_law_pool_here", "_law_many"] (spV T.C oDraw 1 false) := by
  refine T.F_l_draw.ok sc_l_draw (fun vs H Q E h => ?_) (fun cdv A outer s H vs Q E hr h => ?_)
  · obtain ⟨pa, B, ds, U, Qd, r, hU, pb, hB, hm, k⟩ := h
    rw [r.length, oDraw_len hm]
    rfl
  · obtain ⟨pa, B, ds, U, Qd, r, hU, pb, hB, hm, k⟩ := h
    unfold oDraw at hm
    split at hm
    · rename_i n
      obtain ⟨v, u, rfl, rv, ru⟩ := repL2 r
      cases ru
      cases rv with
      | pool ea =>
        rename_i a
        have ea' : pa = some a := ea
        subst ea'
        obtain ⟨p0, p1, p2, hL, h1, h2, h3⟩ := pb a rfl
        obtain ⟨⟨hn0, hn⟩, hm⟩ := hm
        have e3 : ([V.int p0, V.int p1, V.int p2] : List V).length = 3 := rfl
        -- the pool changed: its three places are still ints
        have fin : ∀ (q0 q2 : Int) (H' : Hp) (d : Int), (H' = upd H a (.lst [.int q0, .int p1, .int q2])) → 0 ≤ q2 → q2 ≤ ((B + 1 : Nat) : Int) → 0 ≤ d → d < n → Q (.int d) H' := fun q0 q2 H' d e g0 g1 d0 d1 => by
          subst e
          refine k (.int d) (.int d) _ (hm d d0 d1) ⟨.mk0 fun b o nb eb => ?_, .int d, fun _ xs e => (by cases xs <;> cases e)⟩ ⟨fun b eb => ?_, tabs_put pb.tab fun v e => (by rw [hL] at e; cases e; infer_instance)⟩
          · have nba : b ≠ a := fun q => nb (by rw [q])
            rw [upd_ne nba]
            exact eb
          · cases eb
            exact ⟨q0, p1, q2, upd_same, h1, g0, g1⟩
        refine ⟨_, pss_cons (ps_if (pt_cmpR op_gt (pe_ix ix_list (pv 0) pe_int (fun _ _ => rfl)) pe_int (nomark _))
            (pss_cons (ps_set (i := 2) sc_l_draw.nd rfl (Or.inl rfl) (pe_op op_mod (pe_callTy call_int1 (by rfl) T.b_int (by decide +kernel) (pa_cons (pe_ix ix_list (pv 0) pe_int (fun _ _ => rfl)) pa_nil)) (pv 1)))
            (pss_cons (ps_asg (pe_op op_fdivW (pe_ix ix_list (pv 0) pe_int (fun _ _ => rfl)) (pv 1)) (pg_sub (pv 0) pe_int set_list))
            (pss_one (ps_ret (pv 2))))) pss_nil)
          (pss_cons (ps_asg (pe_op op_add (pe_ix ix_list (pv 0) pe_int (fun _ _ => rfl)) pe_int) (pg_sub (pv 0) pe_int set_list))
          (pss_cons (ps_set (i := 3) sc_l_draw.nd rfl (Or.inl rfl) (pe_op op_mod (pe_callTy call_int1 (by rfl) T.b_int (by decide +kernel) (pa_cons (pe_op op_powW (pe_op op_add (pe_ix ix_list (pv 0) pe_int (fun _ _ => rfl)) (pe_op op_mul pe_int (pe_ix ix_list (pv 0) pe_int (fun _ _ => rfl)))) pe_int) pa_nil)) pe_int))
          (pss_cons (ps_set (i := 3) sc_l_draw.nd rfl (Or.inl rfl) (pe_op op_mod (pe_callTy call_int1 (by rfl) T.b_int (by decide +kernel) (pa_cons (pe_op op_powW (pe_op op_add (pv 3) (pe_op op_mul pe_int (pe_ix ix_list (pv 0) pe_int (fun _ _ => rfl)))) pe_int) pa_nil)) pe_int))
          (pss_one (ps_ret (pe_op op_mod (pe_callTy call_int1 (by rfl) T.b_int (by decide +kernel) (pa_cons (pe_op op_fdivW (pv 3) pe_int) pa_nil)) (pv 1))))))), ?_⟩
        refine ⟨_, rfl, a, _, _, _, rfl, rfl, SqL.of hL, rfl, _, _, rfl, rfl, _, rfl, ?_⟩
        refine ite2 (fun c => ?_) (fun c => ?_)
        · refine ⟨_, rfl, a, _, _, _, rfl, rfl, SqL.of hL, rfl, .inl ⟨_, rfl, _, rfl, _, _, rfl, rfl, hn0, ?_⟩⟩
          refine ⟨_, rfl, a, _, _, _, rfl, rfl, SqL.of hL, rfl, _, rfl, _, _, rfl, rfl, ⟨hn0, (n200 hn0 hn).2⟩, _, rfl, a, _, _, 0, rfl, rfl, hL, rfl, ?_⟩
          exact ⟨_, rfl, fin (p0 / n) p2 _ (p0 % n) rfl h2 (by omega) (Int.emod_nonneg _ (by omega)) (Int.emod_lt_of_pos _ hn0)⟩
        · refine ⟨_, rfl, a, _, _, _, rfl, rfl, SqL.of hL, rfl, _, _, rfl, rfl, _, rfl, a, _, _, 2, rfl, rfl, hL, rfl, ?_⟩
          have hL2 : SqL K (upd H a (.lst [.int p0, .int p1, .int (p2 + 1)])) a [.int p0, .int p1, .int (p2 + 1)] := SqL.of upd_same
          have b2 : p2 + 1 ≤ (Bmax : Int) := by omega
          have z0 : (0 : Int) ≤ p2 + 1 := by omega
          have m1 : ((p1 + 15485863 * (p2 + 1)) : Int).natAbs < 2 ^ 200000 := mix1 (Nat.lt_trans h1 (by decide)) z0 b2 (by decide) (by decide)
          refine ⟨_, rfl, a, _, _, _, rfl, rfl, hL2, rfl, _, rfl, a, _, _, _, rfl, rfl, hL2, rfl, _, _, rfl, rfl, .inl ⟨by decide, by decide⟩, _, _, rfl, rfl, _, _, rfl, rfl, cube_ok m1, .inl ⟨_, rfl, _, _, rfl, rfl, (by show (0 : Int) < 162259276829213363391578010288127; decide), ?_⟩⟩
          have m2 : (((p1 + 15485863 * (p2 + 1)) ^ (3 : Int).toNat % 162259276829213363391578010288127 + 32452843 * (p2 + 1)) : Int).natAbs < 2 ^ 200000 := by
            refine mix1 ?_ z0 b2 (by decide) (by decide)
            have g0 := Int.emod_nonneg ((p1 + 15485863 * (p2 + 1)) ^ (3 : Int).toNat) (show (162259276829213363391578010288127 : Int) ≠ 0 by decide)
            have g1 := Int.emod_lt_of_pos ((p1 + 15485863 * (p2 + 1)) ^ (3 : Int).toNat) (show (0 : Int) < 162259276829213363391578010288127 by decide)
            have g2 : (162259276829213363391578010288127 : Nat) < 2 ^ 200 := by decide
            omega
          refine ⟨_, rfl, _, rfl, a, _, _, _, rfl, rfl, hL2, rfl, _, _, rfl, rfl, .inl ⟨by decide, by decide⟩, _, _, rfl, rfl, _, _, rfl, rfl, cube_ok m2, .inl ⟨_, rfl, _, _, rfl, rfl, (by show (0 : Int) < 170141183460469231731687303715884105727; decide), ?_⟩⟩
          refine ⟨_, rfl, _, _, rfl, rfl, ⟨by decide, by decide +kernel⟩, .inl ⟨_, rfl, _, rfl, _, _, rfl, rfl, hn0, ?_⟩⟩
          exact fin p0 (p2 + 1) _ _ rfl z0 (by omega) (Int.emod_nonneg _ (by omega)) (Int.emod_lt_of_pos _ hn0)
    · exact hm.elim

def m_l_great_right : MS := (mSeq (mPar .any .any 1 2 (m2 oAdd (mC (.int 1)) (mCall oDraw (mCons (mVar 0) (mCons (m2 oPow (mC (.int 10)) (mC (.int 9))) mNil)))) (m2 oAdd (mC (.int 1)) (mCall oDraw (mCons (mVar 0) (mCons (m2 oPow (mC (.int 10)) (mC (.int 9))) mNil))))) (mSeq (mPar .any .any 3 4 (m2 oAdd (mC (.int 1)) (mCall oDraw (mCons (mVar 0) (mCons (mVar 1) mNil)))) (mCall oDraw (mCons (mVar 0) (mCons (mVar 1) mNil)))) (mSeq (mSet .any 5 (mCall f_l_form (mCons (mCall oTup (mCons (mVar 3) (mCons (mVar 1) (mCons (mVar 4) mNil)))) mNil))) (mSeq (mSet .any 6 (m2 oAdd (m2 oAdd (mCall oStr (mCons (m2 oMul (mVar 3) (mVar 2)) mNil)) (mC (.str "/"))) (mCall oStr (mCons (m2 oMul (mVar 1) (mVar 2)) mNil)))) (mSeq (mSet .any 6 (m2 oAdd (m2 oAdd (mVar 6) (mC (.str "+"))) (mCall oStr (mCons (m2 oSub (m2 oAdd (m2 oMul (mVar 4) (mVar 2)) (mVar 2)) (mC (.int 1))) mNil)))) (mSeq (mSet .any 7 (mCall (fN f_read_needle) (mCons (mVar 6) mNil))) (mSeq (mSet .any 8 (mMeth f_Needle_plain (mVar 7) mNil)) (mSeq (mIfS (mB (m2 (oEqS true) (mCall f_show_needle (mCons (mVar 7) mNil)) (mVar 6))) (mRet (mC (.bl false))) mNext) (mSeq (mIfS (mB (m2 (oEqN true false f_Needle___eq__) (mCall oTup (mCons (mMeth f_Needle_share (mVar 8) mNil) (mCons (mMeth f_Needle_parts (mVar 8) mNil) (mCons (mMeth f_Needle_more (mVar 8) mNil) mNil)))) (mVar 5))) (mRet (mC (.bl false))) mNext) (mSeq (mSet .any 9 (mCall (fN f_read_needle) (mCons (m2 oAdd (m2 oAdd (m2 oAdd (m2 oAdd (mCall oStr (mCons (m2 oIx (mVar 5) (mC (.int 0))) mNil)) (mC (.str "/"))) (mCall oStr (mCons (m2 oIx (mVar 5) (mC (.int 1))) mNil))) (mC (.str "+"))) (mCall oStr (mCons (m2 oIx (mVar 5) (mC (.int 2))) mNil))) mNil))) (mRet (mAndV (m2 (oEqN false false f_Needle___eq__) (mVar 7) (mVar 9)) (m2 (oEqN false false f_Needle___eq__) (mVar 9) (mVar 8))))))))))))))
def f_l_great_right : List D → (D → Prop) → Prop := runM 10 1 m_l_great_right
theorem ok_l_great_right (T : Tx K mg) : FnOk P w K mg base CX0 7 T.f_l_great_right T.d_l_great_right ["_law_pool_here"] (spV T.C f_l_great_right 4 false) := by
  refine fn_v (k := 6) (own' := []) T.F_l_great_right sc_l_great_right rfl rfl (fun pa cdv A outer s H E hr => ?_)
  exact vb_fin (own1 := []) (vb_cons (vs_par .any .any (i := 1) (j := 2) (ve_op2 (op_or2 (op_or2 op_add op_cat) op_add_str) sim_add ve_int (ve_call (fun h => pe_callC (can_of (ok_l_draw T) (hr.mono (by decide))) (by rfl) T.g_l_draw T.F_l_draw.kp (b_l_draw T) h (by decide +kernel) rfl rfl) (va_cons (ve_var 0 (pv 0)) (va_cons (ve_op2 op_powW (sim_pow (f := false)) ve_int ve_int) va_nil)))) (ve_op2 (op_or2 (op_or2 op_add op_cat) op_add_str) sim_add ve_int (ve_call (fun h => pe_callC (can_of (ok_l_draw T) (hr.mono (by decide))) (by rfl) T.g_l_draw T.F_l_draw.kp (b_l_draw T) h (by decide +kernel) rfl rfl) (va_cons (ve_var 0 (pv 0)) (va_cons (ve_op2 op_powW (sim_pow (f := false)) ve_int ve_int) va_nil)))) (fun h k => ps_par rfl sc_l_great_right.nd rfl rfl (by decide) rfl rfl (pa_cons h (pa_cons k pa_nil)) rfl) (by decide) (by decide)) (vb_cons (vs_par .any .any (i := 3) (j := 4) (ve_op2 (op_or2 (op_or2 op_add op_cat) op_add_str) sim_add ve_int (ve_call (fun h => pe_callC (can_of (ok_l_draw T) (hr.mono (by decide))) (by rfl) T.g_l_draw T.F_l_draw.kp (b_l_draw T) h (by decide +kernel) rfl rfl) (va_cons (ve_var 0 (pv 0)) (va_cons (ve_var 1 (pv 1)) va_nil)))) (ve_call (fun h => pe_callC (can_of (ok_l_draw T) (hr.mono (by decide))) (by rfl) T.g_l_draw T.F_l_draw.kp (b_l_draw T) h (by decide +kernel) rfl rfl) (va_cons (ve_var 0 (pv 0)) (va_cons (ve_var 1 (pv 1)) va_nil))) (fun h k => ps_par rfl sc_l_great_right.nd rfl rfl (by decide) rfl rfl (pa_cons h (pa_cons k pa_nil)) rfl) (by decide) (by decide)) (vb_cons (vs_set .any (i := 5) (ve_call (fun h => pe_callC (can_of (ok_l_form T) (hr.mono (by decide))) (by rfl) T.g_l_form T.F_l_form.kp (b_l_form T) h (by decide +kernel) rfl rfl) (va_cons (ve_tup (va_cons (ve_var 3 (pv 3)) (va_cons (ve_var 1 (pv 1)) (va_cons (ve_var 4 (pv 4)) va_nil)))) va_nil)) (fun h => ps_set (i := 5) sc_l_great_right.nd rfl (by first | exact Or.inl rfl | exact Or.inr rfl) h) (by decide)) (vb_cons (vs_set .any (i := 6) (ve_op2 (op_or2 (op_or2 op_add op_cat) op_add_str) sim_add (ve_op2 (op_or2 (op_or2 op_add op_cat) op_add_str) sim_add (ve_bi (f := false) (fun h => pe_callTy call_str_int (by rfl) T.b_str (by decide +kernel) h) sim_str (va_cons (ve_op2 (op_or2 (op_or2 op_mul op_mulW) op_rep) sim_mul (ve_var 3 (pv 3)) (ve_var 2 (pv 2))) va_nil)) ve_str) (ve_bi (f := false) (fun h => pe_callTy call_str_int (by rfl) T.b_str (by decide +kernel) h) sim_str (va_cons (ve_op2 (op_or2 (op_or2 op_mul op_mulW) op_rep) sim_mul (ve_var 1 (pv 1)) (ve_var 2 (pv 2))) va_nil))) (fun h => ps_set (i := 6) sc_l_great_right.nd rfl (by first | exact Or.inl rfl | exact Or.inr rfl) h) (by decide)) (vb_cons (vs_set .any (i := 6) (ve_op2 (op_or2 (op_or2 op_add op_cat) op_add_str) sim_add (ve_op2 (op_or2 (op_or2 op_add op_cat) op_add_str) sim_add (ve_var 6 (pv 6)) ve_str) (ve_bi (f := false) (fun h => pe_callTy call_str_int (by rfl) T.b_str (by decide +kernel) h) sim_str (va_cons (ve_op2 op_sub (sim_sub (f := false)) (ve_op2 (op_or2 (op_or2 op_add op_cat) op_add_str) sim_add (ve_op2 (op_or2 (op_or2 op_mul op_mulW) op_rep) sim_mul (ve_var 4 (pv 4)) (ve_var 2 (pv 2))) (ve_var 2 (pv 2))) ve_int) va_nil))) (fun h => ps_set (i := 6) sc_l_great_right.nd rfl (by first | exact Or.inl rfl | exact Or.inr rfl) h) (by decide)) (vb_cons (vs_set .any (i := 7) (ve_call (fun h => pe_callC (can_of (ok_read_needle T) (hr.mono (by decide))) (by rfl) T.g_read_needle T.F_read_needle.kp (b_read_needle T) h (by decide +kernel) rfl rfl) (va_cons (ve_var 6 (pv 6)) va_nil)) (fun h => ps_set (i := 7) sc_l_great_right.nd rfl (by first | exact Or.inl rfl | exact Or.inr rfl) h) (by decide)) (vb_cons (vs_set .any (i := 8) (ve_meth0 (fun h => pe_methC0 h T.cl T.m_Needle_plain (can_of (ok_Needle_plain T) (hr.mono (by decide))) (b_Needle_plain T) rfl) (fun _ _ => look_no (by decide +kernel) (by decide +kernel)) (ve_var 7 (pv 7))) (fun h => ps_set (i := 8) sc_l_great_right.nd rfl (by first | exact Or.inl rfl | exact Or.inr rfl) h) (by decide)) (vb_cons (vs_if (vt_cmp (f := false) op_ne sim_neS (ve_call (fun h => pe_callC (can_of (ok_show_needle T) (hr.mono (by decide))) (by rfl) T.g_show_needle T.F_show_needle.kp (b_show_needle T) h (by decide +kernel) rfl rfl) (va_cons (ve_var 7 (pv 7)) va_nil)) (ve_var 6 (pv 6)) (nomark _)) (vb_one (vs_ret ve_bl (by decide))) vb_nil) (vb_cons (vs_if (vt_eqN (neg := true) (ch := false) (fun h k => pt_cmpR (op_or2 (op_ownNe T.eqN (ok_Needle___eq__ T) (hr.mono (by decide)) (b_Needle___eq__ T)) (op_neD hr.units)) h k (nomark _)) sim_ne T.ownN T.ownC T.nfN (ve_tup (va_cons (ve_prop (fun h => pe_prop h T.cl T.p_Needle_share (ok_Needle_share T) (hr.mono (by decide)) (b_Needle_share T) .nil pass0 rfl) (ve_var 8 (pv 8))) (va_cons (ve_prop (fun h => pe_prop h T.cl T.p_Needle_parts (ok_Needle_parts T) (hr.mono (by decide)) (b_Needle_parts T) .nil pass0 rfl) (ve_var 8 (pv 8))) (va_cons (ve_prop (fun h => pe_prop h T.cl T.p_Needle_more (ok_Needle_more T) (hr.mono (by decide)) (b_Needle_more T) .nil pass0 rfl) (ve_var 8 (pv 8))) va_nil)))) (ve_var 5 (pv 5))) (vb_one (vs_ret ve_bl (by decide))) vb_nil) (vb_cons (vs_set .any (i := 9) (ve_call (fun h => pe_callC (can_of (ok_read_needle T) (hr.mono (by decide))) (by rfl) T.g_read_needle T.F_read_needle.kp (b_read_needle T) h (by decide +kernel) rfl rfl) (va_cons (ve_op2 (op_or2 (op_or2 op_add op_cat) op_add_str) sim_add (ve_op2 (op_or2 (op_or2 op_add op_cat) op_add_str) sim_add (ve_op2 (op_or2 (op_or2 op_add op_cat) op_add_str) sim_add (ve_op2 (op_or2 (op_or2 op_add op_cat) op_add_str) sim_add (ve_bi (f := false) (fun h => pe_callTy call_str_int (by rfl) T.b_str (by decide +kernel) h) sim_str (va_cons (ve_ix ix_seq sim_ix (ve_var 5 (pv 5)) ve_int (fun _ _ => rfl)) va_nil)) ve_str) (ve_bi (f := false) (fun h => pe_callTy call_str_int (by rfl) T.b_str (by decide +kernel) h) sim_str (va_cons (ve_ix ix_seq sim_ix (ve_var 5 (pv 5)) ve_int (fun _ _ => rfl)) va_nil))) ve_str) (ve_bi (f := false) (fun h => pe_callTy call_str_int (by rfl) T.b_str (by decide +kernel) h) sim_str (va_cons (ve_ix ix_seq sim_ix (ve_var 5 (pv 5)) ve_int (fun _ _ => rfl)) va_nil))) va_nil)) (fun h => ps_set (i := 9) sc_l_great_right.nd rfl (by first | exact Or.inl rfl | exact Or.inr rfl) h) (by decide)) (vb_one (vs_ret (ve_and (ve_eqN (neg := false) (ch := false) (fun h k => pe_cmpR (op_or2 (op_ownEq T.eqN (ok_Needle___eq__ T) (hr.mono (by decide)) (b_Needle___eq__ T)) (op_eqD hr.units)) h k (nomark _)) sim_eq T.ownN T.ownC T.nfN (ve_var 7 (pv 7)) (ve_var 9 (pv 9))) (ve_one (ve_eqN (neg := false) (ch := false) (fun h k => pe_cmpR (op_or2 (op_ownEq T.eqN (ok_Needle___eq__ T) (hr.mono (by decide)) (b_Needle___eq__ T)) (op_eqD hr.units)) h k (nomark _)) sim_eq T.ownN T.ownC T.nfN (ve_var 9 (pv 9)) (ve_var 8 (pv 8))))) (by decide))))))))))))) (by decide +kernel)
def m_l_kind : MS := (mSeq (mSet .any 1 (m2 oIx (mCall oLst (mCons (mC (.int 1)) (mCons (mC (.int 2)) (mCons (m2 oAdd (mC (.int 1)) (mCall oDraw (mCons (mVar 0) (mCons (mC (.int 12)) mNil)))) (mCons (m2 oAdd (mC (.int 1)) (mCall oDraw (mCons (mVar 0) (mCons (mC (.int 60)) mNil)))) (mCons (mC (.int 60)) (mCons (mC (.int 12)) mNil))))))) (mCall oDraw (mCons (mVar 0) (mCons (mC (.int 6)) mNil))))) (mSeq (mSet .any 2 (m2 oIx (mCall oLst (mCons (mC (.int 1)) (mCons (m2 oAdd (mC (.int 1)) (mCall oDraw (mCons (mVar 0) (mCons (mVar 1) mNil)))) (mCons (mVar 1) (mCons (mCall oMax2 (mCons (mC (.int 1)) (mCons (m2 oSub (mVar 1) (mC (.int 1))) mNil))) mNil))))) (mCall oDraw (mCons (mVar 0) (mCons (mC (.int 4)) mNil))))) (mSeq (mSet .any 3 (mIf (mB (m2 oEq (mCall oDraw (mCons (mVar 0) (mCons (mC (.int 2)) mNil))) (mC (.int 0)))) (m2 oAdd (mC (.int 1)) (mCall oDraw (mCons (mVar 0) (mCons (m2 oDiv (mC (.int 60)) (mVar 1)) mNil)))) (mC (.int 1)))) (mSeq (mPar .any .any 1 2 (m2 oMul (mVar 1) (mVar 3)) (m2 oMul (mVar 2) (mVar 3))) (mSeq (mSet .any 4 (m2 oIx (mCall oLst (mCons (mC (.int 0)) (mCons (m2 oSub (mVar 1) (mC (.int 1))) (mCons (m2 oDiv (mVar 1) (mC (.int 2))) (mCons (mCall oDraw (mCons (mVar 0) (mCons (mVar 1) mNil))) mNil))))) (mCall oDraw (mCons (mVar 0) (mCons (mC (.int 4)) mNil))))) (mRet (mCall oTup (mCons (mVar 2) (mCons (mVar 1) (mCons (mVar 4) mNil))))))))))
def f_l_kind : List D → (D → Prop) → Prop := runM 5 1 m_l_kind
theorem ok_l_kind (T : Tx K mg) : FnOk P w K mg base CX0 2 T.f_l_kind T.d_l_kind ["_law_pool_here"] (spV T.C f_l_kind 9 false) := by
  refine fn_v (k := 1) (own' := []) T.F_l_kind sc_l_kind rfl rfl (fun pa cdv A outer s H E hr => ?_)
  exact vb_fin (own1 := []) (vb_cons (vs_set .any (i := 1) (ve_ix ix_seq sim_ix (ve_lst (va_cons ve_int (va_cons ve_int (va_cons (ve_op2 (op_or2 (op_or2 op_add op_cat) op_add_str) sim_add ve_int (ve_call (fun h => pe_callC (can_of (ok_l_draw T) (hr.mono (by decide))) (by rfl) T.g_l_draw T.F_l_draw.kp (b_l_draw T) h (by decide +kernel) rfl rfl) (va_cons (ve_var 0 (pv 0)) (va_cons ve_int va_nil)))) (va_cons (ve_op2 (op_or2 (op_or2 op_add op_cat) op_add_str) sim_add ve_int (ve_call (fun h => pe_callC (can_of (ok_l_draw T) (hr.mono (by decide))) (by rfl) T.g_l_draw T.F_l_draw.kp (b_l_draw T) h (by decide +kernel) rfl rfl) (va_cons (ve_var 0 (pv 0)) (va_cons ve_int va_nil)))) (va_cons ve_int (va_cons ve_int va_nil))))))) (ve_call (fun h => pe_callC (can_of (ok_l_draw T) (hr.mono (by decide))) (by rfl) T.g_l_draw T.F_l_draw.kp (b_l_draw T) h (by decide +kernel) rfl rfl) (va_cons (ve_var 0 (pv 0)) (va_cons ve_int va_nil))) (fun _ _ => rfl)) (fun h => ps_set (i := 1) sc_l_kind.nd rfl (by first | exact Or.inl rfl | exact Or.inr rfl) h) (by decide)) (vb_cons (vs_set .any (i := 2) (ve_ix ix_seq sim_ix (ve_lst (va_cons ve_int (va_cons (ve_op2 (op_or2 (op_or2 op_add op_cat) op_add_str) sim_add ve_int (ve_call (fun h => pe_callC (can_of (ok_l_draw T) (hr.mono (by decide))) (by rfl) T.g_l_draw T.F_l_draw.kp (b_l_draw T) h (by decide +kernel) rfl rfl) (va_cons (ve_var 0 (pv 0)) (va_cons (ve_var 1 (pv 1)) va_nil)))) (va_cons (ve_var 1 (pv 1)) (va_cons (ve_bi (f := false) (fun h => pe_callB (call_max2 rfl) (by rfl) T.b_max (by decide +kernel) h) sim_max2 (va_cons ve_int (va_cons (ve_op2 op_sub (sim_sub (f := false)) (ve_var 1 (pv 1)) ve_int) va_nil))) va_nil))))) (ve_call (fun h => pe_callC (can_of (ok_l_draw T) (hr.mono (by decide))) (by rfl) T.g_l_draw T.F_l_draw.kp (b_l_draw T) h (by decide +kernel) rfl rfl) (va_cons (ve_var 0 (pv 0)) (va_cons ve_int va_nil))) (fun _ _ => rfl)) (fun h => ps_set (i := 2) sc_l_kind.nd rfl (by first | exact Or.inl rfl | exact Or.inr rfl) h) (by decide)) (vb_cons (vs_set .any (i := 3) (ve_if (vt_cmp (f := false) (op_eqD hr.units) sim_eq (ve_call (fun h => pe_callC (can_of (ok_l_draw T) (hr.mono (by decide))) (by rfl) T.g_l_draw T.F_l_draw.kp (b_l_draw T) h (by decide +kernel) rfl rfl) (va_cons (ve_var 0 (pv 0)) (va_cons ve_int va_nil))) ve_int (nomark _)) (ve_op2 (op_or2 (op_or2 op_add op_cat) op_add_str) sim_add ve_int (ve_call (fun h => pe_callC (can_of (ok_l_draw T) (hr.mono (by decide))) (by rfl) T.g_l_draw T.F_l_draw.kp (b_l_draw T) h (by decide +kernel) rfl rfl) (va_cons (ve_var 0 (pv 0)) (va_cons (ve_op2 op_fdivW (sim_div (f := false)) ve_int (ve_var 1 (pv 1))) va_nil)))) ve_int) (fun h => ps_set (i := 3) sc_l_kind.nd rfl (by first | exact Or.inl rfl | exact Or.inr rfl) h) (by decide)) (vb_cons (vs_par .any .any (i := 1) (j := 2) (ve_op2 (op_or2 (op_or2 op_mul op_mulW) op_rep) sim_mul (ve_var 1 (pv 1)) (ve_var 3 (pv 3))) (ve_op2 (op_or2 (op_or2 op_mul op_mulW) op_rep) sim_mul (ve_var 2 (pv 2)) (ve_var 3 (pv 3))) (fun h k => ps_par rfl sc_l_kind.nd rfl rfl (by decide) rfl rfl (pa_cons h (pa_cons k pa_nil)) rfl) (by decide) (by decide)) (vb_cons (vs_set .any (i := 4) (ve_ix ix_seq sim_ix (ve_lst (va_cons ve_int (va_cons (ve_op2 op_sub (sim_sub (f := false)) (ve_var 1 (pv 1)) ve_int) (va_cons (ve_op2 op_fdivW (sim_div (f := false)) (ve_var 1 (pv 1)) ve_int) (va_cons (ve_call (fun h => pe_callC (can_of (ok_l_draw T) (hr.mono (by decide))) (by rfl) T.g_l_draw T.F_l_draw.kp (b_l_draw T) h (by decide +kernel) rfl rfl) (va_cons (ve_var 0 (pv 0)) (va_cons (ve_var 1 (pv 1)) va_nil))) va_nil))))) (ve_call (fun h => pe_callC (can_of (ok_l_draw T) (hr.mono (by decide))) (by rfl) T.g_l_draw T.F_l_draw.kp (b_l_draw T) h (by decide +kernel) rfl rfl) (va_cons (ve_var 0 (pv 0)) (va_cons ve_int va_nil))) (fun _ _ => rfl)) (fun h => ps_set (i := 4) sc_l_kind.nd rfl (by first | exact Or.inl rfl | exact Or.inr rfl) h) (by decide)) (vb_one (vs_ret (ve_tup (va_cons (ve_var 2 (pv 2)) (va_cons (ve_var 1 (pv 1)) (va_cons (ve_var 4 (pv 4)) va_nil)))) (by decide)))))))) (by decide +kernel)
def m_l_made : MS := (mRet (mCall oNdl (mCons (m2 oIx (mVar 0) (mC (.int 0))) (mCons (m2 oIx (mVar 0) (mC (.int 1))) (mCons (m2 oIx (mVar 0) (mC (.int 2))) mNil)))))
def f_l_made : List D → (D → Prop) → Prop := runM 1 1 m_l_made
theorem ok_l_made (T : Tx K mg) : FnOk P w K mg base CX0 4 T.f_l_made T.d_l_made ["_law_kind_here"] (spV T.C f_l_made 0 false) := by
  refine fn_v (k := 3) (own' := []) T.F_l_made sc_l_made rfl rfl (fun pa cdv A outer s H E hr => ?_)
  exact vb_fin (own1 := []) (vb_one (vs_ret (ve_make (fun h => pe_make T.mkN (ok_Needle___init__ T) (hr.mono (by decide)) (by rfl) T.g_Needle (b_init T) .nil pass0 h) (va_cons (ve_ix ix_seq sim_ix (ve_var 0 (pv 0)) ve_int (fun _ _ => rfl)) (va_cons (ve_ix ix_seq sim_ix (ve_var 0 (pv 0)) ve_int (fun _ _ => rfl)) (va_cons (ve_ix ix_seq sim_ix (ve_var 0 (pv 0)) ve_int (fun _ _ => rfl)) va_nil)))) (by decide))) (by decide +kernel)
def m_l_longer : MS := (mSeq (mSet .own 2 (mCall oLst mNil)) (mSeq (mFor false (mIt oR1 (mCons (mCall oLen (mCons (mVar 1) mNil)) mNil)) (bName 3) (mIfS (mAnd (mB (mS1 oIsdig (m2 oIx (mVar 1) (mVar 3)))) (mNot (mB (mS1 oIsdig (mSlS (mVar 1) (mPart (mCall oMax2 (mCons (mC (.int 0)) (mCons (m2 oSub (mVar 3) (mC (.int 1))) mNil)))) (mPart (mVar 3))))))) (mApp false 2 (mVar 3)) mNext)) (mSeq (mIfS (mB (m2 oEq (mVar 2) (mCall oLst mNil))) (mRet (mVar 1)) mNext) (mSeq (mSet .any 4 (m2 oIx (mVar 2) (mCall oDraw (mCons (mVar 0) (mCons (mSc (mCall oLen (mCons (mVar 2) mNil))) mNil))))) (mSeq (mSet .any 5 (mVar 4)) (mSeq (mWhile (mAnd (mB (m2 (oCmp (fun i j => decide (i < j))) (mVar 5) (mCall oLen (mCons (mVar 1) mNil)))) (mB (mS1 oIsdig (m2 oIx (mVar 1) (mVar 5))))) (mSet .any 5 (m2 oAdd (mVar 5) (mC (.int 1))))) (mRet (m2 oAdd (m2 oAdd (mSlS (mVar 1) mNo (mPart (mVar 4))) (m2 oMulT (mC (.str "9")) (m2 oAdd (mC (.int 39)) (mCall oDraw (mCons (mVar 0) (mCons (mC (.int 3)) mNil)))))) (mSlS (mVar 1) (mPart (mVar 5)) mNo)))))))))
def f_l_longer : List D → (D → Prop) → Prop := runM 6 2 m_l_longer
theorem ok_l_longer (T : Tx K mg) : FnOk P w K mg base CX0 2 T.f_l_longer T.d_l_longer ["_law_pool_here", "_law_wording"] (spV T.C f_l_longer 2 false) := by
  refine fn_v (k := 1) (own' := []) T.F_l_longer sc_l_longer rfl rfl (fun pa cdv A outer s H E hr => ?_)
  exact vb_fin (own1 := []) (vb_cons (vs_set .own (i := 2) (ve_lst va_nil) (fun h => ps_set (i := 2) sc_l_longer.nd rfl (by first | exact Or.inl rfl | exact Or.inr rfl) h) (by decide)) (vb_cons (vs_for (lim := false) (own := [2]) PassesOwn.never rfl (vi_r1 (va_cons (ve_bi (f := false) (fun h => pe_callB call_len (by rfl) T.b_len (by decide +kernel) h) sim_len (va_cons (ve_var 1 (pv 1)) va_nil)) va_nil) (fun h => pi_range1 rfl T.b_range h)) (vg_name 3 (pg_name (i := 3) sc_l_longer.nd rfl (by first | exact Or.inl rfl | exact Or.inr rfl))) (VB.rel (own := [2]) (own1 := [2]) (own' := [2]) (vb_one (vs_if (vw_pt (vw_and (vt_val (ve_sm0 (fun h => pe_m0 PySem.F.slot_str_isdigit PySem.F.type_str_isdigit mt_isdigit h) (sim_isdig (f := false)) (ve_ix ix_seq sim_ix (ve_var 1 (pv 1)) (ve_var 3 (pv 3)) (fun _ _ => rfl))) (fun h => pt_val h)) (vw_and1 (vt_not (vt_val (ve_sm0 (fun h => pe_m0 PySem.F.slot_str_isdigit PySem.F.type_str_isdigit mt_isdigit h) (sim_isdig (f := false)) (ve_sliceS (fa := false) (ve_var 1 (pv 1)) (vo_some (ve_bi (f := false) (fun h => pe_callB (call_max2 rfl) (by rfl) T.b_max (by decide +kernel) h) sim_max2 (va_cons ve_int (va_cons (ve_op2 op_sub (sim_sub (f := false)) (ve_var 3 (pv 3)) ve_int) va_nil)))) (vo_some (ve_var 3 (pv 3))))) (fun h => pt_val h)))))) (vb_one (vs_app false (k := 2) (ve_var 3 (pv 3)) (by decide) (by decide) (fun h => ps_expr (pe_bm PySem.F.plainAttrs_list PySem.F.slot_list_append PySem.F.type_list_append mt_append (pv 2) (pa_cons h pa_nil))))) vb_nil)) (by decide) (by decide)) (fun _ => by first | rfl | with_unfolding_all rfl) (by decide) (.inr (by decide))) (vb_cons (vs_if (vt_cmp (f := false) (op_eqD hr.units) sim_eq (ve_var 2 (pv 2)) (ve_lst va_nil) (nomark _)) (vb_one (vs_ret (ve_var 1 (pv 1)) (by decide))) vb_nil) (vb_cons (VS.rel (own1 := []) (vs_set .any (i := 4) (ve_ix ix_seq sim_ix (ve_var 2 (pv 2)) (ve_call (fun h => pe_callC (can_of (ok_l_draw T) (hr.mono (by decide))) (by rfl) T.g_l_draw T.F_l_draw.kp (b_l_draw T) h (by decide +kernel) rfl rfl) (va_cons (ve_var 0 (pv 0)) (va_cons (ve_sc (ve_bi (f := false) (fun h => pe_callB call_len (by rfl) T.b_len (by decide +kernel) h) sim_len (va_cons (ve_var 2 (pv 2)) va_nil))) va_nil))) (fun _ _ => rfl)) (fun h => ps_set (i := 4) sc_l_longer.nd rfl (by first | exact Or.inl rfl | exact Or.inr rfl) h) (by decide)) (by decide) (fun _ h => h)) (vb_cons (vs_set .any (i := 5) (ve_var 4 (pv 4)) (fun h => ps_set (i := 5) sc_l_longer.nd rfl (by first | exact Or.inl rfl | exact Or.inr rfl) h) (by decide)) (vb_cons (vs_whileZ (own := []) PassesOwn.never (vw_pt (vw_and (vt_cmp (f := false) op_lt sim_cmp (ve_var 5 (pv 5)) (ve_bi (f := false) (fun h => pe_callB call_len (by rfl) T.b_len (by decide +kernel) h) sim_len (va_cons (ve_var 1 (pv 1)) va_nil)) (nomark _)) (vw_and1 (vt_val (ve_sm0 (fun h => pe_m0 PySem.F.slot_str_isdigit PySem.F.type_str_isdigit mt_isdigit h) (sim_isdig (f := false)) (ve_ix ix_seq sim_ix (ve_var 1 (pv 1)) (ve_var 5 (pv 5)) (fun _ _ => rfl))) (fun h => pt_val h))))) (VB.rel (own := []) (own1 := []) (own' := []) (vb_one (vs_set .any (i := 5) (ve_op2 (op_or2 (op_or2 op_add op_cat) op_add_str) sim_add (ve_var 5 (pv 5)) ve_int) (fun h => ps_set (i := 5) sc_l_longer.nd rfl (by first | exact Or.inl rfl | exact Or.inr rfl) h) (by decide))) (by decide) (by decide)) (by rfl) (by rfl)) (vb_one (vs_ret (ve_op2 (op_or2 (op_or2 op_add op_cat) op_add_str) sim_add (ve_op2 (op_or2 (op_or2 op_add op_cat) op_add_str) sim_add (ve_sliceS (fa := false) (ve_var 1 (pv 1)) vo_none (vo_some (ve_var 4 (pv 4)))) (ve_op2 op_mulT (sim_mulT (f := false)) ve_str (ve_op2 (op_or2 (op_or2 op_add op_cat) op_add_str) sim_add ve_int (ve_call (fun h => pe_callC (can_of (ok_l_draw T) (hr.mono (by decide))) (by rfl) T.g_l_draw T.F_l_draw.kp (b_l_draw T) h (by decide +kernel) rfl rfl) (va_cons (ve_var 0 (pv 0)) (va_cons ve_int va_nil)))))) (ve_sliceS (fa := false) (ve_var 1 (pv 1)) (vo_some (ve_var 5 (pv 5))) vo_none)) (by decide))))))))) (by decide +kernel)
def m_l_changed : MS := (mSeq (mPar .any .any 2 3 (m2 oAdd (mCall oLen (mCons (mVar 1) mNil)) (mC (.int 1))) (mCall oDraw (mCons (mVar 0) (mCons (mC (.int 7)) mNil)))) (mSeq (mSet .any 4 (m2 oIx (mCall oLst (mCons (mC (.str "on01 -;/+9_A")) (mCons (mC (.str "abcdefghijklmnopqrstuvwxyzABCXYZ0123456789 !#*+,-./:;<=>?()[]_{|}")) mNil))) (mCall oDraw (mCons (mVar 0) (mCons (mC (.int 2)) mNil))))) (mSeq (mPar .any .any 5 6 (mCall oDraw (mCons (mVar 0) (mCons (mVar 2) mNil))) (m2 oIx (mVar 4) (mCall oDraw (mCons (mVar 0) (mCons (mCall oLen (mCons (mVar 4) mNil)) mNil))))) (mSeq (mIfS (mB (m2 oEq (mVar 3) (mC (.int 0)))) (mRet (m2 oAdd (m2 oAdd (mSlS (mVar 1) mNo (mPart (mVar 5))) (mVar 6)) (mSlS (mVar 1) (mPart (mVar 5)) mNo))) mNext) (mSeq (mIfS (mB (m2 oEq (mVar 3) (mC (.int 1)))) (mRet (m2 oAdd (mSlS (mVar 1) mNo (mPart (mVar 5))) (mSlS (mVar 1) (mPart (m2 oAdd (mVar 5) (mC (.int 1)))) mNo))) mNext) (mSeq (mIfS (mB (m2 oEq (mVar 3) (mC (.int 2)))) (mRet (m2 oAdd (m2 oAdd (mSlS (mVar 1) mNo (mPart (mVar 5))) (mVar 6)) (mSlS (mVar 1) (mPart (m2 oAdd (mVar 5) (mC (.int 1)))) mNo))) mNext) (mSeq (mIfS (mB (m2 oEq (mVar 3) (mC (.int 3)))) (mSeq (mSet .own 7 (mCall oLst (mCons (mC (.str "")) (mCons (m2 oAdd (mC (.str " ")) (mVar 1)) (mCons (m2 oAdd (mVar 1) (mC (.str " "))) (mCons (m2 oAdd (mVar 1) (mC (.str "; "))) (mCons (mS1 oUpper (mVar 1)) (mCons (mC (.str "-")) mNil)))))))) (mSeq (mExt false 7 (mCall oLst (mCons (mRepl1 " " "  " (mVar 1)) (mCons (mRepl1 "; " ";" (mVar 1)) (mCons (m2 oAdd (m2 oAdd (mVar 1) (mC (.str "; "))) (mVar 1)) mNil))))) (mSeq (mExt false 7 (mCall oLst (mCons (m2 oAdd (mC (.str "; ")) (mVar 1)) (mCons (m2 oAdd (mVar 1) (mC (.str " 0"))) (mCons (mRepl1 "/" "//" (mVar 1)) (mCons (mRepl1 "+" "+-" (mVar 1)) mNil)))))) (mRet (m2 oIx (mVar 7) (mCall oDraw (mCons (mVar 0) (mCons (mSc (mCall oLen (mCons (mVar 7) mNil))) mNil)))))))) mNext) (mSeq (mIfS (mB (m2 oEq (mVar 3) (mC (.int 4)))) (mRet (mCall f_l_longer (mCons (mVar 0) (mCons (mVar 1) mNil)))) mNext) (mSeq (mSet .any 8 (m2 oIx (mCall oLst (mCons (mC (.str " ")) (mCons (mC (.str "; ")) mNil))) (m2 oSub (mVar 3) (mC (.int 5))))) (mSeq (mSet .own 9 (mS2 oSplit (mVar 1) (mVar 8))) (mSeq (mPar .any .any 10 11 (mCall oDraw (mCons (mVar 0) (mCons (mSc (mCall oLen (mCons (mVar 9) mNil))) mNil))) (mCall oDraw (mCons (mVar 0) (mCons (mSc (mCall oLen (mCons (mVar 9) mNil))) mNil)))) (mSeq (mSet .sc 12 (m2 oIx (mVar 9) (mVar 10))) (mSeq (mSetIx true 9 (m2 oIx (mVar 9) (mVar 11)) (mVar 10)) (mSeq (mSetIx false 9 (mVar 12) (mVar 11)) (mRet (mS2 oJoin (mVar 8) (mVar 9)))))))))))))))))
def f_l_changed : List D → (D → Prop) → Prop := runM 13 2 m_l_changed
theorem ok_l_changed (T : Tx K mg) : FnOk P w K mg base CX0 3 T.f_l_changed T.d_l_changed ["_law_pool_here", "_law_wording"] (spV T.C f_l_changed 9 false) := by
  refine fn_vT (k := 2) (own' := []) T.F_l_changed sc_l_changed (by decide +kernel) (by decide) rfl rfl (fun pa cdv A outer s H E hr => ?_)
  exact vbt_fin (own1 := []) (vbt_cons (vst_of (vs_par .any .any (i := 2) (j := 3) (ve_op2 (op_or2 (op_or2 op_add op_cat) op_add_str) sim_add (ve_bi (f := false) (fun h => pe_callB call_len (by rfl) T.b_len (by decide +kernel) h) sim_len (va_cons (ve_var 1 (pv 1)) va_nil)) ve_int) (ve_call (fun h => pe_callC (can_of (ok_l_draw T) (hr.mono (by decide))) (by rfl) T.g_l_draw T.F_l_draw.kp (b_l_draw T) h (by decide +kernel) rfl rfl) (va_cons (ve_var 0 (pv 0)) (va_cons ve_int va_nil))) (fun h k => ps_par rfl sc_l_changed.nd rfl rfl (by decide) rfl rfl (pa_cons h (pa_cons k pa_nil)) rfl) (by decide) (by decide))) (vbt_cons (vst_of (vs_set .any (i := 4) (ve_ix ix_seq sim_ix (ve_lst (va_cons ve_str (va_cons ve_str va_nil))) (ve_call (fun h => pe_callC (can_of (ok_l_draw T) (hr.mono (by decide))) (by rfl) T.g_l_draw T.F_l_draw.kp (b_l_draw T) h (by decide +kernel) rfl rfl) (va_cons (ve_var 0 (pv 0)) (va_cons ve_int va_nil))) (fun _ _ => rfl)) (fun h => ps_set (i := 4) sc_l_changed.nd rfl (by first | exact Or.inl rfl | exact Or.inr rfl) h) (by decide))) (vbt_cons (vst_of (vs_par .any .any (i := 5) (j := 6) (ve_call (fun h => pe_callC (can_of (ok_l_draw T) (hr.mono (by decide))) (by rfl) T.g_l_draw T.F_l_draw.kp (b_l_draw T) h (by decide +kernel) rfl rfl) (va_cons (ve_var 0 (pv 0)) (va_cons (ve_var 2 (pv 2)) va_nil))) (ve_ix ix_seq sim_ix (ve_var 4 (pv 4)) (ve_call (fun h => pe_callC (can_of (ok_l_draw T) (hr.mono (by decide))) (by rfl) T.g_l_draw T.F_l_draw.kp (b_l_draw T) h (by decide +kernel) rfl rfl) (va_cons (ve_var 0 (pv 0)) (va_cons (ve_bi (f := false) (fun h => pe_callB call_len (by rfl) T.b_len (by decide +kernel) h) sim_len (va_cons (ve_var 4 (pv 4)) va_nil)) va_nil))) (fun _ _ => rfl)) (fun h k => ps_par rfl sc_l_changed.nd rfl rfl (by decide) rfl rfl (pa_cons h (pa_cons k pa_nil)) rfl) (by decide) (by decide))) (vbt_cons (vst_of (vs_if (vt_cmp (f := false) (op_eqD hr.units) sim_eq (ve_var 3 (pv 3)) ve_int (nomark _)) (vb_one (vs_ret (ve_op2 (op_or2 (op_or2 op_add op_cat) op_add_str) sim_add (ve_op2 (op_or2 (op_or2 op_add op_cat) op_add_str) sim_add (ve_sliceS (fa := false) (ve_var 1 (pv 1)) vo_none (vo_some (ve_var 5 (pv 5)))) (ve_var 6 (pv 6))) (ve_sliceS (fa := false) (ve_var 1 (pv 1)) (vo_some (ve_var 5 (pv 5))) vo_none)) (by decide))) vb_nil)) (vbt_cons (vst_of (vs_if (vt_cmp (f := false) (op_eqD hr.units) sim_eq (ve_var 3 (pv 3)) ve_int (nomark _)) (vb_one (vs_ret (ve_op2 (op_or2 (op_or2 op_add op_cat) op_add_str) sim_add (ve_sliceS (fa := false) (ve_var 1 (pv 1)) vo_none (vo_some (ve_var 5 (pv 5)))) (ve_sliceS (fa := false) (ve_var 1 (pv 1)) (vo_some (ve_op2 (op_or2 (op_or2 op_add op_cat) op_add_str) sim_add (ve_var 5 (pv 5)) ve_int)) vo_none)) (by decide))) vb_nil)) (vbt_cons (vst_of (vs_if (vt_cmp (f := false) (op_eqD hr.units) sim_eq (ve_var 3 (pv 3)) ve_int (nomark _)) (vb_one (vs_ret (ve_op2 (op_or2 (op_or2 op_add op_cat) op_add_str) sim_add (ve_op2 (op_or2 (op_or2 op_add op_cat) op_add_str) sim_add (ve_sliceS (fa := false) (ve_var 1 (pv 1)) vo_none (vo_some (ve_var 5 (pv 5)))) (ve_var 6 (pv 6))) (ve_sliceS (fa := false) (ve_var 1 (pv 1)) (vo_some (ve_op2 (op_or2 (op_or2 op_add op_cat) op_add_str) sim_add (ve_var 5 (pv 5)) ve_int)) vo_none)) (by decide))) vb_nil)) (vbt_cons (vst_if (vt_cmp (f := false) (op_eqD hr.units) sim_eq (ve_var 3 (pv 3)) ve_int (nomark _)) (vbt_cons (vst_of (vs_set .own (i := 7) (ve_lst (va_cons ve_str (va_cons (ve_op2 (op_or2 (op_or2 op_add op_cat) op_add_str) sim_add ve_str (ve_var 1 (pv 1))) (va_cons (ve_op2 (op_or2 (op_or2 op_add op_cat) op_add_str) sim_add (ve_var 1 (pv 1)) ve_str) (va_cons (ve_op2 (op_or2 (op_or2 op_add op_cat) op_add_str) sim_add (ve_var 1 (pv 1)) ve_str) (va_cons (ve_sm0 (fun h => pe_upper h) (sim_upper (f := false)) (ve_var 1 (pv 1))) (va_cons ve_str va_nil))))))) (fun h => ps_set (i := 7) sc_l_changed.nd rfl (by first | exact Or.inl rfl | exact Or.inr rfl) h) (by decide))) (vbt_cons (vst_ext false (k := 7) (vet_lst (vat_cons (vet_repl (f := false) (fun h => pet_repl1 h (by decide +kernel)) (ve_var 1 (pv 1))) (vat_cons (vet_repl (f := false) (fun h => pet_repl1 h (by decide +kernel)) (ve_var 1 (pv 1))) (vat_cons (vet_of (ve_op2 (op_or2 (op_or2 op_add op_cat) op_add_str) sim_add (ve_op2 (op_or2 (op_or2 op_add op_cat) op_add_str) sim_add (ve_var 1 (pv 1)) ve_str) (ve_var 1 (pv 1)))) vat_nil)))) (by decide) (by decide) (fun h => pst_expr (pet_bm PySem.F.plainAttrs_list PySem.F.slot_list_extend PySem.F.type_list_extend mt_extend (pv 7) (pat_cons h pat_nil)))) (vbt_cons (vst_ext false (k := 7) (vet_lst (vat_cons (vet_of (ve_op2 (op_or2 (op_or2 op_add op_cat) op_add_str) sim_add ve_str (ve_var 1 (pv 1)))) (vat_cons (vet_of (ve_op2 (op_or2 (op_or2 op_add op_cat) op_add_str) sim_add (ve_var 1 (pv 1)) ve_str)) (vat_cons (vet_repl (f := false) (fun h => pet_repl1 h (by decide +kernel)) (ve_var 1 (pv 1))) (vat_cons (vet_repl (f := false) (fun h => pet_repl1 h (by decide +kernel)) (ve_var 1 (pv 1))) vat_nil))))) (by decide) (by decide) (fun h => pst_expr (pet_bm PySem.F.plainAttrs_list PySem.F.slot_list_extend PySem.F.type_list_extend mt_extend (pv 7) (pat_cons h pat_nil)))) (vbt_one (vst_of (vs_ret (ve_ix ix_seq sim_ix (ve_var 7 (pv 7)) (ve_call (fun h => pe_callC (can_of (ok_l_draw T) (hr.mono (by decide))) (by rfl) T.g_l_draw T.F_l_draw.kp (b_l_draw T) h (by decide +kernel) rfl rfl) (va_cons (ve_var 0 (pv 0)) (va_cons (ve_sc (ve_bi (f := false) (fun h => pe_callB call_len (by rfl) T.b_len (by decide +kernel) h) sim_len (va_cons (ve_var 7 (pv 7)) va_nil))) va_nil))) (fun _ _ => rfl)) (by decide))))))) (vbt_of vb_nil)) (vbt_cons (vst_of (vs_if (vt_cmp (f := false) (op_eqD hr.units) sim_eq (ve_var 3 (pv 3)) ve_int (nomark _)) (vb_one (vs_ret (ve_call (fun h => pe_callC (can_of (ok_l_longer T) (hr.mono (by decide))) (by rfl) T.g_l_longer T.F_l_longer.kp (b_l_longer T) h (by decide +kernel) rfl rfl) (va_cons (ve_var 0 (pv 0)) (va_cons (ve_var 1 (pv 1)) va_nil))) (by decide))) vb_nil)) (vbt_cons (vst_of (vs_set .any (i := 8) (ve_ix ix_seq sim_ix (ve_lst (va_cons ve_str (va_cons ve_str va_nil))) (ve_op2 op_sub (sim_sub (f := false)) (ve_var 3 (pv 3)) ve_int) (fun _ _ => rfl)) (fun h => ps_set (i := 8) sc_l_changed.nd rfl (by first | exact Or.inl rfl | exact Or.inr rfl) h) (by decide))) (vbt_cons (vst_of (vs_set .own (i := 9) (ve_sm1 (fun h k => pe_split h k) sim_split (ve_var 1 (pv 1)) (ve_var 8 (pv 8))) (fun h => ps_set (i := 9) sc_l_changed.nd rfl (by first | exact Or.inl rfl | exact Or.inr rfl) h) (by decide))) (vbt_cons (vst_of (vs_par .any .any (i := 10) (j := 11) (ve_call (fun h => pe_callC (can_of (ok_l_draw T) (hr.mono (by decide))) (by rfl) T.g_l_draw T.F_l_draw.kp (b_l_draw T) h (by decide +kernel) rfl rfl) (va_cons (ve_var 0 (pv 0)) (va_cons (ve_sc (ve_bi (f := false) (fun h => pe_callB call_len (by rfl) T.b_len (by decide +kernel) h) sim_len (va_cons (ve_var 9 (pv 9)) va_nil))) va_nil))) (ve_call (fun h => pe_callC (can_of (ok_l_draw T) (hr.mono (by decide))) (by rfl) T.g_l_draw T.F_l_draw.kp (b_l_draw T) h (by decide +kernel) rfl rfl) (va_cons (ve_var 0 (pv 0)) (va_cons (ve_sc (ve_bi (f := false) (fun h => pe_callB call_len (by rfl) T.b_len (by decide +kernel) h) sim_len (va_cons (ve_var 9 (pv 9)) va_nil))) va_nil))) (fun h k => ps_par rfl sc_l_changed.nd rfl rfl (by decide) rfl rfl (pa_cons h (pa_cons k pa_nil)) rfl) (by decide) (by decide))) (vbt_cons (vst_of (vs_set .sc (i := 12) (ve_ix ix_seq sim_ix (ve_var 9 (pv 9)) (ve_var 10 (pv 10)) (fun _ _ => rfl)) (fun h => ps_set (i := 12) sc_l_changed.nd rfl (by first | exact Or.inl rfl | exact Or.inr rfl) h) (by decide))) (vbt_cons (vst_of (vs_setIx true (k := 9) (ve_ix ix_seq sim_ix (ve_var 9 (pv 9)) (ve_var 11 (pv 11)) (fun _ _ => rfl)) (ve_var 10 (pv 10)) (by decide) (by decide) (fun h k => ps_asg h (pg_sub (pv 9) k set_list)))) (vbt_cons (vst_of (vs_setIx false (k := 9) (ve_var 12 (pv 12)) (ve_var 11 (pv 11)) (by decide) (by decide) (fun h k => ps_asg h (pg_sub (pv 9) k set_list)))) (vbt_one (vst_of (vs_ret (ve_sm1 (fun h k => pe_join h k) (sim_join (f := false)) (ve_var 8 (pv 8)) (ve_var 9 (pv 9))) (by decide)))))))))))))))))) (by decide +kernel)
def m_l_told : MS := (mSeq (mTry 2 kx_10 (mSeq (mSetX .any 1 (mCall f_read_needle (mCons (mVar 0) mNil))) (mRet (mCall oLst (mCons (mCall oTup (mCons (mMeth f_Needle_share (mVar 1) mNil) (mCons (mMeth f_Needle_parts (mVar 1) mNil) (mCons (mMeth f_Needle_more (mVar 1) mNil) mNil)))) mNil)))) (fun k a da => (mIfS (mOr (mB (m2 (oEqS true) (mErrV 2 a da) (mVar 0))) (mB (mIsX 2 a da (kx_1 k)))) (mRet (mCall oLst (mCons (mC (.str "odd")) mNil))) mNext))) (mRet (mCall oLst mNil)))
def f_l_told : List D → (D → Prop) → Prop := runM 3 1 m_l_told
theorem ok_l_told (T : Tx K mg) : FnOk P w K mg base CX0 7 T.f_l_told T.d_l_told ["_law_wording"] (spV T.C f_l_told 0 true) := by
  refine fn_v (k := 6) (own' := []) T.F_l_told sc_l_told rfl rfl (fun pa cdv A outer s H E hr => ?_)
  exact vb_fin (own1 := []) (vb_cons (vs_try (i := 2) (c := 0) (cs := 0) (hit := kx_10) (su := fun k a da => (mIfS (mOr (mB (m2 (oEqS true) (mErrV 2 a da) (mVar 0))) (mB (mIsX 2 a da (kx_1 k)))) (mRet (mCall oLst (mCons (mC (.str "odd")) mNil))) mNext)) rfl rfl sc_l_told.nd rfl rfl ⟨rfl, by decide, .inl T.g_Unreadable⟩ (fun W pn xe tk po => (vb_fin (own1 := []) (vb_cons (vs_setX .any (i := 1) (vx_call (fun h => pe_callX (canX_of (okx_read_needle T) (hr.mono (by decide)) tk) (by rfl) T.g_read_needle T.F_read_needle.kp (b_read_needle T) h (by decide +kernel) rfl rfl) (va_cons (ve_var 0 (pv 0)) va_nil)) (fun h => ps_set (i := 1) sc_l_told.nd rfl (by first | exact Or.inl rfl | exact Or.inr rfl) h) (by decide)) (vb_one (vs_ret (ve_lst (va_cons (ve_tup (va_cons (ve_prop (fun h => pe_prop h T.cl T.p_Needle_share (ok_Needle_share T) (hr.mono (by decide)) (b_Needle_share T) .nil pass0 rfl) (ve_var 1 (pv 1))) (va_cons (ve_prop (fun h => pe_prop h T.cl T.p_Needle_parts (ok_Needle_parts T) (hr.mono (by decide)) (b_Needle_parts T) .nil pass0 rfl) (ve_var 1 (pv 1))) (va_cons (ve_prop (fun h => pe_prop h T.cl T.p_Needle_more (ok_Needle_more T) (hr.mono (by decide)) (b_Needle_more T) .nil pass0 rfl) (ve_var 1 (pv 1))) va_nil)))) va_nil)) (by decide)))) (by decide +kernel))) (fun k a da oe pn hz hf => (vb_fin (vb_one (vs_if (vw_pt (vw_or (vt_cmp (f := false) op_ne sim_neS (ve_errv 2 (pv 2) (T.xf k) (T.xt k).noN hz hf) (ve_var 0 (pv 0)) (nomark _)) (vw_or1 (vt_val (ve_is1 (i := 2) (pe_callB (call_isX (T.xt k) (T.xo k) hz hf) (by rfl) T.b_isinstance (by decide +kernel) (pa_cons (pv 2) (pa_cons (pe_glob (v := .ref T.x_1) rfl T.g_InvalidNeedle rfl) pa_nil))) (T.xk_1 k)) (fun h => pt_val h))))) (vb_one (vs_ret (ve_lst (va_cons ve_str va_nil)) (by decide))) vb_nil)) (by decide +kernel))) (fun k => T.xm_10 k)) (vb_one (vs_ret (ve_lst va_nil) (by decide)))) (by decide +kernel)
def m_l_integer : MS := (mSeq (mSet .any 1 (mVar 0)) (mSeq (mIfS (mB (mS2 oStarts (mVar 0) (mC (.str "-")))) (mSet .any 1 (mSlS (mVar 0) (mPart (mC (.int 1))) mNo)) mNext) (mSeq (mIfS (mOr (mB (m2 (oEqS false) (mVar 1) (mC (.str "")))) (mOr (mB (m2 (oCmp (fun i j => decide (j < i))) (mCall oLen (mCons (mVar 1) mNil)) (mC (.int 40)))) (mB (m2 oNeL0 (mLc (mItS (mVar 1)) [2] (bName 2) (mB (m2 (oInS true) (mVar 2) (mC (.str "0123456789")))) (mVar 2)) (mCall oLst mNil))))) (mRet (mCall oLst mNil)) mNext) (mSeq (mIfS (mAnd (mB (m2 (oEqS false) (m2 oIx (mVar 1) (mC (.int 0))) (mC (.str "0")))) (mB (m2 (oEqS true) (mVar 0) (mC (.str "0"))))) (mRet (mCall oLst mNil)) mNext) (mRet (mCall oLst (mCons (mCall oIntS (mCons (mVar 0) mNil)) mNil)))))))
def f_l_integer : List D → (D → Prop) → Prop := runM 3 1 m_l_integer
theorem ok_l_integer (T : Tx K mg) : FnOk P w K mg base CX0 1 T.f_l_integer T.d_l_integer ["_law_wording"] (spV T.C f_l_integer 0 true) := by
  refine fn_v (k := 0) (own' := []) T.F_l_integer sc_l_integer rfl rfl (fun pa cdv A outer s H E hr => ?_)
  exact vb_fin (own1 := []) (vb_cons (vs_set .any (i := 1) (ve_var 0 (pv 0)) (fun h => ps_set (i := 1) sc_l_integer.nd rfl (by first | exact Or.inl rfl | exact Or.inr rfl) h) (by decide)) (vb_cons (vs_if (vt_val (ve_sm1 (fun h k => pe_m1 PySem.F.slot_str_startswith PySem.F.type_str_startswith mt_startswith h k) (sim_starts (f := false)) (ve_var 0 (pv 0)) ve_str) (fun h => pt_val h)) (vb_one (vs_set .any (i := 1) (ve_sliceS (fa := false) (ve_var 0 (pv 0)) (vo_some ve_int) vo_none) (fun h => ps_set (i := 1) sc_l_integer.nd rfl (by first | exact Or.inl rfl | exact Or.inr rfl) h) (by decide))) vb_nil) (vb_cons (vs_if (vw_pt (vw_or (vt_cmp (f := false) op_eq sim_eqS (ve_var 1 (pv 1)) ve_str (nomark _)) (vw_or (vt_cmp (f := false) op_gt sim_cmp (ve_bi (f := false) (fun h => pe_callB call_len (by rfl) T.b_len (by decide +kernel) h) sim_len (va_cons (ve_var 1 (pv 1)) va_nil)) ve_int (nomark _)) (vw_or1 (vt_cmp (f := false) (op_or2 (op_neL0 hr) (op_neD hr.units)) sim_neL0 (ve_lc (vs := [2]) (vi_str (ve_var 1 (pv 1))) (fun _ _ _ _ _ => (vg_name 2 (pg_name (i := 2) sc_l_integer.nd rfl (Or.inl rfl)))) (fun _ _ _ _ _ => (vts_one (vt_cmp (f := false) op_notin_str sim_notInS (ve_var 2 (pv 2)) ve_str rfl))) (fun _ _ _ _ _ => (ve_var 2 (pv 2))) (by decide) (fun hi hg ht he => pe_lc (own := [("_law_sign", 2)]) rfl sc_l_integer.nd hi (blkOk_by (N := ["_law_wording", "_law_digits", "_law_sign"]) (sc := defScope s_l_integer) (by decide +kernel)) hg ht he)) (ve_lst va_nil) (nomark _)))))) (vb_one (vs_ret (ve_lst va_nil) (by decide))) vb_nil) (vb_cons (vs_if (vw_pt (vw_and (vt_cmp (f := false) op_eq sim_eqS (ve_ix ix_seq sim_ix (ve_var 1 (pv 1)) ve_int (fun _ _ => rfl)) ve_str (nomark _)) (vw_and1 (vt_cmp (f := false) op_ne sim_neS (ve_var 0 (pv 0)) ve_str (nomark _))))) (vb_one (vs_ret (ve_lst va_nil) (by decide))) vb_nil) (vb_one (vs_ret (ve_lst (va_cons (ve_bi (f := false) (fun h => pe_callTy call_int_str (by rfl) T.b_int (by decide +kernel) h) sim_intS (va_cons (ve_var 0 (pv 0)) va_nil)) va_nil)) (by decide))))))) (by decide +kernel)
def m_l_integers : MS := (mSeq (mSet .own 1 (mCall oLst mNil)) (mSeq (mFor false (mItQ (mVar 0)) (bName 2) (mExt false 1 (mCall f_l_integer (mCons (mVar 2) mNil)))) (mSeq (mIfS (mB (m2 oNe (mCall oLen (mCons (mVar 1) mNil)) (mCall oLen (mCons (mVar 0) mNil)))) (mRet (mC .non)) mNext) (mRet (mVar 1)))))
def f_l_integers : List D → (D → Prop) → Prop := runM 3 1 m_l_integers
theorem ok_l_integers (T : Tx K mg) : FnOk P w K mg base CX0 2 T.f_l_integers T.d_l_integers ["_law_some"] (spV T.C f_l_integers 0 true) := by
  refine fn_v (k := 1) (own' := []) T.F_l_integers sc_l_integers rfl rfl (fun pa cdv A outer s H E hr => ?_)
  exact vb_fin (own1 := []) (vb_cons (vs_set .own (i := 1) (ve_lst va_nil) (fun h => ps_set (i := 1) sc_l_integers.nd rfl (by first | exact Or.inl rfl | exact Or.inr rfl) h) (by decide)) (vb_cons (vs_for (lim := false) (own := [1]) PassesOwn.never rfl (vi_seq (ve_var 0 (pv 0))) (vg_name 2 (pg_name (i := 2) sc_l_integers.nd rfl (by first | exact Or.inl rfl | exact Or.inr rfl))) (VB.rel (own := [1]) (own1 := [1]) (own' := [1]) (vb_one (vs_ext false (k := 1) (ve_call (fun h => pe_callC (can_of (ok_l_integer T) (hr.mono (by decide))) (by rfl) T.g_l_integer T.F_l_integer.kp (b_l_integer T) h (by decide +kernel) rfl rfl) (va_cons (ve_var 2 (pv 2)) va_nil)) (by decide) (by decide) (fun h => ps_expr (pe_bm PySem.F.plainAttrs_list PySem.F.slot_list_extend PySem.F.type_list_extend mt_extend (pv 1) (pa_cons h pa_nil))))) (by decide) (by decide)) (fun _ => by first | rfl | with_unfolding_all rfl) (by decide) (.inr (by decide))) (vb_cons (vs_if (vt_cmp (f := false) (op_neD hr.units) sim_ne (ve_bi (f := false) (fun h => pe_callB call_len (by rfl) T.b_len (by decide +kernel) h) sim_len (va_cons (ve_var 1 (pv 1)) va_nil)) (ve_bi (f := false) (fun h => pe_callB call_len (by rfl) T.b_len (by decide +kernel) h) sim_len (va_cons (ve_var 0 (pv 0)) va_nil)) (nomark _)) (vb_one (vs_ret ve_nonF (by decide))) vb_nil) (vb_one (vs_retO 1 (pv 1) (by decide)))))) (by decide +kernel)
def m_l_due : MS := (mSeq (mAsg (mS2 oPart (mVar 0) (mC (.str "+"))) (bTup (bCons (bName 1) (bCons (bName 2) (bCons (bName 3) bNil))))) (mSeq (mSet .any 4 (m2 oAdd (mS2 oSplit (mVar 1) (mC (.str "/"))) (mCall oLst (mCons (mVar 3) mNil)))) (mSeq (mSet .any 5 (mCall f_l_integers (mCons (mVar 4) mNil))) (mSeq (mIfS (mOr (mB (m2 (oIs false) (mVar 5) (mC .non))) (mOr (mB (m2 oNe (mCall oLen (mCons (mVar 5) mNil)) (mC (.int 3)))) (mB (m2 (oEqS false) (mVar 2) (mC (.str "")))))) (mRet (mCall oLst mNil)) mNext) (mSeq (mIfS (mNot (mB (mChain (oCmp (fun i j => decide (i ≤ j))) (oCmp (fun i j => decide (i ≤ j))) (mC (.int 1)) (m2 oIx (mVar 5) (mC (.int 0))) (m2 oIx (mVar 5) (mC (.int 1)))))) (mRet (mCall oLst mNil)) mNext) (mSeq (mIfS (mNot (mB (mChain (oCmp (fun i j => decide (i ≤ j))) (oCmp (fun i j => decide (i < j))) (mC (.int 0)) (m2 oIx (mVar 5) (mC (.int 2))) (m2 oIx (mVar 5) (mC (.int 1)))))) (mRet (mCall oLst mNil)) mNext) (mRet (mCall oLst (mCons (mCall oTuple (mCons (mVar 5) mNil)) mNil)))))))))
def f_l_due : List D → (D → Prop) → Prop := runM 6 1 m_l_due
theorem ok_l_due (T : Tx K mg) : FnOk P w K mg base CX0 3 T.f_l_due T.d_l_due ["_law_wording"] (spV T.C f_l_due 0 true) := by
  refine fn_v (k := 2) (own' := []) T.F_l_due sc_l_due rfl rfl (fun pa cdv A outer s H E hr => ?_)
  exact vb_fin (own1 := []) (vb_cons (vs_asg (ve_sm1 (fun h k => pe_partition h k) (sim_part (f := false)) (ve_var 0 (pv 0)) ve_str) (vg_tup (vg_cons (vg_name 1 (pg_name (i := 1) sc_l_due.nd rfl (by first | exact Or.inl rfl | exact Or.inr rfl))) (vg_cons (vg_name 2 (pg_name (i := 2) sc_l_due.nd rfl (by first | exact Or.inl rfl | exact Or.inr rfl))) (vg_cons (vg_name 3 (pg_name (i := 3) sc_l_due.nd rfl (by first | exact Or.inl rfl | exact Or.inr rfl))) vg_nil (fun h k => pgs_cons h k)) (fun h k => pgs_cons h k)) (fun h k => pgs_cons h k)) (fun h => pg_tup rfl h) bt3) (fun h k => ps_asg h k) (by decide)) (vb_cons (vs_set .any (i := 4) (ve_op2 (op_or2 (op_or2 op_add op_cat) op_add_str) sim_add (ve_sm1 (fun h k => pe_split h k) sim_split (ve_var 1 (pv 1)) ve_str) (ve_lst (va_cons (ve_var 3 (pv 3)) va_nil))) (fun h => ps_set (i := 4) sc_l_due.nd rfl (by first | exact Or.inl rfl | exact Or.inr rfl) h) (by decide)) (vb_cons (vs_set .any (i := 5) (ve_call (fun h => pe_callC (can_of (ok_l_integers T) (hr.mono (by decide))) (by rfl) T.g_l_integers T.F_l_integers.kp (b_l_integers T) h (by decide +kernel) rfl rfl) (va_cons (ve_var 4 (pv 4)) va_nil)) (fun h => ps_set (i := 5) sc_l_due.nd rfl (by first | exact Or.inl rfl | exact Or.inr rfl) h) (by decide)) (vb_cons (vs_if (vw_pt (vw_or (vt_cmp (f := false) op_isN sim_isN (ve_var 5 (pv 5)) ve_non (nomark _)) (vw_or (vt_cmp (f := false) (op_neD hr.units) sim_ne (ve_bi (f := false) (fun h => pe_callB call_len (by rfl) T.b_len (by decide +kernel) h) sim_len (va_cons (ve_var 5 (pv 5)) va_nil)) ve_int (nomark _)) (vw_or1 (vt_cmp (f := false) op_eq sim_eqS (ve_var 2 (pv 2)) ve_str (nomark _)))))) (vb_one (vs_ret (ve_lst va_nil) (by decide))) vb_nil) (vb_cons (vs_if (vt_not (vt_chain op_le op_le ve_int (ve_ix ix_seq sim_ix (ve_var 5 (pv 5)) ve_int (fun _ _ => rfl)) (ve_ix ix_seq sim_ix (ve_var 5 (pv 5)) ve_int (fun _ _ => rfl)) (by with_unfolding_all rfl))) (vb_one (vs_ret (ve_lst va_nil) (by decide))) vb_nil) (vb_cons (vs_if (vt_not (vt_chain op_le op_lt ve_int (ve_ix ix_seq sim_ix (ve_var 5 (pv 5)) ve_int (fun _ _ => rfl)) (ve_ix ix_seq sim_ix (ve_var 5 (pv 5)) ve_int (fun _ _ => rfl)) (by with_unfolding_all rfl))) (vb_one (vs_ret (ve_lst va_nil) (by decide))) vb_nil) (vb_one (vs_ret (ve_lst (va_cons (ve_bi (f := false) (fun h => pe_callTy call_tuple_of (by rfl) T.b_tuple (by decide +kernel) h) sim_tuple (va_cons (ve_var 5 (pv 5)) va_nil)) va_nil)) (by decide))))))))) (by decide +kernel)
def m_l_right : MS := (mSeq (mSet .any 1 (mCall f_l_kind (mCons (mVar 0) mNil))) (mSeq (mSet .any 2 (mCall f_l_made (mCons (mVar 1) mNil))) (mSeq (mSet .any 3 (m2 oAdd (m2 oAdd (m2 oAdd (m2 oAdd (mCall oStr (mCons (m2 oIx (mVar 1) (mC (.int 0))) mNil)) (mC (.str "/"))) (mCall oStr (mCons (m2 oIx (mVar 1) (mC (.int 1))) mNil))) (mC (.str "+"))) (mCall oStr (mCons (m2 oIx (mVar 1) (mC (.int 2))) mNil)))) (mSeq (mIfS (mOr (mB (m2 (oEqS true) (mCall f_show_needle (mCons (mVar 2) mNil)) (mVar 3))) (mB (m2 (oEqS true) (mCallK 0 1 [0] f_show_needle mNil (mCons (mVar 2) mNil)) (mVar 3)))) (mRet (mC (.bl false))) mNext) (mSeq (mIfS (mOr (mNot (mB (m2 (oEqN false false f_Needle___eq__) (mCallK 0 1 [0] (fN f_read_needle) mNil (mCons (mVar 3) mNil)) (mVar 2)))) (mB (m2 (oEqN true false f_Needle___eq__) (mCall f_l_told (mCons (mVar 3) mNil)) (mCall oLst (mCons (mVar 1) mNil))))) (mRet (mC (.bl false))) mNext) (mSeq (mFor true (mIt oR1 (mCons (mC (.int 5)) mNil)) (bName 4) (mSeq (mSet .any 5 (mCall f_l_changed (mCons (mVar 0) (mCons (mVar 3) mNil)))) (mIfS (mB (m2 oNe (mCall oRepr (mCons (mCall f_l_told (mCons (mVar 5) mNil)) mNil)) (mCall oRepr (mCons (mCall f_l_due (mCons (mVar 5) mNil)) mNil)))) (mRet (mC (.bl false))) mNext))) (mRet (mC (.bl true)))))))))
def f_l_right : List D → (D → Prop) → Prop := runM 6 1 m_l_right
theorem ok_l_right (T : Tx K mg) : FnG P w K mg base 9 T.f_l_right T.d_l_right ["_law_pool_here"] (spV T.C f_l_right 9437193 false) := by
  refine fn_g (k := 8) (own' := []) T.F_l_right sc_l_right rfl rfl (fun pa cdv A outer s H E hg hr => ?_)
  exact vb_fin (own1 := []) (vb_cons (vs_set .any (i := 1) (ve_call (fun h => pe_callC (can_of (ok_l_kind T) (hr.mono (by decide))) (by rfl) T.g_l_kind T.F_l_kind.kp (b_l_kind T) h (by decide +kernel) rfl rfl) (va_cons (ve_var 0 (pv 0)) va_nil)) (fun h => ps_set (i := 1) sc_l_right.nd rfl (by first | exact Or.inl rfl | exact Or.inr rfl) h) (by decide)) (vb_cons (vs_set .any (i := 2) (ve_call (fun h => pe_callC (can_of (ok_l_made T) (hr.mono (by decide))) (by rfl) T.g_l_made T.F_l_made.kp (b_l_made T) h (by decide +kernel) rfl rfl) (va_cons (ve_var 1 (pv 1)) va_nil)) (fun h => ps_set (i := 2) sc_l_right.nd rfl (by first | exact Or.inl rfl | exact Or.inr rfl) h) (by decide)) (vb_cons (vs_set .any (i := 3) (ve_op2 (op_or2 (op_or2 op_add op_cat) op_add_str) sim_add (ve_op2 (op_or2 (op_or2 op_add op_cat) op_add_str) sim_add (ve_op2 (op_or2 (op_or2 op_add op_cat) op_add_str) sim_add (ve_op2 (op_or2 (op_or2 op_add op_cat) op_add_str) sim_add (ve_bi (f := false) (fun h => pe_callTy call_str_int (by rfl) T.b_str (by decide +kernel) h) sim_str (va_cons (ve_ix ix_seq sim_ix (ve_var 1 (pv 1)) ve_int (fun _ _ => rfl)) va_nil)) ve_str) (ve_bi (f := false) (fun h => pe_callTy call_str_int (by rfl) T.b_str (by decide +kernel) h) sim_str (va_cons (ve_ix ix_seq sim_ix (ve_var 1 (pv 1)) ve_int (fun _ _ => rfl)) va_nil))) ve_str) (ve_bi (f := false) (fun h => pe_callTy call_str_int (by rfl) T.b_str (by decide +kernel) h) sim_str (va_cons (ve_ix ix_seq sim_ix (ve_var 1 (pv 1)) ve_int (fun _ _ => rfl)) va_nil))) (fun h => ps_set (i := 3) sc_l_right.nd rfl (by first | exact Or.inl rfl | exact Or.inr rfl) h) (by decide)) (vb_cons (vs_if (vw_pt (vw_or (vt_cmp (f := false) op_ne sim_neS (ve_call (fun h => pe_callC (can_of (ok_show_needle T) (hr.mono (by decide))) (by rfl) T.g_show_needle T.F_show_needle.kp (b_show_needle T) h (by decide +kernel) rfl rfl) (va_cons (ve_var 2 (pv 2)) va_nil)) (ve_var 3 (pv 3)) (nomark _)) (vw_or1 (vt_cmp (f := false) op_ne sim_neS (ve_callK0 (n := 0) (m := 1) (π := [0]) (fun k => pe_callKC0 (can_of (ok_show_needle T) (hr.mono (by decide))) (by rfl) T.g_show_needle T.F_show_needle.kp (kb_of T.F_show_needle (n := 0) (ks := ["needle"]) (π := [0]) fun _ _ _ _ _ _ us ws h1 h2 => match us, ws, h1, h2 with | [], [_], _, _ => rfl) k rfl rfl (by decide +kernel) rfl) (vk_cons (ve_var 2 (pv 2)) vk_nil)) (ve_var 3 (pv 3)) (nomark _))))) (vb_one (vs_ret ve_bl (by decide))) vb_nil) (vb_cons (vs_if (vw_pt (vw_or (vt_not (vt_eqN (neg := false) (ch := false) (fun h k => pt_cmpR (op_or2 (op_ownEq T.eqN (ok_Needle___eq__ T) (hr.mono (by decide)) (b_Needle___eq__ T)) (op_eqD hr.units)) h k (nomark _)) sim_eq T.ownN T.ownC T.nfN (ve_callK0 (n := 0) (m := 1) (π := [0]) (fun k => pe_callKC0 (can_of (ok_read_needle T) (hr.mono (by decide))) (by rfl) T.g_read_needle T.F_read_needle.kp (kb_of T.F_read_needle (n := 0) (ks := ["text"]) (π := [0]) fun _ _ _ _ _ _ us ws h1 h2 => match us, ws, h1, h2 with | [], [_], _, _ => rfl) k rfl rfl (by decide +kernel) rfl) (vk_cons (ve_var 3 (pv 3)) vk_nil)) (ve_var 2 (pv 2)))) (vw_or1 (vt_eqN (neg := true) (ch := false) (fun h k => pt_cmpR (op_or2 (op_ownNe T.eqN (ok_Needle___eq__ T) (hr.mono (by decide)) (b_Needle___eq__ T)) (op_neD hr.units)) h k (nomark _)) sim_ne T.ownN T.ownC T.nfN (ve_call (fun h => pe_callC (can_of (ok_l_told T) (hr.mono (by decide))) (by rfl) T.g_l_told T.F_l_told.kp (b_l_told T) h (by decide +kernel) rfl rfl) (va_cons (ve_var 3 (pv 3)) va_nil)) (ve_lst (va_cons (ve_var 1 (pv 1)) va_nil)))))) (vb_one (vs_ret ve_bl (by decide))) vb_nil) (vb_cons (vs_for (lim := true) (own := []) PassesOwn.never rfl (vi_r1 (va_cons ve_int va_nil) (fun h => pi_range1 rfl T.b_range h)) (vg_name 4 (pg_name (i := 4) sc_l_right.nd rfl (by first | exact Or.inl rfl | exact Or.inr rfl))) (VB.rel (own := []) (own1 := []) (own' := []) (vb_cons (vs_set .any (i := 5) (ve_call (fun h => pe_callC (can_of (ok_l_changed T) (hr.mono (by decide))) (by rfl) T.g_l_changed T.F_l_changed.kp (b_l_changed T) h (by decide +kernel) rfl rfl) (va_cons (ve_var 0 (pv 0)) (va_cons (ve_var 3 (pv 3)) va_nil))) (fun h => ps_set (i := 5) sc_l_right.nd rfl (by first | exact Or.inl rfl | exact Or.inr rfl) h) (by decide)) (vb_one (vs_if (vt_cmp (f := false) (op_neD hr.units) sim_ne (ve_bi (f := false) (fun h => pe_callB (call_repr hg hr.units) (by rfl) T.b_repr (by decide +kernel) h) sim_repr (va_cons (ve_call (fun h => pe_callC (can_of (ok_l_told T) (hr.mono (by decide))) (by rfl) T.g_l_told T.F_l_told.kp (b_l_told T) h (by decide +kernel) rfl rfl) (va_cons (ve_var 5 (pv 5)) va_nil)) va_nil)) (ve_bi (f := false) (fun h => pe_callB (call_repr hg hr.units) (by rfl) T.b_repr (by decide +kernel) h) sim_repr (va_cons (ve_call (fun h => pe_callC (can_of (ok_l_due T) (hr.mono (by decide))) (by rfl) T.g_l_due T.F_l_due.kp (b_l_due T) h (by decide +kernel) rfl rfl) (va_cons (ve_var 5 (pv 5)) va_nil)) va_nil)) (nomark _)) (vb_one (vs_ret ve_bl (by decide))) vb_nil))) (by decide) (by decide)) (fun _ => by first | rfl | with_unfolding_all rfl) (by decide) (.inl rfl)) (vb_one (vs_ret ve_bl (by decide))))))))) (by decide +kernel)

theorem mif_t {t : MT} {a b : MS} {M : MEnds} {env : VL.Env} (h : ∀ Q : Bool → Prop, Q true → t env Q) (k : a M env) : mIfS t a b M env := h _ (by exact k)
theorem mif_f {t : MT} {a b : MS} {M : MEnds} {env : VL.Env} (h : ∀ Q : Bool → Prop, Q false → t env Q) (k : b M env) : mIfS t a b M env := h _ (by exact k)
theorem mandv_t {m m' : ME} {env : VL.Env} {Q : D → Prop} (h : ∀ K : D → Prop, K (.bl true) → m env K) (k : m' env Q) : mAndV m m' env Q := h _ (by exact k)
theorem mandv_f {m m' : ME} {env : VL.Env} {Q : D → Prop} (h : ∀ K : D → Prop, K (.bl false) → m env K) (k : Q (.bl false)) : mAndV m m' env Q := h _ (by exact k)
theorem morv_t {m m' : ME} {env : VL.Env} {Q : D → Prop} (h : ∀ K : D → Prop, K (.bl true) → m env K) (k : Q (.bl true)) : mOrV m m' env Q := h _ (by exact k)
theorem morv_f {m m' : ME} {env : VL.Env} {Q : D → Prop} (h : ∀ K : D → Prop, K (.bl false) → m env K) (k : m' env Q) : mOrV m m' env Q := h _ (by exact k)
theorem cmp_b {p : Int → Int → Bool} {a b : Int} {c : Bool} {K : D → Prop} (e : p a b = c) (k : K (.bl c)) : oCmp p (.int a) (.int b) K := by
  show K (.bl (p a b))
  rw [e]
  exact k
theorem eq_b {a b : D} {c : Bool} {K : D → Prop} (ha : pl 60 a = true) (hb : pl 60 b = true) (e : eqD a b = c) (k : K (.bl c)) : oEq a b K := ⟨ha, hb, by rw [e]; exact k⟩
theorem ne_b {a b : D} {c : Bool} {K : D → Prop} (ha : pl 60 a = true) (hb : pl 60 b = true) (e : eqD a b = c) (k : K (.bl (!c))) : oNe a b K := ⟨ha, hb, by rw [e]; exact k⟩
theorem mret_of {ma : ME} {M : MEnds} {env : VL.Env} (h : ma env M.rt) : mRet ma M env := h
theorem mifx_t {t : MT} {a b : ME} {env : VL.Env} {Q : D → Prop} (h : ∀ K : Bool → Prop, K true → t env K) (k : a env Q) : mIf t a b env Q := h _ (by exact k)
theorem mifx_f {t : MT} {a b : ME} {env : VL.Env} {Q : D → Prop} (h : ∀ K : Bool → Prop, K false → t env K) (k : b env Q) : mIf t a b env Q := h _ (by exact k)
theorem ifNotT {b : Bool} {A B : Prop} (hb : b = true) (h : B) : if (!b) = true then A else B := by
  rw [hb]
  exact h
theorem int_b {b : Bool} {K : D → Prop} (h : ∀ i : Int, 0 ≤ i → i < 2 → K (.int i)) : oInt [.bl b] K := by
  cases b
  · exact h 0 (by decide) (by decide)
  · exact h 1 (by decide) (by decide)
theorem m_int_b {m : ME} {env : VL.Env} {K : D → Prop} (h : ∀ K2 : D → Prop, (∀ b : Bool, K2 (.bl b)) → m env K2) (k : ∀ i : Int, 0 ≤ i → i < 2 → K (.int i)) : mCall oInt (mCons m mNil) env K :=
  h _ fun b => by
    cases b
    · exact k 0 (by decide) (by decide)
    · exact k 1 (by decide) (by decide)
theorem mset_of {md : Md} {i : Nat} {ma : ME} {M : MEnds} {env : VL.Env} (h : ma env fun d => mPut md i d env M.nx) : mSet md i ma M env := h
theorem bt_two {i j : Nat} {x y : D} {env : VL.Env} {K : VL.Env → Prop} (h : K ((env.set i (some x)).set j (some y))) : bTup (bCons (bName i) (bCons (bName j) bNil)) (.tup [x, y]) env K := h
theorem while_true {X Y : Prop} {env : VL.Env} (h : X) : mB (mC (.bl true)) env (fun b => if b = true then X else Y) := by
  show (if true = true then X else Y)
  rw [if_pos rfl]
  exact h
theorem mor_t {m m' : MT} {env : VL.Env} {Q : Bool → Prop} (h : ∀ K : Bool → Prop, K true → m env K) (k : Q true) : mOr m m' env Q := h _ (by rw [if_pos rfl]; exact k)
theorem mor_f {m m' : MT} {env : VL.Env} {Q : Bool → Prop} (h : ∀ K : Bool → Prop, K false → m env K) (k : m' env Q) : mOr m m' env Q := h _ (by rw [if_neg Bool.false_ne_true]; exact k)
theorem mand_t {m m' : MT} {env : VL.Env} {Q : Bool → Prop} (h : ∀ K : Bool → Prop, K true → m env K) (k : m' env Q) : mAnd m m' env Q := h _ (by rw [if_pos rfl]; exact k)
theorem mand_f {m m' : MT} {env : VL.Env} {Q : Bool → Prop} (h : ∀ K : Bool → Prop, K false → m env K) (k : Q false) : mAnd m m' env Q := h _ (by rw [if_neg Bool.false_ne_true]; exact k)
theorem m2_of {o : D → D → (D → Prop) → Prop} {ma mb : ME} {env : VL.Env} {Q : D → Prop} (h : ma env fun x => mb env fun y => o x y Q) : m2 o ma mb env Q := h
theorem mb_of {m : ME} {env : VL.Env} {K : Bool → Prop} (h : m env fun d => isB d K) : mB m env K := h
theorem var_of {i : Nat} {d : D} {env : VL.Env} {Q : D → Prop} (h : env[i]? = some (some d)) (q : Q d) : mVar i env Q := by
  unfold mVar
  rw [h]
  exact q
theorem mif_or {t : MT} {a b : MS} {M : MEnds} {env : VL.Env} (c : Bool) (h : ∀ Q : Bool → Prop, Q c → t env Q) (k1 : c = true → a M env) (k2 : c = false → b M env) : mIfS t a b M env := h _ (by
  cases c with
  | true => exact k1 rfl
  | false => exact k2 rfl)
theorem mchain_gen {p1 p2 : Int → Int → Bool} {ma mb mc : ME} {env : VL.Env} {a b c : Int} {K : D → Prop} (ha : ∀ Q : D → Prop, Q (.int a) → ma env Q) (hb : ∀ Q : D → Prop, Q (.int b) → mb env Q) (hc : ∀ Q : D → Prop, Q (.int c) → mc env Q) (h : K (.bl (p1 a b && p2 b c))) : mChain (oCmp p1) (oCmp p2) ma mb mc env K := by
  refine ha _ (hb _ ?_)
  cases e : p1 a b with
  | false =>
    unfold oCmp
    simp only [e]
    rw [e] at h
    exact h
  | true =>
    unfold oCmp
    simp only [e]
    rw [e] at h
    exact hc _ h
theorem mext_of {sc : Bool} {k : Nat} {ma : ME} {xs : List D} {M : MEnds} {env : VL.Env} (he : env[k]? = some (some (.lst xs)))
    (h : ma env fun d => isL (some (some d)) fun ys => (sc = true → ys.all scD = true) ∧ xs.length + ys.length ≤ 100000 ∧ M.nx (env.set k (some (.lst (xs ++ ys))))) : mExt sc k ma M env := by
  unfold mExt
  rw [he]
  exact h
theorem mapp_of {sc : Bool} {k : Nat} {ma : ME} {xs : List D} {M : MEnds} {env : VL.Env} (he : env[k]? = some (some (.lst xs)))
    (h : ma env fun d => scIf sc d ∧ xs.length < 100000 ∧ M.nx (env.set k (some (.lst (xs ++ [d]))))) : mApp sc k ma M env := by
  unfold mApp
  rw [he]
  exact h
theorem mlc_of2 {mi : MA} {vs : List Nat} {b : MG} {mt : MT} {me : ME} {env : VL.Env} {Q : D → Prop} (h : mi env fun items => items.length ≤ 100000 ∧ lcM b mt me (wipeE env vs) items [] fun acc => Q (.lst acc)) : mLc mi vs b mt me env Q := h
theorem mitl_of {ma : ME} {env : VL.Env} {Q : List D → Prop} (h : ma env fun d => itL d Q) : mItL ma env Q := h
theorem mfor_of {lim : Bool} {mi : MA} {b : MG} {mb : MS} {M : MEnds} {env : VL.Env} (h : mi env fun items => (lim = true → items.length ≤ Nmax) ∧ forM b mb M items env) : mFor lim mi b mb M env := h
theorem mit_ofT {o : List D → (List D → Prop) → Prop} {ma : MA} {env : VL.Env} {Q : List D → Prop} (h : ma env fun ds => o ds Q) : mIt o ma env Q := h
theorem mset_ix {sc : Bool} {k : Nat} {ma mb : ME} {xs : List D} {M : MEnds} {env : VL.Env} (he : env[k]? = some (some (.lst xs)))
    (h : ma env fun d => mb env fun y => isI y fun i => scIf sc d ∧ match ixN xs.length i with
      | some j => M.nx (env.set k (some (.lst (xs.set j d))))
      | none => False) : mSetIx sc k ma mb M env := by
  unfold mSetIx
  rw [he]
  exact h
theorem mpar_of {md1 md2 : Md} {i j : Nat} {ma mb : ME} {M : MEnds} {env : VL.Env} (h : ma env fun d => mb env fun e => mPut md1 i d env fun env1 => mPut md2 j e env1 M.nx) : mPar md1 md2 i j ma mb M env := h
/-! texts as lists of signs -/
theorem str_iff {a b : Str} : a = b ↔ TL.tl a = TL.tl b := ⟨fun e => by rw [e], TL.ext_tl⟩
def mkS (l : List Nat) : Str := ⟨l.toArray⟩
theorem tl_mkS (l : List Nat) : TL.tl (mkS l) = l := TL.tl_mk l
theorem mkS_tl (a : Str) : mkS (TL.tl a) = a := TL.mk_tl a
theorem decT {a b : Str} : decide (a = b) = decide (TL.tl a = TL.tl b) := by
  by_cases c : a = b
  · rw [c, decide_eq_true rfl, decide_eq_true rfl]
  · rw [decide_eq_false c, decide_eq_false fun e => c (TL.ext_tl e)]
theorem tl_cut_lo (a : Str) {k : Nat} : TL.tl (cutS a (some (k : Int)) none) = (TL.tl a).drop k := by
  show ((a.cps.toList.drop (HT.sIx a.length 0 (some (k : Int)))).take (HT.sIx a.length a.length none - HT.sIx a.length 0 (some (k : Int)))).toArray.toList = (TL.tl a).drop k
  have e : HT.sIx a.length 0 (some (k : Int)) = min k a.length := by
    show (if (k : Int) < 0 then ((k : Int) + a.length).toNat else min (k : Int).toNat a.length) = _
    rw [if_neg (by omega), Int.toNat_natCast]
  have l := TL.len_tl a
  have e2 : HT.sIx a.length a.length none = a.length := rfl
  rw [e, e2, List.toList_toArray]
  show ((TL.tl a).drop (min k a.length)).take (a.length - min k a.length) = _
  by_cases c : k ≤ a.length
  · rw [Nat.min_eq_left c, List.take_of_length_le (by rw [List.length_drop]; omega)]
  · rw [Nat.min_eq_right (by omega), Nat.sub_self, List.take_zero, List.drop_of_length_le (by omega)]
theorem tl_cut_hi (a : Str) {k : Nat} : TL.tl (cutS a none (some (k : Int))) = (TL.tl a).take k := by
  show ((a.cps.toList.drop (HT.sIx a.length 0 none)).take (HT.sIx a.length a.length (some (k : Int)) - HT.sIx a.length 0 none)).toArray.toList = (TL.tl a).take k
  have e : HT.sIx a.length a.length (some (k : Int)) = min k a.length := by
    show (if (k : Int) < 0 then ((k : Int) + a.length).toNat else min (k : Int).toNat a.length) = _
    rw [if_neg (by omega), Int.toNat_natCast]
  have l := TL.len_tl a
  have e2 : HT.sIx a.length 0 none = 0 := rfl
  rw [e, e2, List.toList_toArray, Nat.sub_zero, List.drop_zero]
  show (TL.tl a).take (min k a.length) = _
  by_cases c : k ≤ a.length
  · rw [Nat.min_eq_left c]
  · rw [Nat.min_eq_right (by omega), List.take_of_length_le (by omega), List.take_of_length_le (by omega)]
theorem mcall_ofT {f : List D → (D → Prop) → Prop} {a : MA} {env : VL.Env} {Q : D → Prop} (h : a env fun ds => f ds Q) : mCall f a env Q := h
theorem slS_of {m : ME} {ml mh : MO} {env : VL.Env} {Q : D → Prop} {z : Str} {lo hi : Option Int} (h : ∀ P : D → Prop, P (.str z) → m env P) (hl : ∀ P : Option Int → Prop, P lo → ml env P) (hh : ∀ P : Option Int → Prop, P hi → mh env P) (hz : z.length ≤ 16000000) (q : Q (.str (cutS z lo hi))) : mSlS m ml mh env Q :=
  h _ (hl _ (hh _ ⟨hz, q⟩))
/-! reading an integer -/
def dg (c : Nat) : Bool := decide (48 ≤ c ∧ c ≤ 57)
def digs (l : List Nat) : List Nat := if l.head? = some 45 then l.tail else l
def okNum (l : List Nat) : Bool := decide (1 ≤ (digs l).length ∧ (digs l).length ≤ 40) && (digs l).all dg && !(decide ((digs l).head? = some 48) && !decide (l = [48]))
def nVal (l : List Nat) : Int := if l.head? = some 45 then -((NumText.digitsVal (digs l) : Nat) : Int) else ((NumText.digitsVal (digs l) : Nat) : Int)
def nText (l : List Nat) : Option Int := if okNum l = true then some (nVal l) else none
theorem digs_len (l : List Nat) : (digs l).length ≤ l.length ∧ l.length ≤ (digs l).length + 1 := by
  unfold digs
  split
  · rw [List.length_tail]
    omega
  · omega
theorem okNum_iff {l : List Nat} : okNum l = true ↔ (1 ≤ (digs l).length ∧ (digs l).length ≤ 40) ∧ (digs l).all dg = true ∧ ((digs l).head? = some 48 → l = [48]) := by
  unfold okNum
  rw [Bool.and_eq_true, Bool.and_eq_true, decide_eq_true_eq, Bool.not_eq_true', Bool.and_eq_false_iff, decide_eq_false_iff_not, Bool.not_eq_false', decide_eq_true_eq]
  constructor
  · rintro ⟨⟨h1, h2⟩, h3⟩
    exact ⟨h1, h2, fun e => h3.elim (fun n => absurd e n) id⟩
  · rintro ⟨h1, h2, h3⟩
    refine ⟨⟨h1, h2⟩, ?_⟩
    by_cases c : (digs l).head? = some 48
    · exact .inr (h3 c)
    · exact .inl c
theorem all_dg {l : List Nat} (h : l.all dg = true) : NumText.AllDigits l := fun c hc => of_decide_eq_true (List.all_eq_true.mp h c hc)
theorem int_text {a : Str} (h : okNum (TL.tl a) = true) : PySem.intText? a = some (nVal (TL.tl a)) ∧ a.length ≤ 41 := by
  obtain ⟨h1, h2, h3⟩ := okNum_iff.mp h
  have dl := digs_len (TL.tl a)
  have al : a.length ≤ 41 := by rw [TL.len_tl]; omega
  refine ⟨?_, al⟩
  have hd := all_dg h2
  have hne : digs (TL.tl a) ≠ [] := fun e => by rw [e] at h1; simp at h1
  unfold nVal
  by_cases c : (TL.tl a).head? = some 45
  · rw [if_pos c]
    have e : digs (TL.tl a) = (TL.tl a).tail := by unfold digs; rw [if_pos c]
    rw [e] at hd hne ⊢
    obtain ⟨cs, hcs⟩ : ∃ cs, TL.tl a = 45 :: cs := by
      cases q : TL.tl a with
      | nil => rw [q] at c; cases c
      | cons x r => rw [q] at c; cases c; exact ⟨r, rfl⟩
    rw [hcs] at hd hne ⊢
    exact PySem.intText_neg hcs hd hne (by omega)
  · rw [if_neg c]
    have e : digs (TL.tl a) = TL.tl a := by unfold digs; rw [if_neg c]
    rw [e] at hd hne ⊢
    exact PySem.intText_digits hd hne (by omega)
theorem dVal_lt : ∀ (l : List Nat), NumText.AllDigits l → NumText.digitsVal l < 10 ^ l.length := by
  intro l
  have key : ∀ (l : List Nat) (acc n : Nat), acc < 10 ^ n → NumText.AllDigits l → l.foldl (fun acc c => acc * 10 + (c - 48)) acc < 10 ^ (n + l.length) := by
    intro l
    induction l with
    | nil => intro acc n h _; simpa using h
    | cons c r ih =>
      intro acc n h hd
      have hc := hd.head
      rw [List.foldl_cons]
      have z := ih (acc * 10 + (c - 48)) (n + 1) (by rw [Nat.pow_succ]; omega) hd.tail
      rw [List.length_cons, show n + (r.length + 1) = n + 1 + r.length by omega]
      exact z
  intro hd
  have z := key l 0 0 (by decide) hd
  rw [Nat.zero_add] at z
  exact z
theorem nText_bd {l : List Nat} {i : Int} (h : nText l = some i) : lt10 40 i := by
  unfold nText at h
  split at h
  · rename_i ok
    obtain ⟨h1, h2, h3⟩ := okNum_iff.mp ok
    cases h
    have z := dVal_lt _ (all_dg h2)
    have y : 10 ^ (digs l).length ≤ 10 ^ 40 := Nat.pow_le_pow_right (by decide) h1.2
    unfold lt10 nVal
    split
    · rw [Int.natAbs_neg, Int.natAbs_natCast]
      omega
    · rw [Int.natAbs_natCast]
      omega
  · cases h
theorem inS_dg (c : Nat) : inS ⟨#[c]⟩ ("0123456789" : Str) = dg c := by
  unfold inS dg
  rw [PySem.StrLaws.found_one]
  have e : ("0123456789" : Str).cps.toList = [48, 49, 50, 51, 52, 53, 54, 55, 56, 57] := by decide +kernel
  rw [e]
  refine decide_eq_decide.mpr ?_
  simp only [List.mem_cons, List.not_mem_nil, or_false]
  omega
theorem tl_minus : TL.tl ("-" : Str) = [45] := by decide +kernel
theorem tl_zero : TL.tl ("0" : Str) = [48] := by decide +kernel
theorem tl_empty : TL.tl ("" : Str) = [] := by decide +kernel
theorem take_one {l : List Nat} {c : Nat} : l.take 1 = [c] ↔ l.head? = some c := by
  cases l with
  | nil => simp
  | cons x r => simp
theorem starts_minus (a : Str) : Txt.startswith a ("-" : Str) = decide ((TL.tl a).head? = some 45) := by
  unfold Txt.startswith
  rw [PySem.StrLaws.subAt_eq]
  have l1 : ("-" : Str).length = 1 := by decide +kernel
  have e1 : ("-" : Str).cps.toList = [45] := tl_minus
  rw [l1, e1, List.drop_zero]
  have la := TL.len_tl a
  show (decide (0 + 1 ≤ a.length) && ((TL.tl a).take 1 == [45])) = _
  by_cases c : (TL.tl a).head? = some 45
  · rw [decide_eq_true c, take_one.mpr c]
    have : (TL.tl a) ≠ [] := fun e => by rw [e] at c; cases c
    have := List.length_pos_iff.mpr this
    rw [decide_eq_true (by omega)]
    rfl
  · rw [decide_eq_false c]
    have n : ((TL.tl a).take 1 == [45]) = false := by
      rw [beq_eq_false_iff_ne]
      exact fun e => c (take_one.mp e)
    rw [n, Bool.and_false]
theorem mc_of {d : D} {env : VL.Env} {Q : D → Prop} (h : Q d) : mC d env Q := h
theorem mconsT {a : ME} {r : MA} {env : VL.Env} {Q : List D → Prop} (h : a env fun d => r env fun ds => Q (d :: ds)) : mCons a r env Q := h
theorem mnil_of {env : VL.Env} {Q : List D → Prop} (h : Q []) : mNil env Q := h
theorem ms1_of {o : Str → (D → Prop) → Prop} {ma : ME} {env : VL.Env} {Q : D → Prop} (h : ma env fun x => isS x fun a => o a Q) : mS1 o ma env Q := h
theorem ms2_of {o : Str → D → (D → Prop) → Prop} {ma mb : ME} {env : VL.Env} {Q : D → Prop} {a : Str} (h : ∀ P : D → Prop, P (.str a) → ma env P) (k : mb env fun y => o a y Q) : mS2 o ma mb env Q := h _ k
theorem mcons_nil {d : D} {env : VL.Env} {Q : List D → Prop} (h : Q [d]) : mNil env fun ds => Q (d :: ds) := h
def optD : Option Int → D
  | some i => .int i
  | none => .non
def lstO : Option Int → List Int
  | some i => [i]
  | none => []
theorem signs_map (x : Str) (F : D → D) : (signsD x).map F = (TL.tl x).map fun c => F (.str ⟨#[c]⟩) := by
  unfold signsD
  rw [List.map_map]
  rfl
theorem ix_str {x : Str} {c : Nat} {r : List Nat} (h : TL.tl x = c :: r) (hl : x.length ≤ 100000) (Q : D → Prop) (q : Q (.str ⟨#[c]⟩)) : oIx (.str x) (.int 0) Q := by
  refine ⟨hl, ?_⟩
  have e : atI x.cps.toList 0 = some c := by
    show atI (TL.tl x) 0 = some c
    rw [h]
    unfold atI ixN
    rw [if_pos (by decide), if_pos (by rw [List.length_cons]; omega)]
    rfl
  rw [e]
  exact q
theorem oLen_str {x : Str} (hl : x.length ≤ 100000) {Q : D → Prop} (q : Q (.int x.length)) : oLen [.str x] Q := ⟨hl, q⟩
theorem dec_one (c k : Nat) : decide ((⟨#[c]⟩ : Str) = mkS [k]) = decide (c = k) := by
  rw [decT, tl_mkS]
  have e : TL.tl (⟨#[c]⟩ : Str) = [c] := rfl
  rw [e]
  refine decide_eq_decide.mpr ⟨fun e => by injection e, fun e => by rw [e]⟩
theorem str_zero : ("0" : Str) = mkS [48] := str_iff.mpr (by rw [tl_zero, tl_mkS])
def inF : D → D := fun d => match d with
  | .str z => .bl (inS z ("0123456789" : Str))
  | d => d
theorem inF_map (x : Str) : (signsD x).map inF = ((TL.tl x).map dg).map D.bl := by
  rw [signs_map, List.map_map]
  refine List.map_congr_left fun c _ => ?_
  show D.bl (inS ⟨#[c]⟩ ("0123456789" : Str)) = .bl (dg c)
  rw [inS_dg]
/-- number_in -/
theorem number_law {a : Str} (ha : a.length ≤ 100000) (Q : D → Prop) (h : Q (optD (nText (TL.tl a)))) : f_number_in [.str a] Q := by
  refine ⟨rfl, ?_⟩
  unfold m_number_in
  obtain ⟨x, hx⟩ : ∃ x : Str, TL.tl x = digs (TL.tl a) := ⟨mkS (digs (TL.tl a)), tl_mkS _⟩
  have dl := digs_len (TL.tl a)
  have xl : x.length = (digs (TL.tl a)).length := by rw [TL.len_tl, hx]
  have xa : x.length ≤ 100000 := by rw [xl]; have := TL.len_tl a; omega
  refine seq_via (fun e => e = [some (.str a), some (.str x), none]) ?_ ?_
  · intro N hN _ _ _
    have z1 : ∀ K : Bool → Prop, K (decide ((TL.tl a).head? = some 45)) → mB (m2 (oEqS false) (mSlS (mVar 0) mNo (mPart (mC (.int 1)))) (mC (.str "-"))) [some (.str a), none, none] K := fun K q => by
      refine mb_of (m2_of (slS_of (z := a) (lo := none) (hi := some ((1 : Nat) : Int)) (fun P hP => hP) (fun P hP => hP) (fun P hP => hP) (by omega) ?_))
      show K (decide (cutS a none (some ((1 : Nat) : Int)) = ("-" : Str)))
      rw [decT, tl_cut_hi, tl_minus]
      rw [show decide ((TL.tl a).take 1 = [45]) = decide ((TL.tl a).head? = some 45) from decide_eq_decide.mpr take_one]
      exact q
    by_cases c : (TL.tl a).head? = some 45
    · refine mifx_t (fun K q => z1 K (by rw [decide_eq_true c]; exact q)) ?_
      refine slS_of (z := a) (lo := some ((1 : Nat) : Int)) (hi := none) (fun P hP => hP) (fun P hP => hP) (fun P hP => hP) (by omega) ?_
      have e : cutS a (some ((1 : Nat) : Int)) none = x := TL.ext_tl (by
        rw [tl_cut_lo, hx]
        unfold digs
        rw [if_pos c, List.drop_one])
      rw [e]
      exact hN _ rfl
    · refine mifx_f (fun K q => z1 K (by rw [decide_eq_false c]; exact q)) ?_
      have e : a = x := TL.ext_tl (by
        rw [hx]
        unfold digs
        rw [if_neg c])
      show N.nx [some (.str a), some (.str a), none]
      have z := hN _ rfl
      rw [← e] at z
      exact z
  rintro _ rfl
  have q1 : ∀ K : Bool → Prop, K (decide (1 ≤ (digs (TL.tl a)).length ∧ (digs (TL.tl a)).length ≤ 40)) → mB (mChain (oCmp (fun i j => decide (i ≤ j))) (oCmp (fun i j => decide (i ≤ j))) (mC (.int 1)) (mCall oLen (mCons (mVar 1) mNil)) (mC (.int (40)))) [some (.str a), some (.str x), none] K := fun K q => by
    refine mchain_gen (a := 1) (b := x.length) (c := 40) (fun P hP => hP) (fun P hP => oLen_str xa hP) (fun P hP => hP) ?_
    show K (decide ((1 : Int) ≤ (x.length : Int)) && decide ((x.length : Int) ≤ 40))
    have e : (decide ((1 : Int) ≤ (x.length : Int)) && decide ((x.length : Int) ≤ 40)) = decide (1 ≤ (digs (TL.tl a)).length ∧ (digs (TL.tl a)).length ≤ 40) := by
      rw [← Bool.decide_and]
      exact decide_eq_decide.mpr (by rw [xl]; omega)
    rw [e]
    exact q
  have q2 : ∀ K : Bool → Prop, K ((digs (TL.tl a)).all dg) → mB (mCall oAll (mCons (mLc (mItS (mVar 1)) [2] (bName 2) mYes (m2 (oInS false) (mVar 2) (mC (.str "0123456789")))) mNil)) [some (.str a), some (.str x), none] K := fun K q => by
    refine ⟨by unfold signsD; rw [List.length_map]; exact xa, ?_⟩
    refine lc_all inF _ ?_ ?_
    · intro d hd P hP
      unfold signsD at hd
      obtain ⟨c, _, rfl⟩ := List.mem_map.mp hd
      exact hP
    · rw [inF_map]
      show oAll [.lst (((TL.tl x).map dg).map D.bl)] (fun d => isB d K)
      unfold oAll
      dsimp only
      rw [boolsOf_map]
      show K (((TL.tl x).map dg).all id)
      rw [List.all_map, hx]
      exact q
  by_cases g1 : 1 ≤ (digs (TL.tl a)).length ∧ (digs (TL.tl a)).length ≤ 40
  · by_cases g2 : (digs (TL.tl a)).all dg = true
    · refine seq_via (fun e => e = [some (.str a), some (.str x), none]) ?_ ?_
      · intro N hN _ _ _
        refine mif_f (fun K q => mor_f (fun K2 k2 => ?_) ?_) (hN _ rfl)
        · exact q1 _ (by rw [decide_eq_true g1]; exact k2)
        · exact q2 _ (by rw [g2]; exact q)
      rintro _ rfl
      obtain ⟨c, r, hcr⟩ : ∃ c r, digs (TL.tl a) = c :: r := by
        cases e : digs (TL.tl a) with
        | nil => rw [e] at g1; simp at g1
        | cons c r => exact ⟨c, r, rfl⟩
      have ix : ∀ K : Bool → Prop, K (decide (c = 48)) → mB (m2 (oEqS false) (m2 oIx (mVar 1) (mC (.int 0))) (mC (.str "0"))) [some (.str a), some (.str x), none] K := fun K q => by
        refine mb_of (m2_of (m2_of (var_of rfl (mc_of ?_))))
        refine ix_str (hx.trans hcr) xa _ ?_
        show K (decide ((⟨#[c]⟩ : Str) = ("0" : Str)))
        rw [str_zero, dec_one]
        exact q
      have na : ∀ K : Bool → Prop, K (!decide (TL.tl a = [48])) → mB (m2 (oEqS true) (mVar 0) (mC (.str "0"))) [some (.str a), some (.str x), none] K := fun K q => by
        show K (!decide (a = ("0" : Str)))
        rw [decT, tl_zero]
        exact q
      by_cases g3 : c = 48 ∧ TL.tl a ≠ [48]
      · have e : nText (TL.tl a) = none := by
          unfold nText
          rw [if_neg]
          intro ok
          have z := (okNum_iff.mp ok).2.2
          rw [hcr, g3.1] at z
          exact g3.2 (z rfl)
        rw [e] at h
        refine seq_via (fun _ => False) ?_ (fun _ z => z.elim)
        intro N _ hrt _ _
        refine mif_t (fun K q => mand_t (fun K2 k2 => ix _ (by rw [decide_eq_true g3.1]; exact k2)) (na _ (by rw [decide_eq_false g3.2]; exact q))) ?_
        refine mret_of ?_
        rw [hrt]
        exact h
      · have ok : okNum (TL.tl a) = true := okNum_iff.mpr ⟨g1, g2, fun e => by
          rw [hcr] at e
          cases e
          exact Classical.byContradiction fun n => g3 ⟨rfl, n⟩⟩
        have it := int_text ok
        have e : nText (TL.tl a) = some (nVal (TL.tl a)) := by
          unfold nText
          rw [if_pos ok]
        rw [e] at h
        refine seq_via (fun e => e = [some (.str a), some (.str x), none]) ?_ ?_
        · intro N hN _ _ _
          by_cases c48 : c = 48
          · have n : TL.tl a = [48] := Classical.byContradiction fun n => g3 ⟨c48, n⟩
            refine mif_f (fun K q => mand_t (fun K2 k2 => ix _ (by rw [decide_eq_true c48]; exact k2)) (na _ (by rw [decide_eq_true n]; exact q))) (hN _ rfl)
          · refine mif_f (fun K q => mand_f (fun K2 k2 => ix _ (by rw [decide_eq_false c48]; exact k2)) q) (hN _ rfl)
        rintro _ rfl
        refine mret_of (mcall_ofT ?_)
        show oIntS [.str a] _
        unfold oIntS
        dsimp only
        rw [it.1]
        exact ⟨by omega, h⟩
    · have e : nText (TL.tl a) = none := by
        unfold nText
        rw [if_neg]
        intro ok
        exact g2 (okNum_iff.mp ok).2.1
      rw [e] at h
      refine seq_via (fun _ => False) ?_ (fun _ z => z.elim)
      intro N _ hrt _ _
      refine mif_t (fun K q => mor_f (fun K2 k2 => q1 _ (by rw [decide_eq_true g1]; exact k2)) (q2 _ (by rw [Bool.eq_false_iff.mpr g2]; exact q))) ?_
      refine mret_of ?_
      rw [hrt]
      exact h
  · have e : nText (TL.tl a) = none := by
      unfold nText
      rw [if_neg]
      intro ok
      exact g1 (okNum_iff.mp ok).1
    rw [e] at h
    refine seq_via (fun _ => False) ?_ (fun _ z => z.elim)
    intro N _ hrt _ _
    refine mif_t (fun K q => mor_t (fun K2 k2 => q1 _ (by rw [decide_eq_false g1]; exact k2)) q) ?_
    refine mret_of ?_
    rw [hrt]
    exact h

def notD : D → Bool := fun d => match d with
  | .str z => !(inS z ("0123456789" : Str))
  | _ => false
theorem notD_nil (x : Str) : ((signsD x).filter notD).isEmpty = (TL.tl x).all dg := by
  have e : (signsD x).filter notD = ((TL.tl x).filter fun c => !dg c).map fun c => D.str ⟨#[c]⟩ := by
    unfold signsD
    rw [List.filter_map]
    have f : (notD ∘ fun c => D.str ⟨#[c]⟩) = fun c => !dg c := by
      funext c
      show (!(inS ⟨#[c]⟩ ("0123456789" : Str))) = !dg c
      rw [inS_dg]
    rw [f]
  rw [e]
  cases h : (TL.tl x).all dg with
  | true =>
    have z : (TL.tl x).filter (fun c => !dg c) = [] := List.filter_eq_nil_iff.mpr fun c hc => by
      rw [List.all_eq_true.mp h c hc]
      exact Bool.false_ne_true
    rw [z]
    rfl
  | false =>
    obtain ⟨c, hc, hd⟩ : ∃ c ∈ TL.tl x, dg c = false := by
      refine Classical.byContradiction fun n => ?_
      rw [List.all_eq_true.mpr fun c hc => (by
        cases q : dg c with
        | true => rfl
        | false => exact absurd ⟨c, hc, q⟩ n)] at h
      cases h
    have z : c ∈ (TL.tl x).filter fun c => !dg c := List.mem_filter.mpr ⟨hc, by rw [hd]; rfl⟩
    cases q : (TL.tl x).filter fun c => !dg c with
    | nil => rw [q] at z; cases z
    | cons _ _ => rfl
/-- the law's own reading of an integer -/
theorem integer_law {a : Str} (ha : a.length ≤ 100000) (Q : D → Prop) (h : Q (.lst (iD (lstO (nText (TL.tl a)))))) : f_l_integer [.str a] Q := by
  refine ⟨rfl, ?_⟩
  unfold m_l_integer
  obtain ⟨x, hx⟩ : ∃ x : Str, TL.tl x = digs (TL.tl a) := ⟨mkS (digs (TL.tl a)), tl_mkS _⟩
  have dl := digs_len (TL.tl a)
  have xl : x.length = (digs (TL.tl a)).length := by rw [TL.len_tl, hx]
  have xa : x.length ≤ 100000 := by rw [xl]; have := TL.len_tl a; omega
  refine seq_via (fun e => e = [some (.str a), some (.str a), none]) (fun N hN _ _ _ => hN _ rfl) ?_
  rintro _ rfl
  refine seq_via (fun e => e = [some (.str a), some (.str x), none]) ?_ ?_
  · intro N hN _ _ _
    have z1 : ∀ K : Bool → Prop, K (decide ((TL.tl a).head? = some 45)) → mB (mS2 oStarts (mVar 0) (mC (.str "-"))) [some (.str a), some (.str a), none] K := fun K q => by
      show K (Txt.startswith a ("-" : Str))
      rw [starts_minus]
      exact q
    by_cases c : (TL.tl a).head? = some 45
    · refine mif_t (fun K q => z1 K (by rw [decide_eq_true c]; exact q)) ?_
      refine mset_of (slS_of (z := a) (lo := some ((1 : Nat) : Int)) (hi := none) (fun P hP => hP) (fun P hP => hP) (fun P hP => hP) (by omega) ?_)
      have e : cutS a (some ((1 : Nat) : Int)) none = x := TL.ext_tl (by
        rw [tl_cut_lo, hx]
        unfold digs
        rw [if_pos c, List.drop_one])
      rw [e]
      exact hN _ rfl
    · refine mif_f (fun K q => z1 K (by rw [decide_eq_false c]; exact q)) ?_
      have e : a = x := TL.ext_tl (by
        rw [hx]
        unfold digs
        rw [if_neg c])
      show N.nx [some (.str a), some (.str a), none]
      have z := hN _ rfl
      rw [← e] at z
      exact z
  rintro _ rfl
  have q0 : ∀ K : Bool → Prop, K (decide (digs (TL.tl a) = [])) → mB (m2 (oEqS false) (mVar 1) (mC (.str ""))) [some (.str a), some (.str x), none] K := fun K q => by
    show K (decide (x = ("" : Str)))
    rw [decT, tl_empty, hx]
    exact q
  have q1 : ∀ K : Bool → Prop, K (decide (40 < (digs (TL.tl a)).length)) → mB (m2 (oCmp (fun i j => decide (j < i))) (mCall oLen (mCons (mVar 1) mNil)) (mC (.int 40))) [some (.str a), some (.str x), none] K := fun K q => by
    refine mb_of (m2_of (mcall_ofT (mconsT (var_of rfl (mnil_of (oLen_str xa ?_))))))
    show K (decide ((40 : Int) < (x.length : Int)))
    rw [show decide ((40 : Int) < (x.length : Int)) = decide (40 < (digs (TL.tl a)).length) from decide_eq_decide.mpr (by rw [xl]; omega)]
    exact q
  have q2 : ∀ K : Bool → Prop, K (!(digs (TL.tl a)).all dg) → mB (m2 oNeL0 (mLc (mItS (mVar 1)) [2] (bName 2) (mB (m2 (oInS true) (mVar 2) (mC (.str "0123456789")))) (mVar 2)) (mCall oLst mNil)) [some (.str a), some (.str x), none] K := fun K q => by
    refine ⟨by unfold signsD; rw [List.length_map]; exact xa, ?_⟩
    refine lc_law notD id _ [] ?_ ?_
    · intro d hd P N h1 h2
      unfold signsD at hd
      obtain ⟨c, _, rfl⟩ := List.mem_map.mp hd
      show if (!(inS ⟨#[c]⟩ ("0123456789" : Str))) = true then P (.str ⟨#[c]⟩) else N
      have h1 : (!(inS ⟨#[c]⟩ ("0123456789" : Str))) = true → P (.str ⟨#[c]⟩) := h1
      have h2 : (!(inS ⟨#[c]⟩ ("0123456789" : Str))) = false → N := h2
      cases e : (!(inS ⟨#[c]⟩ ("0123456789" : Str))) with
      | true => rw [if_pos rfl]; exact h1 e
      | false => rw [if_neg Bool.false_ne_true]; exact h2 e
    · rw [List.map_id, List.nil_append]
      refine ⟨len_le rfl, ?_⟩
      show K (!((signsD x).filter notD).isEmpty)
      rw [notD_nil, hx]
      exact q
  by_cases g0 : digs (TL.tl a) = []
  · have e : nText (TL.tl a) = none := by
      unfold nText
      rw [if_neg]
      intro ok
      have z := (okNum_iff.mp ok).1.1
      rw [g0] at z
      simp at z
    rw [e] at h
    refine seq_via (fun _ => False) ?_ (fun _ z => z.elim)
    intro N _ hrt _ _
    refine mif_t (fun K q => mor_t (fun K2 k2 => q0 _ (by rw [decide_eq_true g0]; exact k2)) q) ?_
    refine mret_of ?_
    rw [hrt]
    exact ⟨len_le rfl, h⟩
  have g00 := List.length_pos_iff.mpr g0
  by_cases g1 : (digs (TL.tl a)).length ≤ 40
  · by_cases g2 : (digs (TL.tl a)).all dg = true
    · refine seq_via (fun e => e = [some (.str a), some (.str x), none]) ?_ ?_
      · intro N hN _ _ _
        refine mif_f (fun K q => mor_f (fun K2 k2 => ?_) (mor_f (fun K3 k3 => ?_) ?_)) (hN _ rfl)
        · exact q0 _ (by rw [decide_eq_false g0]; exact k2)
        · exact q1 _ (by rw [decide_eq_false (by omega)]; exact k3)
        · exact q2 _ (by rw [g2]; exact q)
      rintro _ rfl
      obtain ⟨c, r, hcr⟩ : ∃ c r, digs (TL.tl a) = c :: r := by
        cases e : digs (TL.tl a) with
        | nil => exact absurd e g0
        | cons c r => exact ⟨c, r, rfl⟩
      have ix : ∀ K : Bool → Prop, K (decide (c = 48)) → mB (m2 (oEqS false) (m2 oIx (mVar 1) (mC (.int 0))) (mC (.str "0"))) [some (.str a), some (.str x), none] K := fun K q => by
        refine mb_of (m2_of (m2_of (var_of rfl (mc_of ?_))))
        refine ix_str (hx.trans hcr) xa _ ?_
        show K (decide ((⟨#[c]⟩ : Str) = ("0" : Str)))
        rw [str_zero, dec_one]
        exact q
      have na : ∀ K : Bool → Prop, K (!decide (TL.tl a = [48])) → mB (m2 (oEqS true) (mVar 0) (mC (.str "0"))) [some (.str a), some (.str x), none] K := fun K q => by
        show K (!decide (a = ("0" : Str)))
        rw [decT, tl_zero]
        exact q
      by_cases g3 : c = 48 ∧ TL.tl a ≠ [48]
      · have e : nText (TL.tl a) = none := by
          unfold nText
          rw [if_neg]
          intro ok
          have z := (okNum_iff.mp ok).2.2
          rw [hcr, g3.1] at z
          exact g3.2 (z rfl)
        rw [e] at h
        refine seq_via (fun _ => False) ?_ (fun _ z => z.elim)
        intro N _ hrt _ _
        refine mif_t (fun K q => mand_t (fun K2 k2 => ix _ (by rw [decide_eq_true g3.1]; exact k2)) (na _ (by rw [decide_eq_false g3.2]; exact q))) ?_
        refine mret_of ?_
        rw [hrt]
        exact ⟨len_le rfl, h⟩
      · have ok : okNum (TL.tl a) = true := okNum_iff.mpr ⟨⟨g00, g1⟩, g2, fun e => by
          rw [hcr] at e
          cases e
          exact Classical.byContradiction fun n => g3 ⟨rfl, n⟩⟩
        have it := int_text ok
        have e : nText (TL.tl a) = some (nVal (TL.tl a)) := by
          unfold nText
          rw [if_pos ok]
        rw [e] at h
        refine seq_via (fun e => e = [some (.str a), some (.str x), none]) ?_ ?_
        · intro N hN _ _ _
          by_cases c48 : c = 48
          · have n : TL.tl a = [48] := Classical.byContradiction fun n => g3 ⟨c48, n⟩
            refine mif_f (fun K q => mand_t (fun K2 k2 => ix _ (by rw [decide_eq_true c48]; exact k2)) (na _ (by rw [decide_eq_true n]; exact q))) (hN _ rfl)
          · refine mif_f (fun K q => mand_f (fun K2 k2 => ix _ (by rw [decide_eq_false c48]; exact k2)) q) (hN _ rfl)
        rintro _ rfl
        refine mret_of (mcall_ofT (mconsT (mcall_ofT (mconsT (var_of rfl (mnil_of ?_))))))
        show oIntS [.str a] _
        unfold oIntS
        dsimp only
        rw [it.1]
        exact ⟨by omega, len_le rfl, h⟩
    · have e : nText (TL.tl a) = none := by
        unfold nText
        rw [if_neg]
        intro ok
        exact g2 (okNum_iff.mp ok).2.1
      rw [e] at h
      refine seq_via (fun _ => False) ?_ (fun _ z => z.elim)
      intro N _ hrt _ _
      refine mif_t (fun K q => mor_f (fun K2 k2 => q0 _ (by rw [decide_eq_false g0]; exact k2)) (mor_f (fun K3 k3 => q1 _ (by rw [decide_eq_false (by omega)]; exact k3)) (q2 _ (by rw [Bool.eq_false_iff.mpr g2]; exact q)))) ?_
      refine mret_of ?_
      rw [hrt]
      exact ⟨len_le rfl, h⟩
  · have e : nText (TL.tl a) = none := by
      unfold nText
      rw [if_neg]
      intro ok
      exact g1 (okNum_iff.mp ok).1.2
    rw [e] at h
    refine seq_via (fun _ => False) ?_ (fun _ z => z.elim)
    intro N _ hrt _ _
    refine mif_t (fun K q => mor_f (fun K2 k2 => q0 _ (by rw [decide_eq_false g0]; exact k2)) (mor_t (fun K3 k3 => q1 _ (by rw [decide_eq_true (by omega)]; exact k3)) q)) ?_
    refine mret_of ?_
    rw [hrt]
    exact ⟨len_le rfl, h⟩
/-- several -/
def allO : List (Option Int) → Option (List Int)
  | [] => some []
  | some i :: r => (allO r).map (i :: ·)
  | none :: _ => none
def catO (l : List (Option Int)) : List Int := l.flatMap lstO
theorem catO_len : ∀ l : List (Option Int), (catO l).length ≤ l.length ∧ ((catO l).length = l.length ↔ (allO l).isSome = true)
  | [] => ⟨Nat.le_refl _, by simp [catO, allO]⟩
  | some i :: r => by
    have z := catO_len r
    have e : catO (some i :: r) = i :: catO r := rfl
    rw [e]
    refine ⟨by simp only [List.length_cons]; omega, ?_⟩
    have e2 : (allO (some i :: r)).isSome = (allO r).isSome := by
      show ((allO r).map (i :: ·)).isSome = _
      rw [Option.isSome_map]
    rw [e2, ← z.2, List.length_cons, List.length_cons]
    omega
  | none :: r => by
    have z := catO_len r
    have e : catO (none :: r) = catO r := rfl
    rw [e]
    refine ⟨by simp only [List.length_cons]; omega, ?_⟩
    have e2 : (allO (none :: r)).isSome = false := rfl
    rw [e2, List.length_cons]
    constructor
    · omega
    · intro h; cases h
theorem catO_all : ∀ (l : List (Option Int)) {xs : List Int}, allO l = some xs → catO l = xs ∧ xs.length = l.length
  | [], xs, h => by cases h; exact ⟨rfl, rfl⟩
  | some i :: r, xs, h => by
    have h : (allO r).map (i :: ·) = some xs := h
    cases q : allO r with
    | none => rw [q] at h; cases h
    | some ys =>
      rw [q] at h
      cases h
      have z := catO_all r q
      refine ⟨?_, by rw [List.length_cons, List.length_cons, z.2]⟩
      show i :: catO r = i :: ys
      rw [z.1]
  | none :: _, xs, h => by cases h
theorem allO_bd : ∀ (ws : List Str) {xs : List Int}, allO (ws.map fun w => nText (TL.tl w)) = some xs → ∀ x ∈ xs, lt10 40 x
  | [], xs, h => by
    cases h
    exact fun _ h => nomatch h
  | w :: ws, xs, h => by
    cases e : nText (TL.tl w) with
    | none =>
      have h : allO (nText (TL.tl w) :: ws.map fun w => nText (TL.tl w)) = some xs := h
      rw [e] at h
      cases h
    | some i =>
      have h : allO (nText (TL.tl w) :: ws.map fun w => nText (TL.tl w)) = some xs := h
      rw [e] at h
      have h : (allO (ws.map fun w => nText (TL.tl w))).map (i :: ·) = some xs := h
      cases q : allO (ws.map fun w => nText (TL.tl w)) with
      | none => rw [q] at h; cases h
      | some ys =>
        rw [q] at h
        cases h
        intro x hx
        rcases List.mem_cons.mp hx with rfl | hx
        · exact nText_bd e
        · exact allO_bd ws q x hx
theorem catO_bd (ws : List Str) : ∀ x ∈ catO (ws.map fun w => nText (TL.tl w)), lt10 40 x := fun x hx => by
  obtain ⟨o, ho, hx⟩ := List.mem_flatMap.mp hx
  obtain ⟨w, _, rfl⟩ := List.mem_map.mp ho
  cases e : nText (TL.tl w) with
  | none => rw [e] at hx; cases hx
  | some i =>
    rw [e] at hx
    rw [List.mem_singleton.mp hx]
    exact nText_bd e
def lstE : Option (List Int) → D
  | some xs => .lst (iD xs)
  | none => .non
def intsW (ws : List Str) : Option (List Int) := allO (ws.map fun w => nText (TL.tl w))
theorem strsD_get {ws : List Str} {i : Nat} {d : D} (h : (ws.map D.str)[i]? = some d) : ∃ w, ws[i]? = some w ∧ d = .str w := by
  rw [List.getElem?_map] at h
  cases q : ws[i]? with
  | none => rw [q] at h; cases h
  | some w => rw [q] at h; cases h; exact ⟨w, rfl, rfl⟩
theorem integers_law {ws : List Str} (hl : ws.length ≤ 50000) (hw : ∀ w ∈ ws, w.length ≤ 100000) (Q : D → Prop) (h : Q (lstE (intsW ws))) : f_l_integers [.lst (ws.map D.str)] Q := by
  refine ⟨rfl, ?_⟩
  unfold m_l_integers
  refine seq_via (fun e => e = [some (.lst (ws.map D.str)), some (.lst (iD [])), none]) (fun N hN _ _ _ => ⟨len_le rfl, rfl, hN _ rfl⟩) ?_
  rintro _ rfl
  refine seq_via (fun e => ∃ x2, e = [some (.lst (ws.map D.str)), some (.lst (iD (catO (ws.map fun w => nText (TL.tl w))))), x2]) ?_ ?_
  · intro N hN _ _ _
    refine ⟨(fun e => nomatch e), ?_⟩
    refine for_inv (fun i e => ∃ x2, e = [some (.lst (ws.map D.str)), some (.lst (iD (catO ((ws.take i).map fun w => nText (TL.tl w))))), x2]) _ ?_ ?_ _ ⟨none, rfl⟩
    · rintro i d _ hd ⟨x2, rfl⟩ N2 hN2 _ _ _
      obtain ⟨w, hw2, rfl⟩ := strsD_get hd
      have e : catO ((ws.take (i + 1)).map fun w => nText (TL.tl w)) = catO ((ws.take i).map fun w => nText (TL.tl w)) ++ lstO (nText (TL.tl w)) := by
        rw [List.take_succ, hw2]
        unfold catO
        rw [List.map_append, List.flatMap_append]
        show _ ++ List.flatMap lstO [nText (TL.tl w)] = _
        rw [List.flatMap_singleton]
      rw [e] at hN2
      have l1 := (catO_len ((ws.take i).map fun w => nText (TL.tl w))).1
      rw [List.length_map, List.length_take] at l1
      generalize catO ((ws.take i).map fun w => nText (TL.tl w)) = acc at *
      dsimp only [bName]
      refine mext_of rfl (mcall_ofT (mconsT ?_))
      refine var_of rfl ?_
      refine integer_law (hw w (List.mem_of_getElem? hw2)) _ ?_
      have l2 : (lstO (nText (TL.tl w))).length ≤ 1 := by
        cases nText (TL.tl w) <;> simp [lstO]
      refine ⟨(fun e => nomatch e), by rw [iD_len, iD_len]; omega, ?_⟩
      rw [← iD_append]
      exact hN2 _ ⟨_, rfl⟩
    · rintro _ ⟨x2, rfl⟩
      rw [List.length_map, List.take_length]
      exact hN _ ⟨_, rfl⟩
  rintro _ ⟨x2, rfl⟩
  have cl := catO_len (ws.map fun w => nText (TL.tl w))
  rw [List.length_map] at cl
  have ca := fun xs => catO_all (ws.map fun w => nText (TL.tl w)) (xs := xs)
  have hi : intsW ws = allO (ws.map fun w => nText (TL.tl w)) := rfl
  generalize catO (ws.map fun w => nText (TL.tl w)) = acc at *
  have ne : ∀ K : Bool → Prop, K (!decide (acc.length = ws.length)) → mB (m2 oNe (mCall oLen (mCons (mVar 1) mNil)) (mCall oLen (mCons (mVar 0) mNil))) [some (.lst (ws.map D.str)), some (.lst (iD acc)), x2] K := fun K q => by
    refine ⟨rfl, rfl, ?_⟩
    rw [eqI, iD_len, List.length_map]
    rw [show decide ((acc.length : Int) = (ws.length : Int)) = decide (acc.length = ws.length) from decide_eq_decide.mpr (by omega)]
    exact q
  cases hq : allO (ws.map fun w => nText (TL.tl w)) with
  | none =>
    rw [hi, hq] at h
    rw [hq] at cl
    refine seq_via (fun _ => False) ?_ (fun _ z => z.elim)
    intro N _ hrt _ _
    refine mif_t (fun K q => ne K (by rw [decide_eq_false (fun e => nomatch cl.2.mp e)]; exact q)) ?_
    refine mret_of ?_
    rw [hrt]
    exact h
  | some xs =>
    rw [hi, hq] at h
    rw [hq] at cl
    have e := (ca xs hq).1
    refine seq_via (fun e => e = [some (.lst (ws.map D.str)), some (.lst (iD acc)), x2]) ?_ ?_
    · intro N hN _ _ _
      exact mif_f (fun K q => ne K (by rw [decide_eq_true (cl.2.mpr rfl)]; exact q)) (hN _ rfl)
    rintro _ rfl
    rw [e]
    exact h
/-! a text that is changed -/
theorem app_len (a b : Str) : (a ++ b).length = a.length + b.length := by
  rw [TL.len_tl, TL.tl_append, List.length_append, TL.len_tl a, TL.len_tl b]
theorem mand_gen {m m' : MT} {env : VL.Env} {Q : Bool → Prop} (b b' : Bool) (h : ∀ K : Bool → Prop, K b → m env K) (h' : ∀ K : Bool → Prop, K b' → m' env K) (q : Q (b && b')) : mAnd m m' env Q := h _ (by
  cases b with
  | true => rw [if_pos rfl]; exact h' _ q
  | false => rw [if_neg Bool.false_ne_true]; exact q)
theorem mnot_gen {m : MT} {env : VL.Env} {Q : Bool → Prop} (b : Bool) (h : ∀ K : Bool → Prop, K b → m env K) (q : Q (!b)) : mNot m env Q := h _ q
theorem way_if {i : Nat} {way k : Int} {body rest : MS} {M : MEnds} {env : VL.Env} (he : env[i]? = some (some (.int way))) (h1 : way = k → ∀ N : MEnds, N.rt = M.rt → body N env) (h2 : way ≠ k → rest M env) : mSeq (mIfS (mB (m2 oEq (mVar i) (mC (.int k)))) body mNext) rest M env := by
  refine (mb_of (m2_of (var_of he (mc_of ?_))) : mB (m2 oEq (mVar i) (mC (.int k))) env fun b => if b = true then body { M with nx := fun env' => rest M env' } env else mNext { M with nx := fun env' => rest M env' } env)
  refine ⟨rfl, rfl, ?_⟩
  rw [eqI]
  refine ifD (fun c => h1 c _ rfl) (fun c => h2 c)
theorem ix_strN {x : Str} {i : Nat} (hi : i < x.length) (hl : x.length ≤ 100000) (Q : D → Prop) (q : ∀ c, Q (.str ⟨#[c]⟩)) : oIx (.str x) (.int (i : Int)) Q := by
  refine ⟨hl, ?_⟩
  have l := TL.len_tl x
  have e : atI x.cps.toList (i : Int) = some ((TL.tl x)[i]'(by omega)) := by
    show atI (TL.tl x) (i : Int) = _
    unfold atI ixN
    rw [if_pos (by omega), if_pos (by omega), Int.toNat_natCast]
    exact List.getElem?_eq_getElem _
  rw [e]
  exact q _
theorem mulOk9 {n : Int} (h1 : 39 ≤ n) (h2 : n ≤ 41) : MulOk ("9" : Str) n := by
  have l9 : ("9" : Str).length = 1 := by decide +kernel
  refine ⟨?_, ?_, ?_⟩
  · rw [Bool.or_eq_false_iff]
    exact ⟨decide_eq_false (by omega), decide_eq_false (by omega)⟩
  · intro _ _
    rw [l9]
    have z : (1 : Int) ≤ (2 ^ 63 - 1) / n := Int.le_ediv_of_mul_le (by omega) (by omega)
    omega
  · intro _ _
    rw [l9]
    unfold Builtin.Str.tooLong sizeLine
    have e : (2 : Nat) ^ 24 = 16777216 := by decide
    exact decide_eq_false (by omega)
theorem len9 {n : Int} (h2 : n ≤ 41) : (Txt.mul ("9" : Str) n).length ≤ 41 := len_mul_one (y := ("9" : Str)) (c := 57) (str_iff.mpr (by decide +kernel)) (n := n) (N := 41) h2
theorem eqL0 (bs : List Int) : eqD (.lst (iD bs)) (.lst []) = decide (bs = []) := eqD_dec (x := .lst (iD bs)) (y := .lst (iD [])) (iD_cl bs) (iD_cl []) ⟨fun e => by
    injection e with e
    exact iD_inj e, fun e => by rw [e]⟩
/-- one of the numbers with 39 to 41 digits -/
theorem longer_law {w : Str} (hw : w.length ≤ 5000) (Q : D → Prop) (h : ∀ b : Str, b.length ≤ 2 * w.length + 41 → Q (.str b)) : f_l_longer [.pool, .str w] Q := by
  have z200 : (6000 : Nat) < 10 ^ 200 := by decide +kernel
  refine ⟨rfl, ?_⟩
  unfold m_l_longer
  refine seq_via (fun e => e = [some .pool, some (.str w), some (.lst (iD [])), none, none, none]) (fun N hN _ _ _ => ⟨len_le rfl, rfl, hN _ rfl⟩) ?_
  rintro _ rfl
  refine seq_via (fun e => ∃ (bs : List Int) (x3 : Option D), (bs.length ≤ w.length ∧ ∀ b ∈ bs, 0 ≤ b ∧ b < w.length) ∧ e = [some .pool, some (.str w), some (.lst (iD bs)), x3, none, none]) ?_ ?_
  · intro N hN _ _ _
    refine mfor_of (mit_ofT (mconsT (mcall_ofT (mconsT (var_of rfl (mnil_of (oLen_str (x := w) (by omega) (mnil_of ?_))))))))
    refine ⟨⟨by omega, by omega⟩, (fun e => nomatch e), ?_⟩
    rw [Int.toNat_natCast]
    refine for_inv (fun i e => ∃ (bs : List Int) (x3 : Option D), (bs.length ≤ i ∧ ∀ b ∈ bs, 0 ≤ b ∧ b < w.length) ∧ e = [some .pool, some (.str w), some (.lst (iD bs)), x3, none, none]) _ ?_ ?_ _ ⟨[], none, ⟨Nat.le_refl _, fun _ h => nomatch h⟩, rfl⟩
    · rintro i d hi hd ⟨bs, x3, ⟨b1, b2⟩, rfl⟩ N2 hN2 _ _ _
      obtain ⟨i1, rfl⟩ := rng_get hd
      rw [Int.zero_add]
      dsimp only [bName]
      have q1 : ∃ b1 : Bool, ∀ K : Bool → Prop, K b1 → mB (mS1 oIsdig (m2 oIx (mVar 1) (mVar 3))) [some .pool, some (.str w), some (.lst (iD bs)), some (.int (i : Int)), none, none] K := by
        have l := TL.len_tl w
        refine ⟨Txt.isdigit ⟨#[(TL.tl w)[i]'(by omega)]⟩, fun K q => ?_⟩
        show oIx (.str w) (.int (i : Int)) fun x => isS x fun a => isB (.bl (Txt.isdigit a)) K
        refine ⟨by omega, ?_⟩
        have e : atI w.cps.toList (i : Int) = some ((TL.tl w)[i]'(by omega)) := by
          show atI (TL.tl w) (i : Int) = _
          unfold atI ixN
          rw [if_pos (by omega), if_pos (by omega), Int.toNat_natCast]
          exact List.getElem?_eq_getElem _
        rw [e]
        exact q
      obtain ⟨c1, q1⟩ := q1
      obtain ⟨lo, hlo⟩ : ∃ lo : Int, lo = if (i : Int) - 1 > 0 then (i : Int) - 1 else 0 := ⟨_, rfl⟩
      have q2 : ∀ K : Bool → Prop, K (Txt.isdigit (cutS w (some lo) (some (i : Int)))) → mB (mS1 oIsdig (mSlS (mVar 1) (mPart (mCall oMax2 (mCons (mC (.int 0)) (mCons (m2 oSub (mVar 3) (mC (.int 1))) mNil)))) (mPart (mVar 3)))) [some .pool, some (.str w), some (.lst (iD bs)), some (.int (i : Int)), none, none] K := fun K q => by
        refine mb_of (ms1_of (slS_of (z := w) (lo := some lo) (hi := some (i : Int)) (fun P hP => hP) (fun P hP => ?_) (fun P hP => hP) (by omega) q))
        show P (some (if (i : Int) - 1 > 0 then (i : Int) - 1 else 0))
        rw [← hlo]
        exact hP
      refine mif_or (c1 && !Txt.isdigit (cutS w (some lo) (some (i : Int)))) (fun K q => mand_gen c1 _ q1 (fun K2 k2 => mnot_gen _ q2 k2) q) (fun _ => ?_) (fun _ => ?_)
      · refine mapp_of rfl (var_of rfl ⟨(fun e => nomatch e), by rw [iD_len]; omega, ?_⟩)
        refine hN2 _ ⟨bs ++ [(i : Int)], some (.int (i : Int)), ⟨by rw [List.length_append]; simp only [List.length_cons, List.length_nil]; omega, fun b hb => ?_⟩, ?_⟩
        · rcases List.mem_append.mp hb with hb | hb
          · exact b2 b hb
          · rw [List.mem_singleton.mp hb]
            omega
        · rw [iD_append]
          rfl
      · exact hN2 _ ⟨bs, some (.int (i : Int)), ⟨by omega, b2⟩, rfl⟩
    · rintro _ ⟨bs, x3, hb, rfl⟩
      rw [rng_len] at hb
      exact hN _ ⟨bs, x3, hb, rfl⟩
  rintro _ ⟨bs, x3, ⟨b1, b2⟩, rfl⟩
  have ne : ∀ K : Bool → Prop, K (decide (bs = [])) → mB (m2 oEq (mVar 2) (mCall oLst mNil)) [some .pool, some (.str w), some (.lst (iD bs)), x3, none, none] K := fun K q => by
    refine ⟨len_le rfl, iD_pl 59 _, rfl, ?_⟩
    rw [eqL0]
    exact q
  by_cases c : bs = []
  · refine seq_via (fun _ => False) ?_ (fun _ z => z.elim)
    intro N _ hrt _ _
    refine mif_t (fun K q => ne K (by rw [decide_eq_true c]; exact q)) ?_
    refine mret_of (var_of rfl ?_)
    rw [hrt]
    exact h w (by omega)
  refine seq_via (fun e => e = [some .pool, some (.str w), some (.lst (iD bs)), x3, none, none]) (fun N hN _ _ _ => mif_f (fun K q => ne K (by rw [decide_eq_false c]; exact q)) (hN _ rfl)) ?_
  rintro _ rfl
  have bl := List.length_pos_iff.mpr c
  refine seq_via (fun e => ∃ b : Nat, b < w.length ∧ e = [some .pool, some (.str w), some (.lst (iD bs)), x3, some (.int b), none]) ?_ ?_
  · intro N hN _ _ _
    refine ⟨rfl, ⟨by rw [iD_len]; omega, by rw [iD_len, Int.natAbs_natCast]; omega⟩, fun i i0 i1 => ?_⟩
    rw [iD_len] at i1
    have z := b2 (bs[i.toNat]'(by omega)) (List.getElem_mem (by omega))
    refine at_iD i0 i1 _ ?_
    refine hN _ ⟨(bs[i.toNat]'(by omega)).toNat, by omega, ?_⟩
    rw [Int.toNat_of_nonneg z.1]
    rfl
  rintro _ ⟨b, hb, rfl⟩
  refine seq_via (fun e => e = [some .pool, some (.str w), some (.lst (iD bs)), x3, some (.int b), some (.int b)]) (fun N hN _ _ _ => hN _ rfl) ?_
  rintro _ rfl
  refine seq_via (fun e => ∃ k : Nat, k ≤ w.length ∧ e = [some .pool, some (.str w), some (.lst (iD bs)), x3, some (.int b), some (.int k)]) ?_ ?_
  · intro N hN _ _ _
    refine ⟨fun n e => ∃ k : Nat, k ≤ w.length ∧ n = w.length - k ∧ e = [some .pool, some (.str w), some (.lst (iD bs)), x3, some (.int b), some (.int k)], ⟨w.length - b, b, by omega, rfl, rfl⟩, ?_⟩
    rintro n _ ⟨k, hk, rfl, rfl⟩
    have t1 : ∀ K : Bool → Prop, K (decide (k < w.length)) → mB (m2 (oCmp (fun i j => decide (i < j))) (mVar 5) (mCall oLen (mCons (mVar 1) mNil))) [some .pool, some (.str w), some (.lst (iD bs)), x3, some (.int b), some (.int k)] K := fun K q => by
      refine mb_of (m2_of (var_of rfl (mcall_ofT (mconsT (var_of rfl (mnil_of (oLen_str (by omega) ?_)))))))
      show K (decide ((k : Int) < (w.length : Int)))
      rw [show decide ((k : Int) < (w.length : Int)) = decide (k < w.length) from decide_eq_decide.mpr (by omega)]
      exact q
    by_cases ck : k < w.length
    · have l := TL.len_tl w
      have t2 : ∀ K : Bool → Prop, K (Txt.isdigit ⟨#[(TL.tl w)[k]'(by omega)]⟩) → mB (mS1 oIsdig (m2 oIx (mVar 1) (mVar 5))) [some .pool, some (.str w), some (.lst (iD bs)), x3, some (.int b), some (.int k)] K := fun K q => by
        show oIx (.str w) (.int (k : Int)) fun x => isS x fun a => isB (.bl (Txt.isdigit a)) K
        refine ⟨by omega, ?_⟩
        have e : atI w.cps.toList (k : Int) = some ((TL.tl w)[k]'(by omega)) := by
          show atI (TL.tl w) (k : Int) = _
          unfold atI ixN
          rw [if_pos (by omega), if_pos (by omega), Int.toNat_natCast]
          exact List.getElem?_eq_getElem _
        rw [e]
        exact q
      refine mand_t (fun K q => t1 K (by rw [decide_eq_true ck]; exact q)) (t2 _ ?_)
      cases Txt.isdigit ⟨#[(TL.tl w)[k]'(by omega)]⟩ with
      | true =>
        rw [if_pos rfl]
        exact ⟨w.length - (k + 1), by omega, k + 1, by omega, rfl, rfl⟩
      | false =>
        rw [if_neg Bool.false_ne_true]
        exact hN _ ⟨k, hk, rfl⟩
    · refine mand_f (fun K q => t1 K (by rw [decide_eq_false ck]; exact q)) ?_
      rw [if_neg Bool.false_ne_true]
      exact hN _ ⟨k, hk, rfl⟩
  rintro _ ⟨k, hk, rfl⟩
  have s1 := cutS_length w none (some (b : Int))
  have s2 := cutS_length w (some (k : Int)) none
  refine mret_of (m2_of (m2_of (slS_of (z := w) (lo := none) (hi := some (b : Int)) (fun P hP => hP) (fun P hP => hP) (fun P hP => hP) (by omega) ?_)))
  refine ⟨⟨by decide, by decide⟩, fun n n0 n1 => ⟨mulOk9 (by omega) (by omega), ?_⟩⟩
  have s3 := len9 (n := 39 + n) (by omega)
  refine ⟨by omega, ?_⟩
  refine slS_of (z := w) (lo := some (k : Int)) (hi := none) (fun P hP => hP) (fun P hP => hP) (fun P hP => hP) (by omega) ?_
  have e1 := app_len (cutS w none (some (b : Int))) (Txt.mul ("9" : Str) (39 + n))
  refine ⟨by omega, ?_⟩
  refine h _ ?_
  rw [app_len, e1]
  omega

/-! pieces of a text -/
theorem spl_sum (S : List Nat) : ∀ (l : List Nat) (k : Nat) (acc : List Nat), ((TL.spl S k acc l).map List.length).sum ≤ acc.length + l.length ∧ (TL.spl S k acc l).length ≤ l.length + 1
  | [], k, acc => by
    rw [TL.spl_nil]
    simp
  | c :: r, 0, acc => by
    cases e : TL.pre S (c :: r) with
    | true =>
      rw [TL.spl_hit e]
      have z := spl_sum S r (S.length - 1) []
      simp only [List.map_cons, List.sum_cons, List.length_cons, List.length_nil] at z ⊢
      omega
    | false =>
      rw [TL.spl_miss e]
      have z := spl_sum S r 0 (acc ++ [c])
      rw [List.length_append] at z
      simp only [List.length_cons, List.length_nil] at z ⊢
      omega
  | c :: r, k + 1, acc => by
    have e : TL.spl S (k + 1) acc (c :: r) = TL.spl S k acc r := rfl
    rw [e]
    have z := spl_sum S r k acc
    simp only [List.length_cons]
    omega
theorem spl_ne (S : List Nat) : ∀ (l : List Nat) (k : Nat) (acc : List Nat), TL.spl S k acc l ≠ []
  | [], k, acc => by
    rw [TL.spl_nil]
    simp
  | c :: r, 0, acc => by
    cases e : TL.pre S (c :: r) with
    | true => rw [TL.spl_hit e]; simp
    | false => rw [TL.spl_miss e]; exact spl_ne S r 0 _
  | c :: r, k + 1, acc => spl_ne S r k acc
structure Sep (y : Str) : Prop where
  ne : TL.tl y ≠ []
  kd : y.cps.all (· < 256) = true
theorem sep_sp : Sep (" " : Str) := ⟨by decide +kernel, by decide +kernel⟩
theorem sep_sc : Sep ("; " : Str) := ⟨by decide +kernel, by decide +kernel⟩
theorem split_tl {x y : Str} (hy : Sep y) : (Txt.split x y).map TL.tl = TL.spl (TL.tl y) 0 [] (TL.tl x) := TL.split_spl x y hy.ne (TL.kind_ok hy.kd)
theorem len_map (ws : List Str) : ws.map (·.length) = (ws.map TL.tl).map List.length := by
  rw [List.map_map]
  exact List.map_congr_left fun w _ => TL.len_tl w
theorem split_facts {x y : Str} (hy : Sep y) : ((Txt.split x y).map (·.length)).sum ≤ x.length ∧ (Txt.split x y).length ≤ x.length + 1 ∧ Txt.split x y ≠ [] := by
  have z := spl_sum (TL.tl y) (TL.tl x) 0 []
  rw [← split_tl hy] at z
  rw [len_map]
  have l := TL.len_tl x
  refine ⟨by simpa [l] using z.1, ?_, fun e => ?_⟩
  · have y := z.2
    rw [List.length_map] at y
    omega
  · have y := split_tl (x := x) hy
    rw [e] at y
    exact spl_ne _ _ _ _ y.symm
theorem sum_mem : ∀ (ns : List Nat) {n : Nat}, n ∈ ns → n ≤ ns.sum
  | m :: ns, n, h => by
    rw [List.sum_cons]
    rcases List.mem_cons.mp h with rfl | h
    · omega
    · have z := sum_mem ns h
      omega
theorem split_le {x y w : Str} (hy : Sep y) (h : w ∈ Txt.split x y) : w.length ≤ x.length := Nat.le_trans (sum_mem _ (List.mem_map.mpr ⟨w, h, rfl⟩)) (split_facts hy).1
theorem sum_set : ∀ (ws : List Str) (i : Nat) (v : Str) (hi : i < ws.length), ((ws.set i v).map (·.length)).sum + (ws[i]).length = (ws.map (·.length)).sum + v.length
  | w :: ws, 0, v, hi => by
    simp only [List.set_cons_zero, List.map_cons, List.sum_cons, List.getElem_cons_zero]
    omega
  | w :: ws, i + 1, v, hi => by
    have z := sum_set ws i v (by simpa using hi)
    simp only [List.set_cons_succ, List.map_cons, List.sum_cons, List.getElem_cons_succ]
    omega
theorem joinL_len (S : List Nat) : ∀ ps : List (List Nat), (TL.joinL S ps).length ≤ (ps.map List.length).sum + ps.length * S.length
  | [] => Nat.zero_le _
  | [p] => by
    show p.length ≤ _
    simp only [List.map_cons, List.map_nil, List.sum_cons, List.sum_nil, List.length_cons, List.length_nil]
    omega
  | p :: q :: r => by
    have z := joinL_len S (q :: r)
    show (p ++ (S ++ TL.joinL S (q :: r))).length ≤ _
    rw [List.length_append, List.length_append]
    simp only [List.map_cons, List.sum_cons, List.length_cons, Nat.add_mul] at z ⊢
    omega
theorem join_len (y : Str) (ws : List Str) : (Txt.join y ws).length ≤ (ws.map (·.length)).sum + ws.length * y.length := by
  rw [TL.len_tl, TL.join_eq, TL.tl_join, len_map, TL.len_tl y]
  have z := joinL_len (TL.tl y) (ws.map TL.tl)
  rw [List.length_map] at z
  exact z
theorem oJoin_of {y : Str} {ws : List Str} {Q : D → Prop} (hl : (ws.map (·.length)).sum + ws.length * y.length ≤ 16000000) (q : Q (.str (Txt.join y ws))) : oJoin y (.lst (ws.map D.str)) Q := by
  unfold oJoin
  dsimp only
  rw [strsOf_map]
  exact ⟨hl, q⟩
theorem at_strs {ws : List Str} {i : Nat} {j : Int} (hj : j = i) (hi : i < ws.length) (Q : D → Prop) (q : Q (.str (ws[i]))) : oIx (.lst (ws.map D.str)) (.int j) Q := by
  subst hj
  have e : atI (ws.map D.str) (i : Int) = some (.str (ws[i])) := by
    unfold atI ixN
    rw [List.length_map, if_pos (by omega), if_pos (by omega), Int.toNat_natCast]
    show (ws.map D.str)[i]? = _
    rw [List.getElem?_map, List.getElem?_eq_getElem hi]
    rfl
  show (match atI (ws.map D.str) (i : Int) with
    | some d => Q d
    | none => False)
  rw [e]
  exact q
theorem setix_strs {ws : List Str} {i : Nat} {j : Int} {v : Str} {K : List D → Prop} (hj : j = i) (hi : i < ws.length) (h : K ((ws.set i v).map D.str)) : match ixN (ws.map D.str).length j with
    | some j => K ((ws.map D.str).set j (.str v))
    | none => False := by
  subst hj
  have e : ixN (ws.map D.str).length (i : Int) = some i := by
    unfold ixN
    rw [List.length_map, if_pos (by omega), if_pos (by omega), Int.toNat_natCast]
  rw [e]
  show K ((ws.map D.str).set i (.str v))
  rw [← List.map_set]
  exact h
theorem oAdd_str {a b : Str} {Q : D → Prop} (hl : a.length + b.length ≤ 100000) (q : Q (.str (a ++ b))) : oAdd (.str a) (.str b) Q := ⟨hl, q⟩
def ec (w : Str) (way : Int) (sg : Str) (sp : Nat) (c : Str) (x7 x8 x9 x10 x11 x12 : Option D) : VL.Env := [some .pool, some (.str w), some (.int ((w.length : Int) + 1)), some (.int way), some (.str sg), some (.int sp), some (.str c), x7, x8, x9, x10, x11, x12]
theorem repl1_of {y z : Str} {m : ME} {env : VL.Env} {Q : D → Prop} {x : Str} (h : ∀ P : D → Prop, P (.str x) → m env P) (hl : x.length + z.length ≤ 16000000) (q : Q (.str (Txt.replace1 x y z))) : mRepl1 y z m env Q := h _ ⟨hl, q⟩
theorem changed_law {w : Str} (hw : w.length ≤ 2000) (Q : D → Prop) (h : ∀ b : Str, b.length ≤ 3 * w.length + 50 → Q (.str b)) : f_l_changed [.pool, .str w] Q := by
  have z200 : (100000 : Nat) < 10 ^ 200 := by decide +kernel
  refine ⟨rfl, ?_⟩
  unfold m_l_changed
  refine seq_via (fun e => ∃ way : Int, (0 ≤ way ∧ way < 7) ∧ e = [some .pool, some (.str w), some (.int ((w.length : Int) + 1)), some (.int way), none, none, none, none, none, none, none, none, none]) ?_ ?_
  · intro N hN _ _ _
    refine mpar_of (m2_of (mcall_ofT (mconsT (var_of rfl (mnil_of (oLen_str (x := w) (by omega) ?_))))))
    exact ⟨⟨by decide, by decide⟩, fun way w0 w1 => hN _ ⟨way, ⟨w0, w1⟩, rfl⟩⟩
  rintro _ ⟨way, ⟨w0, w1⟩, rfl⟩
  refine seq_via (fun e => ∃ sg : Str, (1 ≤ sg.length ∧ sg.length ≤ 100) ∧ e = [some .pool, some (.str w), some (.int ((w.length : Int) + 1)), some (.int way), some (.str sg), none, none, none, none, none, none, none, none]) ?_ ?_
  · intro N hN _ _ _
    refine ⟨len_le rfl, ⟨by decide, by decide⟩, fun i i0 i1 => ?_⟩
    have e2 : i = 0 ∨ i = 1 := by omega
    rcases e2 with rfl | rfl
    · exact hN _ ⟨_, ⟨by decide +kernel, by decide +kernel⟩, rfl⟩
    · exact hN _ ⟨_, ⟨by decide +kernel, by decide +kernel⟩, rfl⟩
  rintro _ ⟨sg, ⟨sg1, sg2⟩, rfl⟩
  refine seq_via (fun e => ∃ (sp : Nat) (c : Str), (sp ≤ w.length ∧ c.length = 1) ∧ e = ec w way sg sp c none none none none none none) ?_ ?_
  · intro N hN _ _ _
    refine ⟨⟨by omega, by omega⟩, fun sp s0 s1 => ?_⟩
    refine m2_of (var_of rfl ?_)
    refine mcall_ofT (mconsT (var_of rfl (mconsT (mcall_ofT (mconsT (var_of rfl (mnil_of (oLen_str (x := sg) (by omega) (mnil_of ?_)))))))))
    refine ⟨⟨by omega, by omega⟩, fun i i0 i1 => ?_⟩
    obtain ⟨n, rfl⟩ : ∃ n : Nat, i = n := ⟨i.toNat, by omega⟩
    refine ix_strN (x := sg) (i := n) (by omega) (by omega) _ fun c => ?_
    refine hN _ ⟨sp.toNat, ⟨#[c]⟩, ⟨by omega, rfl⟩, ?_⟩
    rw [show sp = ((sp.toNat : Nat) : Int) by omega]
    rfl
  rintro _ ⟨sp, c, ⟨sp1, c1⟩, rfl⟩
  have s1 := cutS_length w none (some (sp : Int))
  have s2 := cutS_length w (some (sp : Int)) none
  have s3 := cutS_length w (some ((sp : Int) + 1)) none
  refine way_if rfl (fun _ N hN => ?_) (fun n0 => ?_)
  · refine mret_of (m2_of (m2_of (slS_of (z := w) (lo := none) (hi := some (sp : Int)) (fun P hP => hP) (fun P hP => hP) (fun P hP => hP) (by omega) (var_of rfl ?_))))
    refine oAdd_str (by omega) ?_
    refine slS_of (z := w) (lo := some (sp : Int)) (hi := none) (fun P hP => hP) (fun P hP => hP) (fun P hP => hP) (by omega) ?_
    have e1 := app_len (cutS w none (some (sp : Int))) c
    refine oAdd_str (by omega) ?_
    rw [hN]
    refine h _ ?_
    rw [app_len, e1]
    omega
  refine way_if rfl (fun _ N hN => ?_) (fun n1 => ?_)
  · refine mret_of (m2_of (slS_of (z := w) (lo := none) (hi := some (sp : Int)) (fun P hP => hP) (fun P hP => hP) (fun P hP => hP) (by omega) ?_))
    refine slS_of (z := w) (lo := some ((sp : Int) + 1)) (hi := none) (fun P hP => hP) (fun P hP => hP) (fun P hP => hP) (by omega) ?_
    refine oAdd_str (by omega) ?_
    rw [hN]
    refine h _ ?_
    rw [app_len]
    omega
  refine way_if rfl (fun _ N hN => ?_) (fun n2 => ?_)
  · refine mret_of (m2_of (m2_of (slS_of (z := w) (lo := none) (hi := some (sp : Int)) (fun P hP => hP) (fun P hP => hP) (fun P hP => hP) (by omega) (var_of rfl ?_))))
    refine oAdd_str (by omega) ?_
    refine slS_of (z := w) (lo := some ((sp : Int) + 1)) (hi := none) (fun P hP => hP) (fun P hP => hP) (fun P hP => hP) (by omega) ?_
    have e1 := app_len (cutS w none (some (sp : Int))) c
    refine oAdd_str (by omega) ?_
    rw [hN]
    refine h _ ?_
    rw [app_len, e1]
    omega
  have l0 : ("" : Str).length = 0 := by decide +kernel
  have l1 : (" " : Str).length = 1 := by decide +kernel
  have l2 : ("; " : Str).length = 2 := by decide +kernel
  have l3 : (" 0" : Str).length = 2 := by decide +kernel
  have l4 : ("-" : Str).length = 1 := by decide +kernel
  have l5 : ("  " : Str).length = 2 := by decide +kernel
  have l6 : (";" : Str).length = 1 := by decide +kernel
  have l7 : ("//" : Str).length = 2 := by decide +kernel
  have l8 : ("+-" : Str).length = 2 := by decide +kernel
  have up := len_upper w
  refine way_if rfl (fun _ N hN => ?_) (fun n3 => ?_)
  · have EE : ∀ (menu : List Str) (P : VL.Env → Prop), (∀ ws : List Str, ws = menu → P (ec w way sg sp c (some (.lst (ws.map D.str))) none none none none none)) → P (ec w way sg sp c (some (.lst (menu.map D.str))) none none none none none) := fun menu P k => k menu rfl
    refine seq_via (fun e => e = ec w way sg sp c (some (.lst (([("" : Str), (" " : Str) ++ w, w ++ (" " : Str), w ++ ("; " : Str), Txt.upper w, ("-" : Str)]).map D.str))) none none none none none) ?_ ?_
    · intro N2 hN2 _ _ _
      refine mset_of (mcall_ofT (mconsT (mc_of (mconsT (m2_of (mc_of (var_of rfl (oAdd_str (by omega) ?_))))))))
      refine mconsT (m2_of (var_of rfl (mc_of (oAdd_str (by omega) ?_))))
      refine mconsT (m2_of (var_of rfl (mc_of (oAdd_str (by omega) ?_))))
      refine mconsT (ms1_of (var_of rfl ⟨by omega, ?_⟩))
      refine mconsT (mc_of (mnil_of ⟨len_le rfl, rfl, hN2 _ rfl⟩))
    rintro _ rfl
    refine seq_via (fun e => e = ec w way sg sp c (some (.lst (([("" : Str), (" " : Str) ++ w, w ++ (" " : Str), w ++ ("; " : Str), Txt.upper w, ("-" : Str), Txt.replace1 w (" " : Str) ("  " : Str), Txt.replace1 w ("; " : Str) (";" : Str), w ++ ("; " : Str) ++ w]).map D.str))) none none none none none) ?_ ?_
    · intro N2 hN2 _ _ _
      refine mext_of rfl (mcall_ofT (mconsT (repl1_of (x := w) (fun P hP => hP) (by omega) ?_)))
      refine mconsT (repl1_of (x := w) (fun P hP => hP) (by omega) ?_)
      refine mconsT (m2_of (m2_of (var_of rfl (mc_of (oAdd_str (by omega) (var_of rfl (oAdd_str (by rw [app_len]; omega) ?_)))))))
      exact mnil_of ⟨len_le rfl, (fun e => nomatch e), len_le rfl, hN2 _ rfl⟩
    rintro _ rfl
    refine seq_via (fun e => e = ec w way sg sp c (some (.lst (([("" : Str), (" " : Str) ++ w, w ++ (" " : Str), w ++ ("; " : Str), Txt.upper w, ("-" : Str), Txt.replace1 w (" " : Str) ("  " : Str), Txt.replace1 w ("; " : Str) (";" : Str), w ++ ("; " : Str) ++ w, ("; " : Str) ++ w, w ++ (" 0" : Str), Txt.replace1 w ("/" : Str) ("//" : Str), Txt.replace1 w ("+" : Str) ("+-" : Str)]).map D.str))) none none none none none) ?_ ?_
    · intro N2 hN2 _ _ _
      refine mext_of rfl (mcall_ofT (mconsT (m2_of (mc_of (var_of rfl (oAdd_str (by omega) ?_))))))
      refine mconsT (m2_of (var_of rfl (mc_of (oAdd_str (by omega) ?_))))
      refine mconsT (repl1_of (x := w) (fun P hP => hP) (by omega) ?_)
      refine mconsT (repl1_of (x := w) (fun P hP => hP) (by omega) ?_)
      exact mnil_of ⟨len_le rfl, (fun e => nomatch e), len_le rfl, hN2 _ rfl⟩
    rintro _ rfl
    obtain ⟨menu, hm⟩ : ∃ menu : List Str, menu = [("" : Str), (" " : Str) ++ w, w ++ (" " : Str), w ++ ("; " : Str), Txt.upper w, ("-" : Str), Txt.replace1 w (" " : Str) ("  " : Str), Txt.replace1 w ("; " : Str) (";" : Str), w ++ ("; " : Str) ++ w, ("; " : Str) ++ w, w ++ (" 0" : Str), Txt.replace1 w ("/" : Str) ("//" : Str), Txt.replace1 w ("+" : Str) ("+-" : Str)] := ⟨_, rfl⟩
    have ml : menu.length = 13 := by rw [hm]; rfl
    have mb : ∀ b ∈ menu, b.length ≤ 3 * w.length + 50 := fun b hb => by
      have r1 := Txt.replace1_len w (" " : Str) ("  " : Str)
      have r2 := Txt.replace1_len w ("; " : Str) (";" : Str)
      have r3 := Txt.replace1_len w ("/" : Str) ("//" : Str)
      have r4 := Txt.replace1_len w ("+" : Str) ("+-" : Str)
      rw [hm] at hb
      simp only [List.mem_cons, List.not_mem_nil, or_false] at hb
      rcases hb with rfl | rfl | rfl | rfl | rfl | rfl | rfl | rfl | rfl | rfl | rfl | rfl | rfl <;> (try rw [app_len]) <;> (try rw [app_len]) <;> omega
    rw [← hm]
    refine mret_of (m2_of (var_of rfl ?_))
    refine ⟨rfl, ⟨by rw [List.length_map]; omega, by rw [List.length_map, ml]; decide +kernel⟩, fun i i0 i1 => ?_⟩
    rw [List.length_map] at i1
    refine at_strs (i := i.toNat) (by omega) (by omega) _ ?_
    rw [hN]
    exact h _ (mb _ (List.getElem_mem _))
  refine way_if rfl (fun _ N hN => ?_) (fun n4 => ?_)
  · refine mret_of ?_
    refine longer_law (w := w) (by omega) _ fun b hb => ?_
    rw [hN]
    exact h b (by omega)
  refine seq_via (fun e => ∃ gl : Str, (Sep gl ∧ gl.length ≤ 2) ∧ e = ec w way sg sp c none (some (.str gl)) none none none none) ?_ ?_
  · intro N hN _ _ _
    have e2 : way = 5 ∨ way = 6 := by omega
    rcases e2 with rfl | rfl
    · exact ⟨len_le rfl, hN _ ⟨_, ⟨sep_sp, by omega⟩, rfl⟩⟩
    · exact ⟨len_le rfl, hN _ ⟨_, ⟨sep_sc, by omega⟩, rfl⟩⟩
  rintro _ ⟨gl, ⟨hg, gl2⟩, rfl⟩
  obtain ⟨p1, p2, p3⟩ := split_facts (x := w) hg
  refine seq_via (fun e => e = ec w way sg sp c none (some (.str gl)) (some (.lst ((Txt.split w gl).map D.str))) none none none) ?_ ?_
  · intro N hN _ _ _
    refine mset_of (ms2_of (a := w) (fun P hP => hP) (var_of rfl ⟨⟨?_, by omega⟩, rfl, hN _ rfl⟩))
    have z := List.length_pos_iff.mpr hg.ne
    rw [TL.len_tl]
    simp only [beq_eq_false_iff_ne]
    omega
  rintro _ rfl
  generalize Txt.split w gl = ws at *
  have wl := List.length_pos_iff.mpr p3
  refine seq_via (fun e => ∃ i j : Nat, (i < ws.length ∧ j < ws.length) ∧ e = ec w way sg sp c none (some (.str gl)) (some (.lst (ws.map D.str))) (some (.int i)) (some (.int j)) none) ?_ ?_
  · intro N hN _ _ _
    refine ⟨rfl, ⟨by rw [List.length_map]; omega, by rw [List.length_map, Int.natAbs_natCast]; omega⟩, fun i i0 i1 => ?_⟩
    refine ⟨rfl, ⟨by rw [List.length_map]; omega, by rw [List.length_map, Int.natAbs_natCast]; omega⟩, fun j j0 j1 => ?_⟩
    rw [List.length_map] at i1 j1
    refine hN _ ⟨i.toNat, j.toNat, ⟨by omega, by omega⟩, ?_⟩
    rw [Int.toNat_of_nonneg i0, Int.toNat_of_nonneg j0]
    rfl
  rintro _ ⟨i, j, ⟨hi, hj⟩, rfl⟩
  refine seq_via (fun e => e = ec w way sg sp c none (some (.str gl)) (some (.lst (ws.map D.str))) (some (.int i)) (some (.int j)) (some (.str (ws[i])))) ?_ ?_
  · intro N hN _ _ _
    refine mset_of (m2_of (var_of rfl (var_of rfl (at_strs rfl hi _ ⟨rfl, hN _ rfl⟩))))
  rintro _ rfl
  refine seq_via (fun e => e = ec w way sg sp c none (some (.str gl)) (some (.lst ((ws.set i ws[j]).map D.str))) (some (.int i)) (some (.int j)) (some (.str (ws[i])))) ?_ ?_
  · intro N hN _ _ _
    refine mset_ix rfl (m2_of (var_of rfl (var_of rfl (at_strs rfl hj _ (var_of rfl ⟨(fun _ => rfl), ?_⟩)))))
    exact setix_strs (K := fun l => N.nx ((ec w way sg sp c none (some (.str gl)) (some (.lst (ws.map D.str))) (some (.int i)) (some (.int j)) (some (.str (ws[i])))).set 9 (some (.lst l)))) rfl hi (hN _ rfl)
  rintro _ rfl
  have z1 := sum_set ws i ws[j] hi
  have z2 := sum_set (ws.set i ws[j]) j ws[i] (by rw [List.length_set]; exact hj)
  have sz : (((ws.set i ws[j]).set j ws[i]).map (·.length)).sum = (ws.map (·.length)).sum := by
    by_cases e : i = j
    · subst e
      rw [List.getElem_set_self] at z2
      omega
    · rw [List.getElem_set_ne e] at z2
      omega
  have lz : ((ws.set i ws[j]).set j ws[i]).length = ws.length := by rw [List.length_set, List.length_set]
  refine seq_via (fun e => e = ec w way sg sp c none (some (.str gl)) (some (.lst (((ws.set i ws[j]).set j ws[i]).map D.str))) (some (.int i)) (some (.int j)) (some (.str (ws[i])))) ?_ ?_
  · intro N hN _ _ _
    refine mset_ix rfl (var_of rfl (var_of rfl ⟨(fun e => nomatch e), ?_⟩))
    exact setix_strs (K := fun l => N.nx ((ec w way sg sp c none (some (.str gl)) (some (.lst ((ws.set i ws[j]).map D.str))) (some (.int i)) (some (.int j)) (some (.str (ws[i])))).set 9 (some (.lst l)))) rfl (by rw [List.length_set]; exact hj) (hN _ rfl)
  rintro _ rfl
  generalize (ws.set i ws[j]).set j ws[i] = us at *
  have m1 : us.length * gl.length ≤ (w.length + 1) * 2 := Nat.mul_le_mul (by omega) gl2
  have jl := join_len gl us
  refine mret_of (ms2_of (a := gl) (fun P hP => hP) (var_of rfl (oJoin_of (by omega) ?_)))
  exact h _ (by omega)
/-! integers as texts -/
def numS (i : Int) : Str := Str.ofString (toString i)
theorem tl_numS_nat (n : Nat) : TL.tl (numS (n : Int)) = TL.numL n := TL.tl_num n
theorem tl_numS_neg {n : Nat} (h : 0 < n) : TL.tl (numS (-(n : Int))) = 45 :: TL.numL n := by
  obtain ⟨m, rfl⟩ : ∃ m, n = m + 1 := ⟨n - 1, by omega⟩
  have e : numS (-((m + 1 : Nat) : Int)) = Str.ofString ("-" ++ toString (m + 1)) := rfl
  have z := TL.tl_num (m + 1)
  have y : toString ((m + 1 : Nat) : Int) = toString (m + 1) := rfl
  rw [y, TL.tl_ofString] at z
  rw [e, TL.tl_ofString, String.toList_append, List.map_append, z]
  rfl
theorem numL_head {n : Nat} : (TL.numL n).head? = some 48 → n = 0 := by
  induction n using Nat.strongRecOn with
  | _ n ih =>
    intro h
    by_cases c : n < 10
    · rw [TL.numL_lt c] at h
      injection h with h
      omega
    · rw [TL.numL_step (by omega)] at h
      have z := TL.numL_ne (n / 10)
      have e : (TL.numL (n / 10) ++ [48 + n % 10]).head? = (TL.numL (n / 10)).head? := by
        cases q : TL.numL (n / 10) with
        | nil => exact absurd q z
        | cons a r => rfl
      rw [e] at h
      have y := ih (n / 10) (by omega) h
      omega
theorem numL_digs (n : Nat) : digs (TL.numL n) = TL.numL n := by
  unfold digs
  rw [if_neg]
  intro h
  have z := TL.numL_digits n 45 (List.mem_of_mem_head? h)
  omega
theorem digs_neg (n : Nat) : digs (45 :: TL.numL n) = TL.numL n := by
  unfold digs
  rw [if_pos (show (45 :: TL.numL n).head? = some 45 from rfl)]
  rfl
theorem all_numL (n : Nat) : (TL.numL n).all dg = true := List.all_eq_true.mpr fun c hc => decide_eq_true (TL.numL_digits n c hc)
theorem numL_40 {n : Nat} (h : n < 10 ^ 40) : 1 ≤ (TL.numL n).length ∧ (TL.numL n).length ≤ 40 := ⟨List.length_pos_iff.mpr (TL.numL_ne n), TL.numL_len (by decide) h⟩
theorem nText_num {i : Int} (h : i.natAbs < 10 ^ 40) : nText (TL.tl (numS i)) = some i := by
  rcases Int.lt_or_le i 0 with c | c
  · obtain ⟨n, n0, rfl⟩ : ∃ n : Nat, 0 < n ∧ i = -(n : Int) := ⟨i.natAbs, by omega, by omega⟩
    rw [Int.natAbs_neg, Int.natAbs_natCast] at h
    rw [tl_numS_neg n0]
    have ok : okNum (45 :: TL.numL n) = true := okNum_iff.mpr (by
      rw [digs_neg]
      exact ⟨numL_40 h, all_numL n, fun e => absurd (numL_head e) (by omega)⟩)
    unfold nText
    rw [if_pos ok]
    unfold nVal
    rw [if_pos (show (45 :: TL.numL n).head? = some 45 from rfl), digs_neg, TL.numL_val]
  · obtain ⟨n, rfl⟩ : ∃ n : Nat, i = (n : Int) := ⟨i.toNat, by omega⟩
    rw [Int.natAbs_natCast] at h
    rw [tl_numS_nat]
    have n45 : ¬ (TL.numL n).head? = some 45 := fun e => by
      have z := TL.numL_digits n 45 (List.mem_of_mem_head? e)
      omega
    have ok : okNum (TL.numL n) = true := okNum_iff.mpr (by
      rw [numL_digs]
      exact ⟨numL_40 h, all_numL n, fun e => by rw [numL_head e]; decide +kernel⟩)
    unfold nText
    rw [if_pos ok]
    unfold nVal
    rw [if_neg n45, numL_digs, TL.numL_val]
theorem numS_sign {i : Int} {c : Nat} (h : c ∈ TL.tl (numS i)) : c = 45 ∨ (48 ≤ c ∧ c ≤ 57) := by
  rcases Int.lt_or_le i 0 with q | q
  · obtain ⟨n, n0, rfl⟩ : ∃ n : Nat, 0 < n ∧ i = -(n : Int) := ⟨i.natAbs, by omega, by omega⟩
    rw [tl_numS_neg n0] at h
    rcases List.mem_cons.mp h with rfl | h
    · exact .inl rfl
    · exact .inr (TL.numL_digits n c h)
  · obtain ⟨n, rfl⟩ : ∃ n : Nat, i = (n : Int) := ⟨i.toNat, by omega⟩
    rw [tl_numS_nat] at h
    exact .inr (TL.numL_digits n c h)
theorem numS_len {i : Int} {k : Nat} (hk : 0 < k) (h : i.natAbs < 10 ^ k) : 1 ≤ (numS i).length ∧ (numS i).length ≤ k + 1 := by
  rw [TL.len_tl]
  rcases Int.lt_or_le i 0 with q | q
  · obtain ⟨n, n0, rfl⟩ : ∃ n : Nat, 0 < n ∧ i = -(n : Int) := ⟨i.natAbs, by omega, by omega⟩
    rw [Int.natAbs_neg, Int.natAbs_natCast] at h
    rw [tl_numS_neg n0, List.length_cons]
    have z := TL.numL_len hk h
    omega
  · obtain ⟨n, rfl⟩ : ∃ n : Nat, i = (n : Int) := ⟨i.toNat, by omega⟩
    rw [Int.natAbs_natCast] at h
    rw [tl_numS_nat]
    have z := TL.numL_len hk h
    have y := List.length_pos_iff.mpr (TL.numL_ne n)
    omega
/-! integers with single spaces -/
def showR (r : List Int) : Str := Txt.join (" " : Str) (r.map numS)
theorem tl_sp : TL.tl (" " : Str) = [32] := by decide +kernel
theorem tl_sc : TL.tl ("; " : Str) = [59, 32] := by decide +kernel
theorem split_showR {r : List Int} (hr : r ≠ []) : Txt.split (showR r) (" " : Str) = r.map numS :=
  TL.split_join (s := 32) (S := []) tl_sp sep_sp.kd (fun e => hr (List.map_eq_nil_iff.mp e)) fun p hp h => by
    obtain ⟨i, _, rfl⟩ := List.mem_map.mp hp
    have z := numS_sign h
    omega
theorem mem_joinL {c : Nat} (S : List Nat) : ∀ (ps : List (List Nat)), c ∈ TL.joinL S ps → (c ∈ S ∨ ∃ p ∈ ps, c ∈ p)
  | [], h => by cases h
  | [p], h => .inr ⟨p, List.mem_cons_self, h⟩
  | p :: q :: r, h => by
    have h : c ∈ p ++ (S ++ TL.joinL S (q :: r)) := h
    rcases List.mem_append.mp h with h | h
    · exact .inr ⟨p, List.mem_cons_self, h⟩
    · rcases List.mem_append.mp h with h | h
      · exact .inl h
      · rcases mem_joinL S (q :: r) h with h | ⟨z, hz, h⟩
        · exact .inl h
        · exact .inr ⟨z, List.mem_cons_of_mem _ hz, h⟩
theorem showR_sign {r : List Int} {c : Nat} (h : c ∈ TL.tl (showR r)) : c = 32 ∨ c = 45 ∨ (48 ≤ c ∧ c ≤ 57) := by
  unfold showR at h
  rw [TL.join_eq, TL.tl_join, tl_sp] at h
  rcases mem_joinL _ _ h with h | ⟨p, hp, h⟩
  · exact .inl (List.mem_singleton.mp h)
  · obtain ⟨w, hw, rfl⟩ := List.mem_map.mp hp
    obtain ⟨i, _, rfl⟩ := List.mem_map.mp hw
    exact .inr (numS_sign h)
theorem sum_le {c : Nat} : ∀ ns : List Nat, (∀ n ∈ ns, n ≤ c) → ns.sum ≤ ns.length * c
  | [], _ => Nat.zero_le _
  | n :: ns, h => by
    have z := sum_le ns fun m hm => h m (List.mem_cons_of_mem _ hm)
    have y := h n List.mem_cons_self
    rw [List.sum_cons, List.length_cons, Nat.add_mul]
    omega
theorem showR_len {r : List Int} {k : Nat} (hk : 0 < k) (h : ∀ x ∈ r, x.natAbs < 10 ^ k) : (showR r).length ≤ r.length * (k + 2) := by
  unfold showR
  have z := join_len (" " : Str) (r.map numS)
  have l1 : (" " : Str).length = 1 := by decide +kernel
  have y := sum_le (c := k + 1) ((r.map numS).map (·.length)) fun n hn => by
    obtain ⟨w, hw, rfl⟩ := List.mem_map.mp hn
    obtain ⟨i, hi, rfl⟩ := List.mem_map.mp hw
    exact (numS_len hk (h i hi)).2
  simp only [List.length_map] at z y
  rw [l1] at z
  have e : r.length * (k + 2) = r.length * (k + 1) + r.length * 1 := by rw [← Nat.mul_add]
  omega
theorem showR_pos {r : List Int} (hr : r ≠ []) : 1 ≤ (showR r).length := by
  obtain ⟨i, q, rfl⟩ : ∃ i q, r = i :: q := by
    cases r with
    | nil => exact absurd rfl hr
    | cons i q => exact ⟨i, q, rfl⟩
  unfold showR
  rw [TL.len_tl, TL.join_eq, TL.tl_join]
  have z : ∃ k, i.natAbs < 10 ^ (k + 1) := ⟨i.natAbs, Nat.lt_of_lt_of_le (Nat.lt_pow_self (by decide)) (Nat.pow_le_pow_right (by decide) (by omega))⟩
  obtain ⟨k, hk⟩ := z
  have y := (numS_len (by omega) hk).1
  rw [TL.len_tl] at y
  cases q with
  | nil => exact y
  | cons j q =>
    show 1 ≤ (TL.tl (numS i) ++ _).length
    rw [List.length_append]
    omega
theorem allO_num : ∀ {r : List Int}, (∀ x ∈ r, x.natAbs < 10 ^ 40) → allO ((r.map numS).map fun w => nText (TL.tl w)) = some r
  | [], _ => rfl
  | i :: r, h => by
    show allO (nText (TL.tl (numS i)) :: (r.map numS).map fun w => nText (TL.tl w)) = _
    rw [nText_num (h i List.mem_cons_self)]
    show (allO ((r.map numS).map fun w => nText (TL.tl w))).map (i :: ·) = _
    rw [allO_num fun x hx => h x (List.mem_cons_of_mem _ hx)]
    rfl
theorem ints_showR {r : List Int} (hr : r ≠ []) (h : ∀ x ∈ r, x.natAbs < 10 ^ 40) : intsW (Txt.split (showR r) (" " : Str)) = some r := by
  rw [split_showR hr]
  exact allO_num h
def strF : D → D := fun d => match d with
  | .int i => .str (numS i)
  | d => d
theorem strF_map (r : List Int) : (iD r).map strF = (r.map numS).map D.str := by
  unfold iD
  rw [List.map_map, List.map_map]
  rfl
/-- [str(i) for i in r], joined -/
theorem join_nums {i j : Nat} {r : List Int} {env : VL.Env} {Q : D → Prop} (he : env[i]? = some (some (.tup (iD r))) ∨ env[i]? = some (some (.lst (iD r)))) (hj : (wipeE env [j]).length > j) (hl : r.length ≤ 10000) (hb : ∀ x ∈ r, x.natAbs < 10 ^ 40) (q : Q (.str (showR r))) :
    mS2 oJoin (mC (.str " ")) (mLc (mItQ (mVar i)) [j] (bName j) mYes (mCall oStr (mCons (mVar j) mNil))) env Q := by
  have big : (10 : Nat) ^ 40 < 10 ^ 200 := Nat.pow_lt_pow_right (by decide) (by decide)
  refine ms2_of (a := (" " : Str)) (fun P hP => hP) (mlc_of2 ?_)
  have body : (iD r).length ≤ 100000 ∧ lcM (bName j) mYes (mCall oStr (mCons (mVar j) mNil)) (wipeE env [j]) (iD r) [] fun acc => oJoin (" " : Str) (.lst acc) Q := by
    refine ⟨by rw [iD_len]; omega, ?_⟩
    refine lc_all strF _ ?_ ?_
    · intro d hd P hP
      obtain ⟨x, hx, rfl⟩ := List.mem_map.mp hd
      refine mcall_ofT (mconsT (var_of (List.getElem?_set_self hj) (mnil_of ⟨?_, hP⟩)))
      have z := hb x hx
      omega
    · rw [strF_map]
      refine oJoin_of ?_ q
      have z := sum_le (c := 41) ((r.map numS).map (·.length)) fun n hn => by
        obtain ⟨w, hw, rfl⟩ := List.mem_map.mp hn
        obtain ⟨i, hi, rfl⟩ := List.mem_map.mp hw
        exact (numS_len (by decide) (hb i hi)).2
      have l1 : (" " : Str).length = 1 := by decide +kernel
      simp only [List.length_map] at z ⊢
      rw [l1]
      omega
  rcases he with he | he
  · exact var_of he body
  · exact var_of he body
/-! a number's text is the one text of it -/
theorem dv_snoc (l : List Nat) (c : Nat) : NumText.digitsVal (l ++ [c]) = NumText.digitsVal l * 10 + (c - 48) := by
  unfold NumText.digitsVal
  rw [List.foldl_append]
  rfl
theorem fold_pos : ∀ (l : List Nat) (n : Nat), 1 ≤ n → 1 ≤ l.foldl (fun acc c => acc * 10 + (c - 48)) n
  | [], _, h => h
  | c :: l, n, h => fold_pos l (n * 10 + (c - 48)) (by omega)
theorem dv_pos {c : Nat} {l : List Nat} (h : 49 ≤ c) : 1 ≤ NumText.digitsVal (c :: l) := fold_pos l (0 * 10 + (c - 48)) (by omega)
theorem numL_back : ∀ (k : Nat) (l : List Nat), l.length = k → l ≠ [] → NumText.AllDigits l → (l.head? = some 48 → l = [48]) → TL.numL (NumText.digitsVal l) = l
  | 0, l, hk, hn, _, _ => absurd (List.length_eq_zero_iff.mp hk) hn
  | k + 1, l, hk, hn, hd, hz => by
    obtain ⟨r, c, rfl⟩ : ∃ r c, l = r ++ [c] := ⟨l.dropLast, l.getLast hn, (List.dropLast_concat_getLast hn).symm⟩
    have hc := hd c (List.mem_append_right _ (List.mem_singleton.mpr rfl))
    rw [dv_snoc]
    cases r with
    | nil =>
      have e : NumText.digitsVal [] = 0 := rfl
      rw [e, TL.numL_lt (by omega)]
      show [48 + (0 * 10 + (c - 48))] = [c]
      congr 1
      omega
    | cons d r =>
      have hd0 := hd d (List.mem_append_left _ List.mem_cons_self)
      have n48 : d ≠ 48 := fun e => by
        have z := hz (by rw [e]; rfl)
        rw [List.cons_append] at z
        injection z with _ z
        cases r <;> cases z
      have p := dv_pos (c := d) (l := r) (by omega)
      have ih := numL_back k (d :: r) (by simp only [List.length_append, List.length_cons, List.length_nil] at hk ⊢; omega) (fun e => nomatch e) (fun x hx => hd x (List.mem_append_left _ hx)) (fun e => absurd (Option.some.inj e) n48)
      rw [TL.numL_step (by omega)]
      rw [show (NumText.digitsVal (d :: r) * 10 + (c - 48)) / 10 = NumText.digitsVal (d :: r) from by omega, show (NumText.digitsVal (d :: r) * 10 + (c - 48)) % 10 = c - 48 from by omega, ih]
      congr 2
      omega
theorem nText_canon {l : List Nat} {i : Int} (h : nText l = some i) : TL.tl (numS i) = l := by
  unfold nText at h
  split at h
  · rename_i ok
    injection h with h
    obtain ⟨⟨k1, k2⟩, k3, k4⟩ := okNum_iff.mp ok
    have ad := all_dg k3
    unfold nVal at h
    by_cases hm : l.head? = some 45
    · obtain ⟨d, rfl⟩ : ∃ d, l = 45 :: d := by
        cases l with
        | nil => cases hm
        | cons x d => cases hm; exact ⟨d, rfl⟩
      have e : digs (45 :: d) = d := rfl
      rw [if_pos hm, e] at h
      rw [e] at k1 k3 k4 ad
      have nz : d.head? ≠ some 48 := fun q => by
        have z := k4 q
        injection z with z
        cases z
      obtain ⟨x, r, rfl⟩ : ∃ x r, d = x :: r := by
        cases d with
        | nil => cases k1
        | cons x r => exact ⟨x, r, rfl⟩
      have hx := ad x List.mem_cons_self
      have p := dv_pos (c := x) (l := r) (by
        have : x ≠ 48 := fun q => nz (by rw [q]; rfl)
        omega)
      rw [← h, tl_numS_neg (by omega)]
      rw [numL_back (x :: r).length (x :: r) rfl (fun e => nomatch e) ad (fun q => absurd q nz)]
    · have e : digs l = l := by
        unfold digs
        rw [if_neg hm]
      rw [if_neg hm, e] at h
      rw [e] at k1 k4 ad
      rw [← h, tl_numS_nat]
      exact numL_back _ _ rfl (fun q => by rw [q] at k1; cases k1) ad k4
  · cases h
/-! cut at one sign -/
theorem spl_parS (s : Nat) : ∀ (l acc : List Nat), TL.spl [s] 0 acc l = match TL.par [s] acc l with
    | some (a, b) => a :: TL.spl [s] 0 [] b
    | none => [acc ++ l]
  | [], acc => by
    rw [TL.spl_nil]
    show [acc] = [acc ++ []]
    rw [List.append_nil]
  | c :: r, acc => by
    by_cases h : TL.pre [s] (c :: r) = true
    · rw [TL.spl_hit h, TL.par_hit h]
      rfl
    · have h := Bool.eq_false_iff.mpr h
      rw [TL.spl_miss h, TL.par_miss h, spl_parS s r (acc ++ [c])]
      cases TL.par [s] (acc ++ [c]) r with
      | none =>
        show [acc ++ [c] ++ r] = [acc ++ c :: r]
        rw [List.append_assoc]
        rfl
      | some q => rfl
theorem pre_one {s c : Nat} {r : List Nat} : TL.pre [s] (c :: r) = true ↔ c = s := by
  constructor
  · intro h
    by_cases e : c = s
    · exact e
    · rw [TL.pre_of_head [] r e] at h
      cases h
  · rintro rfl
    exact TL.pre_self [c] r
theorem par_eq (s : Nat) : ∀ (l acc : List Nat) {a b : List Nat}, TL.par [s] acc l = some (a, b) → acc ++ l = a ++ s :: b ∧ b.length ≤ l.length ∧ a.length ≤ acc.length + l.length
  | [], acc, a, b, h => by cases h
  | c :: r, acc, a, b, h => by
    by_cases e : TL.pre [s] (c :: r) = true
    · rw [TL.par_hit e] at h
      injection h with h
      injection h with h1 h2
      have ec := pre_one.mp e
      subst h1
      have eb : b = r := by rw [← h2]; rfl
      subst eb
      rw [ec]
      exact ⟨rfl, by simp, by simp⟩
    · have e := Bool.eq_false_iff.mpr e
      rw [TL.par_miss e] at h
      obtain ⟨z1, z2, z3⟩ := par_eq s r _ h
      rw [List.append_assoc] at z1
      simp only [List.length_append, List.length_cons, List.length_nil] at z3 ⊢
      exact ⟨z1, by omega, by omega⟩
theorem par_no (s : Nat) : ∀ (l acc : List Nat), TL.par [s] acc l = none → s ∉ l
  | [], _, _, h => nomatch h
  | c :: r, acc, h, hs => by
    by_cases e : TL.pre [s] (c :: r) = true
    · rw [TL.par_hit e] at h
      cases h
    · have e' := Bool.eq_false_iff.mpr e
      rw [TL.par_miss e'] at h
      rcases List.mem_cons.mp hs with rfl | hs
      · exact e (pre_one.mpr rfl)
      · exact par_no s r _ h hs
/-! needles in texts -/
theorem sep_pl : Sep ("+" : Str) := ⟨by decide +kernel, by decide +kernel⟩
theorem sep_sl : Sep ("/" : Str) := ⟨by decide +kernel, by decide +kernel⟩
theorem tl_pl : TL.tl ("+" : Str) = [43] := by decide +kernel
theorem tl_sl : TL.tl ("/" : Str) = [47] := by decide +kernel
theorem partS {y : Str} {s : Nat} (hy : TL.tl y = [s]) (sp : Sep y) (p : Str) : (∃ a b : Str, Txt.partition p y = (a, y, b) ∧ TL.tl p = TL.tl a ++ s :: TL.tl b ∧ (a.length ≤ p.length ∧ b.length ≤ p.length) ∧ Txt.split p y = a :: Txt.split b y) ∨
    (Txt.partition p y = (p, Str.empty, Str.empty) ∧ s ∉ TL.tl p ∧ Txt.split p y = [p]) := by
  have z := TL.partition_par p y sp.ne
  have w := split_tl (x := p) sp
  rw [hy] at z
  rw [hy, spl_parS] at w
  cases e : TL.par [s] [] (TL.tl p) with
  | none =>
    rw [e] at z w
    exact .inr ⟨z, par_no s _ _ e, TL.map_tl_inj w⟩
  | some q =>
    obtain ⟨a, b⟩ := q
    rw [e] at z w
    obtain ⟨z1, z2, z3⟩ := par_eq s _ _ e
    refine .inl ⟨⟨a.toArray⟩, ⟨b.toArray⟩, z, z1, ⟨?_, ?_⟩, TL.map_tl_inj ?_⟩
    · rw [TL.len_tl, TL.len_tl, TL.tl_mk]
      simpa using z3
    · rw [TL.len_tl, TL.len_tl, TL.tl_mk]
      exact z2
    · rw [w, List.map_cons, split_tl sp, hy, TL.tl_mk, TL.tl_mk]
theorem nText_sign {l : List Nat} {i : Int} (h : nText l = some i) : ∀ c ∈ l, c = 45 ∨ (48 ≤ c ∧ c ≤ 57) := fun c hc => by
  rw [← nText_canon h] at hc
  exact numS_sign hc
theorem nText_nil0 : nText (TL.tl Str.empty) = none := rfl
def valid (a b c : Int) : Prop := 1 ≤ a ∧ a ≤ b ∧ 0 ≤ c ∧ c < b
instance (a b c : Int) : Decidable (valid a b c) := by unfold valid; infer_instance
def ndO (w : Str) : Option (Int × Int × Int) :=
  match nText (TL.tl (Txt.partition (Txt.partition w ("+" : Str)).1 ("/" : Str)).1), nText (TL.tl (Txt.partition (Txt.partition w ("+" : Str)).1 ("/" : Str)).2.2), nText (TL.tl (Txt.partition w ("+" : Str)).2.2) with
  | some a, some b, some c => if valid a b c then some (a, b, c) else none
  | _, _, _ => none
def nS (a b c : Int) : Str := (((numS a ++ ("/" : Str)) ++ numS b) ++ ("+" : Str)) ++ numS c
/-- three numbers, as the text has them -/
theorem trip_text {w : Str} {a b c : Int} (h1 : nText (TL.tl (Txt.partition (Txt.partition w ("+" : Str)).1 ("/" : Str)).1) = some a) (h2 : nText (TL.tl (Txt.partition (Txt.partition w ("+" : Str)).1 ("/" : Str)).2.2) = some b) (h3 : nText (TL.tl (Txt.partition w ("+" : Str)).2.2) = some c) : nS a b c = w ∧ (Txt.partition w ("+" : Str)).2.1 = ("+" : Str) ∧ Txt.split (Txt.partition w ("+" : Str)).1 ("/" : Str) = [(Txt.partition (Txt.partition w ("+" : Str)).1 ("/" : Str)).1, (Txt.partition (Txt.partition w ("+" : Str)).1 ("/" : Str)).2.2] := by
  rcases partS tl_pl sep_pl w with ⟨x, z, e1, e2, _, e4⟩ | ⟨e1, _⟩
  · rw [e1] at h1 h2 h3 ⊢
    rcases partS tl_sl sep_sl x with ⟨s, p, f1, f2, _, f4⟩ | ⟨f1, _⟩
    · have f1' : Txt.partition (x, ("+" : Str), z).1 ("/" : Str) = (s, ("/" : Str), p) := f1
      rw [f1'] at h1 h2 ⊢
      have h1 : nText (TL.tl s) = some a := h1
      have h2 : nText (TL.tl p) = some b := h2
      have h3 : nText (TL.tl z) = some c := h3
      refine ⟨TL.ext_tl ?_, rfl, ?_⟩
      · unfold nS
        rw [TL.tl_append, TL.tl_append, TL.tl_append, TL.tl_append, tl_pl, tl_sl, nText_canon h1, nText_canon h2, nText_canon h3, e2, f2]
        simp
      · show Txt.split x ("/" : Str) = [s, p]
        rw [f4]
        congr 1
        rcases partS tl_sl sep_sl p with ⟨s2, p2, _, g2, _⟩ | ⟨_, _, g3⟩
        · have z := nText_sign h2 47 (by rw [g2]; exact List.mem_append_right _ List.mem_cons_self)
          omega
        · exact g3
    · have f1' : Txt.partition (x, ("+" : Str), z).1 ("/" : Str) = (x, Str.empty, Str.empty) := f1
      rw [f1'] at h2
      have h2 : nText (TL.tl Str.empty) = some b := h2
      rw [nText_nil0] at h2
      cases h2
  · rw [e1] at h3
    have h3 : nText (TL.tl Str.empty) = some c := h3
    rw [nText_nil0] at h3
    cases h3
theorem ndO_ok {w : Str} {a b c : Int} (h : ndO w = some (a, b, c)) : valid a b c ∧ nS a b c = w ∧ (lt10 40 a ∧ lt10 40 b ∧ lt10 40 c) := by
  unfold ndO at h
  split at h
  · rename_i a' b' c' h1 h2 h3
    split at h
    · rename_i v
      injection h with h
      injection h with q1 q2
      injection q2 with q2 q3
      subst q1 q2 q3
      exact ⟨v, (trip_text h1 h2 h3).1, nText_bd h1, nText_bd h2, nText_bd h3⟩
    · cases h
  · cases h
/-- what the law makes of a text -/
def dueO (w : Str) : Option (Int × Int × Int) := match intsW (Txt.split (Txt.partition w ("+" : Str)).1 ("/" : Str) ++ [(Txt.partition w ("+" : Str)).2.2]) with
  | some [a, b, c] => if (Txt.partition w ("+" : Str)).2.1 ≠ ("" : Str) ∧ valid a b c then some (a, b, c) else none
  | _ => none
theorem plus_ne : ("+" : Str) ≠ ("" : Str) := by decide +kernel
theorem allO_three {x y z : Option Int} {a b c : Int} (h : allO [x, y, z] = some [a, b, c]) : x = some a ∧ y = some b ∧ z = some c := by
  cases x with
  | none => cases h
  | some x =>
    cases y with
    | none => cases h
    | some y =>
      cases z with
      | none => cases h
      | some z => cases h; exact ⟨rfl, rfl, rfl⟩
theorem dueO_eq (w : Str) : dueO w = ndO w := by
  have up : ∀ {a b c : Int}, nText (TL.tl (Txt.partition (Txt.partition w ("+" : Str)).1 ("/" : Str)).1) = some a → nText (TL.tl (Txt.partition (Txt.partition w ("+" : Str)).1 ("/" : Str)).2.2) = some b → nText (TL.tl (Txt.partition w ("+" : Str)).2.2) = some c → dueO w = if valid a b c then some (a, b, c) else none := fun {a b c} h1 h2 h3 => by
    obtain ⟨_, t2, t3⟩ := trip_text h1 h2 h3
    have i : intsW (Txt.split (Txt.partition w ("+" : Str)).1 ("/" : Str) ++ [(Txt.partition w ("+" : Str)).2.2]) = some [a, b, c] := by
      rw [t3]
      show allO [nText _, nText _, nText _] = _
      rw [h1, h2, h3]
      rfl
    unfold dueO
    rw [i, t2]
    by_cases v : valid a b c
    · rw [if_pos v]
      exact if_pos ⟨plus_ne, v⟩
    · rw [if_neg v]
      exact if_neg fun z => v z.2
  have dn : ∀ {a b c : Int}, dueO w = some (a, b, c) → nText (TL.tl (Txt.partition (Txt.partition w ("+" : Str)).1 ("/" : Str)).1) = some a ∧ nText (TL.tl (Txt.partition (Txt.partition w ("+" : Str)).1 ("/" : Str)).2.2) = some b ∧ nText (TL.tl (Txt.partition w ("+" : Str)).2.2) = some c := fun {a b c} h => by
    unfold dueO at h
    split at h
    · rename_i a' b' c' i
      split at h
      · injection h with h
        injection h with q1 q2
        injection q2 with q2 q3
        subst q1 q2 q3
        have l := (catO_all _ i).2
        simp only [List.length_map, List.length_append, List.length_cons, List.length_nil] at l
        rcases partS tl_sl sep_sl (Txt.partition w ("+" : Str)).1 with ⟨s, p, f1, _, _, f4⟩ | ⟨_, _, f4⟩
        · rw [f4] at l i
          simp only [List.length_cons] at l
          rcases partS tl_sl sep_sl p with ⟨s2, p2, _, _, _, g4⟩ | ⟨_, _, g4⟩
          · have n := (split_facts (x := p2) sep_sl).2.2
            have n1 := List.length_pos_iff.mpr n
            rw [g4] at l
            simp only [List.length_cons] at l
            omega
          · rw [g4] at i
            rw [f1]
            exact allO_three i
        · rw [f4] at l
          simp only [List.length_cons, List.length_nil] at l
          omega
      · cases h
    · cases h
  cases e : dueO w with
  | some t =>
    obtain ⟨a, b, c⟩ := t
    obtain ⟨h1, h2, h3⟩ := dn e
    have z := up h1 h2 h3
    unfold ndO
    rw [h1, h2, h3]
    rw [← e]
    exact z
  | none =>
    unfold ndO
    split
    · rename_i a b c h1 h2 h3
      rw [← up h1 h2 h3]
      exact e.symm
    · rfl
theorem kind_law (Q : D → Prop) (h : ∀ s p m : Int, 1 ≤ s → s ≤ p → p ≤ 60 → 0 ≤ m → m < p → Q (.tup [.int s, .int p, .int m])) : f_l_kind [.pool] Q := by
  refine ⟨rfl, ?_⟩
  refine ⟨⟨by decide, by decide⟩, fun a a0 a1 => ⟨⟨by decide, by decide⟩, fun b b0 b1 => ⟨len_le rfl, ⟨by decide, by decide⟩, fun i i0 i1 => ?_⟩⟩⟩
  refine pickI (fun p => 1 ≤ p ∧ p ≤ 60) ?_ i0 i1 (fun p hp => ?_)
  · intro d hd
    simp only [List.mem_cons, List.not_mem_nil, or_false] at hd
    rcases hd with rfl | rfl | rfl | rfl | rfl | rfl <;> exact ⟨_, rfl, by omega, by omega⟩
  refine ⟨⟨by omega, by omega⟩, fun a a0 a1 => ⟨len_le rfl, ⟨by decide, by decide⟩, fun i i0 i1 => ?_⟩⟩
  refine pickI (fun s => 1 ≤ s ∧ s ≤ p) ?_ i0 i1 (fun s hs => ?_)
  · intro d hd
    simp only [List.mem_cons, List.not_mem_nil, or_false] at hd
    rcases hd with rfl | rfl | rfl | rfl
    · exact ⟨_, rfl, by omega, by omega⟩
    · exact ⟨_, rfl, by omega, by omega⟩
    · exact ⟨_, rfl, by omega, by omega⟩
    · exact ⟨_, rfl, by split <;> omega, by split <;> omega⟩
  have many : ∀ k : Int, 1 ≤ k → k ≤ 60 / p → mSeq (mPar .any .any 1 2 (m2 oMul (mVar 1) (mVar 3)) (m2 oMul (mVar 2) (mVar 3))) (mSeq (mSet .any 4 (m2 oIx (mCall oLst (mCons (mC (.int 0)) (mCons (m2 oSub (mVar 1) (mC (.int 1))) (mCons (m2 oDiv (mVar 1) (mC (.int 2))) (mCons (mCall oDraw (mCons (mVar 0) (mCons (mVar 1) mNil))) mNil))))) (mCall oDraw (mCons (mVar 0) (mCons (mC (.int 4)) mNil))))) (mRet (mCall oTup (mCons (mVar 2) (mCons (mVar 1) (mCons (mVar 4) mNil)))))) ⟨fun _ => Q .non, Q, fun _ => False, fun _ => False⟩ [some .pool, some (.int p), some (.int s), some (.int k), none] := by
    intro k k1 k2
    have e : p * k ≤ 60 := Int.le_trans (Int.mul_le_mul_of_nonneg_left k2 (by omega)) (Int.mul_ediv_self_le (by omega))
    have e1 : 1 ≤ s * k := by
      have z := Int.mul_le_mul hs.1 k1 (by omega) (by omega)
      omega
    have e2 : s * k ≤ p * k := Int.mul_le_mul_of_nonneg_right hs.2 (by omega)
    have kk : k ≤ 60 := Int.le_trans k2 (Int.ediv_le_self p (by omega))
    refine ⟨.inl (.inl ⟨by omega, by omega⟩), .inl (.inl ⟨by omega, by omega⟩), ?_⟩
    refine ⟨⟨by decide, by decide⟩, ⟨by omega, by omega⟩, fun a a0 a1 => ⟨len_le rfl, ⟨by decide, by decide⟩, fun i i0 i1 => ?_⟩⟩
    refine pickI (fun m => 0 ≤ m ∧ m < p * k) ?_ i0 i1 (fun m hm => ⟨len_le rfl, h _ _ _ e1 e2 e hm.1 hm.2⟩)
    intro d hd
    simp only [List.mem_cons, List.not_mem_nil, or_false] at hd
    rcases hd with rfl | rfl | rfl | rfl
    all_goals exact ⟨_, rfl, by omega, by omega⟩
  have q1 : 1 ≤ 60 / p := (Int.le_ediv_iff_mul_le (by omega)).mpr (by omega)
  refine ⟨⟨by decide, by decide⟩, fun a a0 a1 => ⟨rfl, rfl, ?_⟩⟩
  refine ifEq (fun _ => ?_) (fun _ => many 1 (by decide) q1)
  refine ⟨⟨by omega, by have z : p.natAbs.log2 < 64 := log2_lt (by omega) (by decide); omega⟩, ⟨by omega, ?_⟩, fun b b0 b1 => many _ (by omega) (by omega)⟩
  have z : 60 / p ≤ 60 := Int.ediv_le_self p (by omega)
  omega
theorem made_law {s p m : Int} (h1 : 1 ≤ s) (h2 : s ≤ p) (h3 : p ≤ 60) (h4 : 0 ≤ m) (h5 : m < p) (Q : D → Prop) (h : Q (.ndl s p m)) : f_l_made [.tup [.int s, .int p, .int m]] Q :=
  ⟨rfl, ⟨by omega, by omega, by omega, by omega, by omega⟩, h⟩
theorem eqD3 (a b c a' b' c' : Int) : eqD (.tup [.int a, .int b, .int c]) (.tup [.int a', .int b', .int c']) = (decide (a = a') && (decide (b = b') && decide (c = c'))) := by
  rw [eqD_dec (p := a = a' ∧ b = b' ∧ c = c') rfl rfl ⟨fun e => by cases e; exact ⟨rfl, rfl, rfl⟩, fun ⟨e1, e2, e3⟩ => by rw [e1, e2, e3]⟩]
  rw [Bool.decide_and, Bool.decide_and]
theorem eqn_law {neg ch : Bool} {s p m s' p' m' : Int} (Q : D → Prop) (h : Q (.bl (neg ^^ sameN (.ndl s p m) (.ndl s' p' m')))) : oEqN neg ch f_Needle___eq__ (.ndl s p m) (.ndl s' p' m') Q := by
  refine ⟨rfl, rfl, ?_⟩
  refine ⟨by cases ch <;> rfl, ?_⟩
  refine ⟨rfl, rfl, ?_⟩
  rw [eqD3]
  exact h
theorem ty_any {ch : Bool} {y : D} (hy : (tyD false C0 y).isSome = true) : (tyD ch C0 y).isSome = true := by
  cases ch with
  | false => exact hy
  | true =>
    cases y with
    | chn xs => rfl
    | pool => cases hy
    | opq a => cases hy
    | err a b c => cases hy
    | fnc k => cases hy
    | exo k v e => cases hy
    | dct x => cases hy
    | exv a d k v => cases hy
    | gag a c d l xs => cases hy
    | _ => rfl
/-- a needle and another thing -/
theorem eqn_not {neg ch : Bool} {s p m : Int} {y : D} (hy : (tyD false C0 y).isSome = true) (hn : isNdl y = false) (Q : D → Prop) (h : Q (.bl neg)) : oEqN neg ch f_Needle___eq__ (.ndl s p m) y Q := by
  refine ⟨ty_any hy, rfl, ?_⟩
  refine ⟨ty_any hy, ?_⟩
  rw [hn]
  cases neg <;> exact h
theorem sameN_refl (s p m : Int) : sameN (.ndl s p m) (.ndl s p m) = true := by simp [sameN]
/-! needles in texts -/
def numF : D → D := fun d => match d with
  | .str w => optD (nText (TL.tl w))
  | d => d
theorem numF_map (ws : List Str) : (ws.map D.str).map numF = (ws.map fun w => nText (TL.tl w)).map optD := by
  rw [List.map_map, List.map_map]
  rfl
theorem inD_opt : ∀ l : List (Option Int), (l.map optD).all flatD = true ∧ inD .non (l.map optD) = !(allO l).isSome
  | [] => ⟨rfl, rfl⟩
  | none :: r => by
    have z := inD_opt r
    refine ⟨?_, rfl⟩
    show (flatD .non && (r.map optD).all flatD) = true
    rw [z.1]
    rfl
  | some i :: r => by
    have z := inD_opt r
    refine ⟨?_, ?_⟩
    · show (flatD (.int i) && (r.map optD).all flatD) = true
      rw [z.1]
      rfl
    · show (eqV (.int i) .non || inD .non (r.map optD)) = !((allO r).map (i :: ·)).isSome
      rw [z.2, Option.isSome_map]
      rfl
theorem optD_all : ∀ (l : List (Option Int)) {xs : List Int}, allO l = some xs → l.map optD = iD xs
  | [], xs, h => by cases h; rfl
  | some i :: r, xs, h => by
    have h : (allO r).map (i :: ·) = some xs := h
    cases q : allO r with
    | none => rw [q] at h; cases h
    | some ys =>
      rw [q] at h
      cases h
      show D.int i :: r.map optD = iD (i :: ys)
      rw [optD_all r q]
      rfl
  | none :: _, xs, h => by cases h
theorem oSplit_of {x y : Str} {Q : D → Prop} (hy : Sep y) (hl : x.length ≤ 16000000) (q : Q (.lst ((Txt.split x y).map D.str))) : oSplit x (.str y) Q := by
  refine ⟨⟨?_, hl⟩, q⟩
  have z := List.length_pos_iff.mpr hy.ne
  rw [TL.len_tl]
  simp only [beq_eq_false_iff_ne]
  omega
theorem isB_if {b : Bool} {x y : Prop} (h1 : b = true → x) (h2 : b = false → y) : isB (.bl b) fun b => if b = true then x else y := by
  unfold isB
  dsimp only
  cases b with
  | true =>
    rw [if_pos rfl]
    exact h1 rfl
  | false =>
    rw [if_neg Bool.false_ne_true]
    exact h2 rfl
theorem due_out {N : MEnds} {cond : MT} {rest : MS} {env : VL.Env} (c : ∀ K : Bool → Prop, K true → cond env K) (hN : N.rt (.lst [])) : mSeq (mIfS cond (mRet (mCall oLst mNil)) mNext) rest N env := by
  refine seq_via (fun _ => False) ?_ (fun _ z => z.elim)
  intro N' _ hrt _ _
  refine mif_t (fun K q => c K q) ?_
  refine mret_of ⟨len_le rfl, ?_⟩
  rw [hrt]
  exact hN
theorem jfmt_str {me : ME} {mr : MJ} {env : VL.Env} {acc y : Str} {Q : Str → Prop} (h : ∀ P : D → Prop, P (.str y) → me env P) (hl : y.length ≤ 16000000) (hl2 : (acc ++ y).length ≤ 16000000) (q : mr env (acc ++ y) Q) : mJfmt me mr env acc Q := h _ ⟨hl, hl2, q⟩
theorem jstr_of {mr : MJ} {env : VL.Env} {acc y : Str} {Q : Str → Prop} (hl : (acc ++ y).length ≤ 16000000) (q : mr env (acc ++ y) Q) : mJstr y mr env acc Q := ⟨hl, q⟩
theorem jnil_of {env : VL.Env} {acc : Str} {Q : Str → Prop} (q : Q acc) : mJnil env acc Q := q
theorem mfs_of {mj : MJ} {env : VL.Env} {Q : D → Prop} (h : mj env Str.empty fun out => Q (.str out)) : mFs mj env Q := h
theorem emp_app (x : Str) : Str.empty ++ x = x := TL.ext_tl (by rw [TL.tl_append]; rfl)
theorem jfmt_int {me : ME} {mr : MJ} {env : VL.Env} {acc : Str} {i : Int} {Q : Str → Prop} (h : ∀ P : D → Prop, P (.int i) → me env P) (hb : i.natAbs < 10 ^ 200) (hl2 : (acc ++ numS i).length ≤ 16000000) (q : mr env (acc ++ numS i) Q) : mJfmt me mr env acc Q := h _ ⟨hb, hl2, q⟩
theorem up200 {i : Int} (h : i.natAbs < 10 ^ 40) : i.natAbs < 10 ^ 200 := Nat.lt_trans h (by decide +kernel)
theorem len_pl : ("+" : Str).length = 1 := by decide +kernel
theorem len_sl : ("/" : Str).length = 1 := by decide +kernel
theorem show_needle_law {a b c : Int} (ha : a.natAbs < 10 ^ 40) (hb : b.natAbs < 10 ^ 40) (hc : c.natAbs < 10 ^ 40) (Q : D → Prop) (h : Q (.str (nS a b c))) : f_show_needle [.ndl a b c] Q := by
  have la := (numS_len (k := 40) (by decide) ha).2
  have lb := (numS_len (k := 40) (by decide) hb).2
  have lc := (numS_len (k := 40) (by decide) hc).2
  have l1 := len_pl
  have l2 := len_sl
  refine ⟨rfl, ?_⟩
  unfold m_show_needle
  refine mret_of (mfs_of (jfmt_int (i := a) (fun P hP => ⟨rfl, hP⟩) (up200 ha) (by rw [emp_app]; omega) (jstr_of (by rw [emp_app, app_len]; omega) ?_)))
  refine jfmt_int (i := b) (fun P hP => ⟨rfl, hP⟩) (up200 hb) (by rw [emp_app, app_len, app_len]; omega) (jstr_of (by rw [emp_app, app_len, app_len, app_len]; omega) ?_)
  refine jfmt_int (i := c) (fun P hP => ⟨rfl, hP⟩) (up200 hc) (by rw [emp_app, app_len, app_len, app_len, app_len]; omega) (jnil_of ?_)
  rw [emp_app]
  exact h
theorem part_len {y : Str} {s : Nat} (hy : TL.tl y = [s]) (sp : Sep y) (p : Str) : (Txt.partition p y).1.length ≤ p.length ∧ (Txt.partition p y).2.2.length ≤ p.length := by
  rcases partS hy sp p with ⟨a, b, e, _, l, _⟩ | ⟨e, _⟩
  · rw [e]
    exact l
  · rw [e]
    exact ⟨Nat.le_refl _, Nat.zero_le _⟩
def nd3 (x y z : Option Int) : Option (Int × Int × Int) := match x, y, z with
  | some a, some b, some c => if valid a b c then some (a, b, c) else none
  | _, _, _ => none
theorem ndO_p {w A B C S T P : Str} (h1 : Txt.partition w ("+" : Str) = (A, B, C)) (h2 : Txt.partition A ("/" : Str) = (S, T, P)) : ndO w = nd3 (nText (TL.tl S)) (nText (TL.tl P)) (nText (TL.tl C)) := by
  unfold ndO
  rw [h1]
  dsimp only
  rw [h2]
  rfl
theorem nd3_none {x y z : Option Int} (h : allO [x, y, z] = none) : nd3 x y z = none := by
  cases x with
  | none => rfl
  | some x =>
    cases y with
    | none => rfl
    | some y =>
      cases z with
      | none => rfl
      | some z => cases h
theorem all3 {x y z : Option Int} {xs : List Int} (h : allO [x, y, z] = some xs) : ∃ a b c, x = some a ∧ y = some b ∧ z = some c := by
  cases x with
  | none => cases h
  | some x =>
    cases y with
    | none => cases h
    | some y =>
      cases z with
      | none => cases h
      | some z => exact ⟨_, _, _, rfl, rfl, rfl⟩
def rnE (w A B C S T P : Str) (x7 x9 : Option D) : VL.Env := [some (.str w), some (.str A), some (.str B), some (.str C), some (.str S), some (.str T), some (.str P), x7, none, x9, none]
theorem read_needle_law {w : Str} (hw : w.length ≤ 20000) (Q : D → Prop) (h : ∀ a b c, ndO w = some (a, b, c) → Q (.ndl a b c)) (hx : ndO w = none → ∀ env, Q (.exo 10 (.str w) env)) : f_read_needle [.str w] Q := by
  refine ⟨rfl, ?_⟩
  unfold m_read_needle
  obtain ⟨A, B, C, h1⟩ : ∃ A B C, Txt.partition w ("+" : Str) = (A, B, C) := ⟨_, _, _, rfl⟩
  obtain ⟨S, T, P, h2⟩ : ∃ S T P, Txt.partition A ("/" : Str) = (S, T, P) := ⟨_, _, _, rfl⟩
  have l1 := part_len tl_pl sep_pl w
  rw [h1] at l1
  have l2 := part_len tl_sl sep_sl A
  rw [h2] at l2
  dsimp only at l1 l2
  have np := ndO_p h1 h2
  refine seq_via (fun e => e = [some (.str w), some (.str A), some (.str B), some (.str C), none, none, none, none, none, none, none]) ?_ ?_
  · intro N hN _ _ _
    refine ms2_of (a := w) (fun P hP => hP) (mc_of ⟨⟨by decide +kernel, by omega⟩, ?_⟩)
    rw [h1]
    exact hN _ rfl
  rintro _ rfl
  refine seq_via (fun e => e = rnE w A B C S T P none none) ?_ ?_
  · intro N hN _ _ _
    refine ms2_of (a := A) (fun P hP => hP) (mc_of ⟨⟨by decide +kernel, by omega⟩, ?_⟩)
    rw [h2]
    exact hN _ rfl
  rintro _ rfl
  refine seq_via (fun e => e = rnE w A B C S T P (some (.lst ([nText (TL.tl S), nText (TL.tl P), nText (TL.tl C)].map optD))) none) ?_ ?_
  · intro N hN _ _ _
    refine mset_of (mlc_of2 ⟨len_le rfl, len_le rfl, ?_⟩)
    refine lc_all numF _ ?_ ?_
    · intro d hd R hR
      have hd : d ∈ [S, P, C].map D.str := hd
      obtain ⟨v, hv, rfl⟩ := List.mem_map.mp hd
      have vl : v.length ≤ w.length := by
        simp only [List.mem_cons, List.not_mem_nil, or_false] at hv
        rcases hv with rfl | rfl | rfl <;> omega
      exact number_law (by omega) _ hR
    · exact hN _ rfl
  rintro _ rfl
  have c : ∀ K : Bool → Prop, K (!(allO [nText (TL.tl S), nText (TL.tl P), nText (TL.tl C)]).isSome) → mB (m2 (oIn false) (mC .non) (mVar 7)) (rnE w A B C S T P (some (.lst ([nText (TL.tl S), nText (TL.tl P), nText (TL.tl C)].map optD))) none) K := fun K q => by
    have z := inD_opt [nText (TL.tl S), nText (TL.tl P), nText (TL.tl C)]
    refine ⟨⟨rfl, z.1⟩, ?_⟩
    show K (inD .non _)
    rw [z.2]
    exact q
  cases e : allO [nText (TL.tl S), nText (TL.tl P), nText (TL.tl C)] with
  | none =>
    rw [nd3_none e] at np
    refine seq_via (fun _ => False) ?_ (fun _ z => z.elim)
    intro N _ hrt _ _
    refine mif_t (fun K q => c K (by rw [e]; exact q)) ?_
    show N.rt (.exo 10 (.str w) _)
    rw [hrt]
    exact hx np _
  | some xs =>
    obtain ⟨a, b, d, e1, e2, e3⟩ := all3 e
    refine seq_via (fun v => v = rnE w A B C S T P (some (.lst [.int a, .int b, .int d])) none) ?_ ?_
    · intro N hN _ _ _
      refine mif_f (fun K q => c K (by rw [e]; exact q)) (hN _ ?_)
      rw [e1, e2, e3]
      rfl
    rintro _ rfl
    have ba : a.natAbs < 10 ^ 40 := nText_bd e1
    have bb : b.natAbs < 10 ^ 40 := nText_bd e2
    have bc : d.natAbs < 10 ^ 40 := nText_bd e3
    rw [e1, e2, e3] at np
    by_cases v : valid a b d
    · have np : ndO w = some (a, b, d) := by
        rw [np]
        exact if_pos v
      refine seq_via (fun e => e = rnE w A B C S T P (some (.lst [.int a, .int b, .int d])) (some (.ndl a b d))) ?_ ?_
      · intro N hN _ _ _
        refine ⟨⟨by show 9 < 11; decide, by show 10 < 11; decide, by decide⟩, Or.inl ⟨⟨v.1, v.2.1, v.2.2.1, v.2.2.2, ?_⟩, hN _ rfl⟩⟩
        have z : (10 : Nat) ^ 40 < 10 ^ 60 := by decide +kernel
        omega
      rintro _ rfl
      refine seq_via (fun e => e = rnE w A B C S T P (some (.lst [.int a, .int b, .int d])) (some (.ndl a b d))) ?_ ?_
      · intro N hN _ _ _
        refine mif_f (fun K q => show_needle_law ba bb bc _ ?_) (hN _ rfl)
        rw [(ndO_ok np).2.1]
        show K (!decide (w = w))
        rw [decide_eq_true rfl]
        exact q
      rintro _ rfl
      exact h _ _ _ np
    · have np : ndO w = none := by
        rw [np]
        exact if_neg v
      refine seq_via (fun _ => False) ?_ (fun _ z => z.elim)
      intro N _ hrt _ _
      refine ⟨⟨by show 9 < 11; decide, by show 10 < 11; decide, by decide⟩, Or.inr ⟨v, ?_⟩⟩
      show N.rt (.exo 10 (.str w) _)
      rw [hrt]
      exact hx np _
def told3 : Option (Int × Int × Int) → List D
  | some (a, b, c) => [.tup [.int a, .int b, .int c]]
  | none => []
def toldD (w : Str) : D := .lst (told3 (ndO w))
theorem told_law {w : Str} (hw : w.length ≤ 20000) (Q : D → Prop) (h : Q (toldD w)) : f_l_told [.str w] Q := by
  refine ⟨rfl, ?_⟩
  unfold m_l_told
  refine read_needle_law hw _ (fun a b c e => ?_) (fun e env => ?_)
  · unfold toldD at h
    rw [e] at h
    exact ⟨rfl, rfl, rfl, len_le rfl, len_le rfl, h⟩
  · unfold toldD at h
    rw [e] at h
    refine ⟨rfl, fun a da => ?_⟩
    refine mif_f (fun K q => mor_f (fun K2 k2 => ?_) ?_) ?_
    · refine ⟨⟨rfl, rfl⟩, ?_⟩
      show K2 (!decide (w = w))
      rw [decide_eq_true rfl]
      exact k2
    · exact ⟨⟨rfl, rfl⟩, q⟩
    · exact ⟨len_le rfl, h⟩
def du (B : Str) : Option (List Int) → Option (Int × Int × Int)
  | some [a, b, c] => if B ≠ ("" : Str) ∧ valid a b c then some (a, b, c) else none
  | _ => none
theorem du_len {B : Str} {xs : List Int} (h : xs.length ≠ 3) : du B (some xs) = none := by
  match xs, h with
  | [], _ => rfl
  | [_], _ => rfl
  | [_, _], _ => rfl
  | [a, b, c], h => exact absurd rfl h
  | _ :: _ :: _ :: _ :: _, _ => rfl
def duE (w A B C : Str) (x4 x5 : Option D) : VL.Env := [some (.str w), some (.str A), some (.str B), some (.str C), x4, x5]
theorem due_law {w : Str} (hw : w.length ≤ 20000) (Q : D → Prop) (h : Q (toldD w)) : f_l_due [.str w] Q := by
  unfold toldD at h
  rw [← dueO_eq] at h
  refine ⟨rfl, ?_⟩
  unfold m_l_due
  obtain ⟨A, B, C, h1⟩ : ∃ A B C, Txt.partition w ("+" : Str) = (A, B, C) := ⟨_, _, _, rfl⟩
  have l1 := part_len tl_pl sep_pl w
  rw [h1] at l1
  dsimp only at l1
  obtain ⟨s1, s2, s3⟩ := split_facts (x := A) sep_sl
  obtain ⟨ws, hws⟩ : ∃ ws, ws = Txt.split A ("/" : Str) ++ [C] := ⟨_, rfl⟩
  have du0 : dueO w = du B (intsW ws) := by
    unfold dueO
    rw [h1, hws]
    rfl
  rw [du0] at h
  have wl : ws.length ≤ 50000 := by
    rw [hws, List.length_append]
    simp only [List.length_cons, List.length_nil]
    omega
  have wv : ∀ v ∈ ws, v.length ≤ 100000 := fun v hv => by
    rw [hws] at hv
    rcases List.mem_append.mp hv with hv | hv
    · have z := split_le sep_sl hv
      omega
    · rw [List.mem_singleton.mp hv]
      omega
  refine seq_via (fun e => e = duE w A B C none none) ?_ ?_
  · intro N hN _ _ _
    refine ms2_of (a := w) (fun P hP => hP) (mc_of ⟨⟨by decide +kernel, by omega⟩, ?_⟩)
    rw [h1]
    exact hN _ rfl
  rintro _ rfl
  refine seq_via (fun e => e = duE w A B C (some (.lst (ws.map D.str))) none) ?_ ?_
  · intro N hN _ _ _
    refine mset_of (m2_of (ms2_of (a := A) (fun P hP => hP) (mc_of (oSplit_of sep_sl (by omega) ?_))))
    refine ⟨len_le rfl, ?_, ?_⟩
    · rw [List.length_map]
      simp only [List.length_cons, List.length_nil]
      omega
    · have e : (Txt.split A ("/" : Str)).map D.str ++ [D.str C] = ws.map D.str := by
        rw [hws, List.map_append]
        rfl
      rw [e]
      exact hN _ rfl
  rintro _ rfl
  refine seq_via (fun e => e = duE w A B C (some (.lst (ws.map D.str))) (some (lstE (intsW ws)))) ?_ ?_
  · intro N hN _ _ _
    refine mset_of (mcall_ofT (mconsT (var_of rfl (mnil_of ?_))))
    exact integers_law wl wv _ (hN _ rfl)
  rintro _ rfl
  cases g : intsW ws with
  | none =>
    rw [g] at h
    exact due_out (fun K q => mor_t (fun K2 k2 => k2) q) h
  | some xs =>
    rw [g] at h
    have cL : ∀ K : Bool → Prop, K (!decide (xs.length = 3)) → mB (m2 oNe (mCall oLen (mCons (mVar 5) mNil)) (mC (.int 3))) (duE w A B C (some (.lst (ws.map D.str))) (some (lstE (some xs)))) K := fun K q => by
      refine ⟨rfl, rfl, ?_⟩
      show K (!eqD (.int ((iD xs).length : Int)) (.int 3))
      rw [eqI, iD_len]
      have e : decide (((xs.length : Nat) : Int) = 3) = decide (xs.length = 3) := decide_eq_decide.mpr (by omega)
      rw [e]
      exact q
    by_cases c3 : xs.length = 3
    · obtain ⟨a, b, c, rfl⟩ : ∃ a b c, xs = [a, b, c] := by
        match xs, c3 with
        | [a, b, c], _ => exact ⟨a, b, c, rfl⟩
      have cE : ∀ K : Bool → Prop, K (decide (B = ("" : Str))) → mB (m2 (oEqS false) (mVar 2) (mC (.str ""))) (duE w A B C (some (.lst (ws.map D.str))) (some (lstE (some [a, b, c])))) K := fun K q => q
      by_cases c0 : B = ("" : Str)
      · have du1 : du B (some [a, b, c]) = none := if_neg fun z => z.1 c0
        rw [du1] at h
        exact due_out (fun K q => mor_f (fun K2 k2 => k2) (mor_f (fun K2 k2 => cL _ (by rw [decide_eq_true c3]; exact k2)) (cE _ (by rw [decide_eq_true c0]; exact q)))) h
      · refine seq_via (fun e => e = duE w A B C (some (.lst (ws.map D.str))) (some (.lst [.int a, .int b, .int c]))) ?_ ?_
        · intro N hN _ _ _
          exact mif_f (fun K q => mor_f (fun K2 k2 => k2) (mor_f (fun K2 k2 => cL _ (by rw [decide_eq_true c3]; exact k2)) (cE _ (by rw [decide_eq_false c0]; exact q)))) (hN _ rfl)
        rintro _ rfl
        have q1 : ∀ K : Bool → Prop, K (!(decide (1 ≤ a) && decide (a ≤ b))) → mNot (mB (mChain (oCmp (fun i j => decide (i ≤ j))) (oCmp (fun i j => decide (i ≤ j))) (mC (.int 1)) (m2 oIx (mVar 5) (mC (.int 0))) (m2 oIx (mVar 5) (mC (.int 1))))) (duE w A B C (some (.lst (ws.map D.str))) (some (.lst [.int a, .int b, .int c]))) K := fun K q =>
          mb_of (mchain_gen (a := 1) (b := a) (c := b) (fun P hP => hP) (fun P hP => hP) (fun P hP => hP) q)
        have q2 : ∀ K : Bool → Prop, K (!(decide (0 ≤ c) && decide (c < b))) → mNot (mB (mChain (oCmp (fun i j => decide (i ≤ j))) (oCmp (fun i j => decide (i < j))) (mC (.int 0)) (m2 oIx (mVar 5) (mC (.int 2))) (m2 oIx (mVar 5) (mC (.int 1))))) (duE w A B C (some (.lst (ws.map D.str))) (some (.lst [.int a, .int b, .int c]))) K := fun K q =>
          mb_of (mchain_gen (a := 0) (b := c) (c := b) (fun P hP => hP) (fun P hP => hP) (fun P hP => hP) q)
        by_cases d1 : 1 ≤ a ∧ a ≤ b
        · refine seq_via (fun e => e = duE w A B C (some (.lst (ws.map D.str))) (some (.lst [.int a, .int b, .int c]))) ?_ ?_
          · intro N hN _ _ _
            exact mif_f (fun K q => q1 _ (by rw [decide_eq_true d1.1, decide_eq_true d1.2]; exact q)) (hN _ rfl)
          rintro _ rfl
          by_cases d2 : 0 ≤ c ∧ c < b
          · refine seq_via (fun e => e = duE w A B C (some (.lst (ws.map D.str))) (some (.lst [.int a, .int b, .int c]))) ?_ ?_
            · intro N hN _ _ _
              exact mif_f (fun K q => q2 _ (by rw [decide_eq_true d2.1, decide_eq_true d2.2]; exact q)) (hN _ rfl)
            rintro _ rfl
            have du1 : du B (some [a, b, c]) = some (a, b, c) := if_pos ⟨c0, d1.1, d1.2, d2.1, d2.2⟩
            rw [du1] at h
            exact ⟨len_le rfl, h⟩
          · have du1 : du B (some [a, b, c]) = none := if_neg fun z => d2 ⟨z.2.2.2.1, z.2.2.2.2⟩
            rw [du1] at h
            refine due_out (fun K q => q2 _ ?_) h
            have e : (decide (0 ≤ c) && decide (c < b)) = false := by rw [← Bool.decide_and, decide_eq_false d2]
            rw [e]
            exact q
        · have du1 : du B (some [a, b, c]) = none := if_neg fun z => d1 ⟨z.2.1, z.2.2.1⟩
          rw [du1] at h
          refine due_out (fun K q => q1 _ ?_) h
          have e : (decide (1 ≤ a) && decide (a ≤ b)) = false := by rw [← Bool.decide_and, decide_eq_false d1]
          rw [e]
          exact q
    · rw [du_len c3] at h
      exact due_out (fun K q => mor_f (fun K2 k2 => k2) (mor_t (fun K2 k2 => cL _ (by rw [decide_eq_false c3]; exact k2)) q)) h
theorem par_at (s : Nat) : ∀ (l acc r : List Nat), s ∉ l → TL.par [s] acc (l ++ s :: r) = some (acc ++ l, r)
  | [], acc, r, _ => by
    have h : TL.pre [s] (s :: r) = true := pre_one.mpr rfl
    show TL.par [s] acc (s :: r) = _
    rw [TL.par_hit h, List.append_nil]
    rfl
  | c :: l, acc, r, h => by
    have n : TL.pre [s] (c :: (l ++ s :: r)) = false := Bool.eq_false_iff.mpr fun e => h (pre_one.mp e ▸ List.mem_cons_self)
    show TL.par [s] acc (c :: (l ++ s :: r)) = _
    rw [TL.par_miss n, par_at s l (acc ++ [c]) r (fun z => h (List.mem_cons_of_mem _ z)), List.append_assoc]
    rfl
theorem part_join {y : Str} {s : Nat} (hy : TL.tl y = [s]) (sp : Sep y) {x z : Str} (hx : s ∉ TL.tl x) : Txt.partition ((x ++ y) ++ z) y = (x, y, z) := by
  have e := TL.partition_par ((x ++ y) ++ z) y sp.ne
  have t : TL.tl ((x ++ y) ++ z) = TL.tl x ++ s :: TL.tl z := by
    rw [TL.tl_append, TL.tl_append, hy, List.append_assoc]
    rfl
  rw [hy, t, par_at s _ _ _ hx, List.nil_append] at e
  exact e
theorem ndO_nS {a b c : Int} (v : valid a b c) (ha : a.natAbs < 10 ^ 40) (hb : b.natAbs < 10 ^ 40) (hc : c.natAbs < 10 ^ 40) : ndO (nS a b c) = some (a, b, c) := by
  have h1 : Txt.partition (nS a b c) ("+" : Str) = ((numS a ++ ("/" : Str)) ++ numS b, ("+" : Str), numS c) := part_join tl_pl sep_pl fun z => by
    rw [TL.tl_append, TL.tl_append, tl_sl] at z
    rcases List.mem_append.mp z with z | z
    · rcases List.mem_append.mp z with z | z
      · have y := numS_sign z
        omega
      · cases List.mem_singleton.mp z
    · have y := numS_sign z
      omega
  have h2 : Txt.partition ((numS a ++ ("/" : Str)) ++ numS b) ("/" : Str) = (numS a, ("/" : Str), numS b) := part_join tl_sl sep_sl fun z => by
    have y := numS_sign z
    omega
  rw [ndO_p h1 h2, nText_num ha, nText_num hb, nText_num hc]
  exact if_pos v
theorem nS_len {a b c : Int} {k : Nat} (hk : 0 < k) (ha : a.natAbs < 10 ^ k) (hb : b.natAbs < 10 ^ k) (hc : c.natAbs < 10 ^ k) : (nS a b c).length ≤ 3 * k + 5 := by
  have la := (numS_len hk ha).2
  have lb := (numS_len hk hb).2
  have lc := (numS_len hk hc).2
  have l1 := len_pl
  have l2 := len_sl
  unfold nS
  rw [app_len, app_len, app_len, app_len]
  omega
theorem told_ok (w : Str) : RepOk (toldD w) ∧ ∀ n, pl n (.str (py (toldD w)).shown) = true := by
  unfold toldD
  cases e : ndO w with
  | none => exact ⟨rep_ok rfl trivial (len_le rfl), rep_pl (x := .lst []) rfl⟩
  | some t =>
    obtain ⟨a, b, c⟩ := t
    obtain ⟨_, _, ha, hb, hc⟩ := ndO_ok e
    exact ⟨rep_ok rfl ⟨⟨ha.mono (by decide), hb.mono (by decide), hc.mono (by decide), trivial⟩, trivial⟩ (len_le rfl), rep_pl (x := .lst [.tup [.int a, .int b, .int c]]) rfl⟩
/-- the law's wording of a needle -/
theorem wording_of {i : Nat} {s p m : Int} {env : VL.Env} {Q : D → Prop} (he : env[i]? = some (some (.tup [.int s, .int p, .int m]))) (ha : s.natAbs < 10 ^ 40) (hb : p.natAbs < 10 ^ 40) (hc : m.natAbs < 10 ^ 40) (h : Q (.str (nS s p m))) : m2 oAdd (m2 oAdd (m2 oAdd (m2 oAdd (mCall oStr (mCons (m2 oIx (mVar i) (mC (.int 0))) mNil)) (mC (.str "/"))) (mCall oStr (mCons (m2 oIx (mVar i) (mC (.int 1))) mNil))) (mC (.str "+"))) (mCall oStr (mCons (m2 oIx (mVar i) (mC (.int 2))) mNil)) env Q := by
  have la := (numS_len (k := 40) (by decide) ha).2
  have lb := (numS_len (k := 40) (by decide) hb).2
  have lc := (numS_len (k := 40) (by decide) hc).2
  have l1 := len_pl
  have l2 := len_sl
  refine m2_of (m2_of (m2_of (m2_of (mcall_ofT (mconsT (m2_of (var_of he ⟨up200 ha, ?_⟩)))))))
  refine mc_of (oAdd_str (a := numS s) (by omega) ?_)
  refine mcall_ofT (mconsT (m2_of (var_of he ⟨up200 hb, ?_⟩)))
  refine oAdd_str (b := numS p) (by rw [app_len]; omega) ?_
  refine mc_of (oAdd_str (by rw [app_len, app_len]; omega) ?_)
  refine mcall_ofT (mconsT (m2_of (var_of he ⟨up200 hc, ?_⟩)))
  exact oAdd_str (b := numS m) (by rw [app_len, app_len, app_len]; omega) h
def er (s p m : Int) (x3 x4 x5 : Option D) : VL.Env := [some .pool, some (.tup [.int s, .int p, .int m]), some (.ndl s p m), x3, x4, x5]
theorem right_law (Q : D → Prop) (h : Q (.bl true)) : f_l_right [.pool] Q := by
  refine ⟨rfl, ?_⟩
  unfold m_l_right
  refine seq_via (fun e => ∃ s p m : Int, (1 ≤ s ∧ s ≤ p ∧ p ≤ 60 ∧ 0 ≤ m ∧ m < p) ∧ e = [some .pool, some (.tup [.int s, .int p, .int m]), none, none, none, none]) ?_ ?_
  · intro N hN _ _ _
    exact kind_law _ (fun s p m h1 h2 h3 h4 h5 => hN _ ⟨s, p, m, ⟨h1, h2, h3, h4, h5⟩, rfl⟩)
  rintro _ ⟨s, p, m, ⟨h1, h2, h3, h4, h5⟩, rfl⟩
  have z40 : (60 : Nat) < 10 ^ 40 := by decide +kernel
  have ba : s.natAbs < 10 ^ 40 := by omega
  have bb : p.natAbs < 10 ^ 40 := by omega
  have bc : m.natAbs < 10 ^ 40 := by omega
  refine seq_via (fun e => e = er s p m none none none) ?_ ?_
  · intro N hN _ _ _
    exact made_law h1 h2 h3 h4 h5 _ (hN _ rfl)
  rintro _ rfl
  refine seq_via (fun e => e = er s p m (some (.str (nS s p m))) none none) ?_ ?_
  · intro N hN _ _ _
    exact mset_of (wording_of rfl ba bb bc (hN _ rfl))
  rintro _ rfl
  have lo := ndO_nS (a := s) (b := p) (c := m) ⟨h1, h2, h4, h5⟩ ba bb bc
  have wl := nS_len (a := s) (b := p) (c := m) (k := 40) (by decide) ba bb bc
  have SH0 := fun R : D → Prop => show_needle_law (a := s) (b := p) (c := m) ba bb bc R
  obtain ⟨w, hw⟩ : ∃ w, w = nS s p m := ⟨_, rfl⟩
  rw [← hw] at lo wl ⊢
  have SH : ∀ R : D → Prop, R (.str w) → f_show_needle [.ndl s p m] R := fun R hR => SH0 R (by rw [← hw]; exact hR)
  have dw : decide (w = w) = true := decide_eq_true rfl
  refine seq_via (fun e => e = er s p m (some (.str w)) none none) ?_ ?_
  · intro N hN _ _ _
    refine mif_f (fun K q => mor_f (fun K2 k2 => ?_) ?_) (hN _ rfl)
    · refine SH _ ?_
      show K2 (!decide (w = w))
      rw [dw]
      exact k2
    · refine ⟨⟨rfl, rfl⟩, SH _ ?_⟩
      show K (!decide (w = w))
      rw [dw]
      exact q
  rintro _ rfl
  have RD : ∀ R : D → Prop, R (.ndl s p m) → fN f_read_needle [.str w] R := fun R hR => by
    refine read_needle_law (by omega) _ (fun a b c e => ?_) (fun e => by rw [lo] at e; cases e)
    rw [lo] at e
    cases e
    exact hR
  have td : toldD w = .lst [.tup [.int s, .int p, .int m]] := by
    unfold toldD
    rw [lo]
    rfl
  refine seq_via (fun e => e = er s p m (some (.str w)) none none) ?_ ?_
  · intro N hN _ _ _
    refine mif_f (fun K q => mor_f (fun K2 k2 => ?_) ?_) (hN _ rfl)
    · refine ⟨⟨rfl, rfl⟩, RD _ (var_of rfl (eqn_law _ ?_))⟩
      rw [sameN_refl]
      exact k2
    · refine told_law (w := w) (by omega) _ ?_
      rw [td]
      refine ⟨len_le rfl, rfl, rfl, ?_⟩
      rw [eqD_refl]
      exact q
  rintro _ rfl
  refine seq_via (fun e => ∃ x4 x5, e = er s p m (some (.str w)) x4 x5) ?_ ?_
  · intro N hN _ _ _
    refine ⟨⟨by decide, by decide⟩, (fun _ => by show _ ≤ 2 ^ 20; rw [rng_len]; decide), ?_⟩
    refine turns_mem (fun e => ∃ x4 x5, e = er s p m (some (.str w)) x4 x5) ⟨none, none, rfl⟩ ?_ (fun e he => hN _ he)
    rintro d hd _ ⟨y4, y5, rfl⟩ N2 hN2 _ _ _
    dsimp only [bName]
    refine seq_via (fun e => ∃ b : Str, b.length ≤ 3500 ∧ e = er s p m (some (.str w)) (some d) (some (.str b))) ?_ ?_
    · intro N3 hN3 _ _ _
      exact changed_law (w := w) (by omega) _ fun b hb => hN3 _ ⟨b, by omega, rfl⟩
    rintro _ ⟨b, hb, rfl⟩
    have tok := told_ok b
    refine mif_f (fun K q => ?_) (hN2 _ ⟨_, _, rfl⟩)
    refine told_law (w := b) (by omega) _ ⟨tok.1, ?_⟩
    refine due_law (w := b) (by omega) _ ⟨tok.1, tok.2 _, tok.2 _, ?_⟩
    rw [eqD_refl]
    exact q
  rintro _ ⟨x4, x5, rfl⟩
  exact h
theorem form_big {s p m : Int} (h1 : 1 ≤ s) (h2 : 0 < p) (h3 : p ≤ 1000000000000000000) (Q : D → Prop) (h : Q (.tup [.int (s / fg s p), .int (p / fg s p), .int (m / fg s p)])) : f_l_form [.tup [.int s, .int p, .int m]] Q := by
  refine ⟨rfl, ?_⟩
  refine ⟨fun n env => ∃ x y : Int, env = [some (.tup [.int s, .int p, .int m]), some (.int x), some (.int y)] ∧ 0 ≤ x ∧ 0 ≤ y ∧ fg x y = fg s p ∧ n = y.toNat, ⟨s.toNat, p, s, rfl, by omega, by omega, fg_comm p s, rfl⟩, ?_⟩
  rintro n env ⟨x, y, rfl, hx, hy, hg, rfl⟩
  refine ifD (fun hy2 => ?_) (fun hy2 => ?_)
  · refine ⟨hy2, _, ?_, y, x % y, rfl, hy, Int.emod_nonneg x (by omega), ?_, rfl⟩
    · have z := Int.emod_lt_of_pos x hy2
      have z2 := Int.emod_nonneg x (show y ≠ 0 by omega)
      omega
    · rw [fg_step x y hx hy2, hg]
  · have e : y = 0 := by omega
    subst e
    rw [fg_zero x hx] at hg
    subst hg
    have g := fg_pos (s := s) h2
    have g2 := Int.le_of_dvd h2 (fg_dvd2 s p)
    have d : DOk (fg s p) := dOk g (by have z : (1000000000000000000 : Nat) < 10 ^ 1000 := by decide +kernel
                                       omega)
    exact ⟨d, d, d, len_le rfl, h⟩
theorem plain_big {s p m : Int} (h1 : 0 < s) (h2 : s ≤ p) (h3 : p ≤ 1000000000000000000) (h4 : 0 ≤ m) (h5 : m < p) (Q : D → Prop) (h : Q (.ndl (s / fg s p) (p / fg s p) (m / fg s p))) : f_Needle_plain [.ndl s p m] Q := by
  have a := pl_share (p := p) h1 (by omega)
  have b := pl_parts (s := s) (p := p) (by omega)
  have c := pl_more (s := s) (p := p) (by omega) h4 h5
  have d := pl_le (p := p) h1 h2
  exact ⟨rfl, ⟨by omega, d, c.1, c.2, by omega⟩, h⟩
/-- a needle with every part k times as great -/
theorem fg_scale {s p k : Int} (hk : 0 < k) : fg (s * k) (p * k) = fg s p * k := by
  unfold fg
  rw [Int.gcd_mul_right]
  rw [Int.natCast_mul, Int.natAbs_of_nonneg (by omega)]
theorem scale_div {s p k x : Int} (hk : 0 < k) : x * k / fg (s * k) (p * k) = x / fg s p := by
  rw [fg_scale hk]
  exact Int.mul_ediv_mul_of_pos_left _ _ hk
theorem scale_more {s p k m : Int} (hk : 0 < k) : (m * k + k - 1) / fg (s * k) (p * k) = m / fg s p := by
  rw [fg_scale hk, Int.mul_comm (fg s p) k, ← Int.ediv_ediv_of_nonneg (by omega)]
  have e : (m * k + k - 1) / k = m := by
    have e1 : m * k + k - 1 = (k - 1) + m * k := by omega
    rw [e1, Int.add_mul_ediv_right _ _ (by omega), Int.ediv_eq_zero_of_lt (by omega) (by omega), Int.zero_add]
  rw [e]
def eg (k p s m : Int) (x5 x6 x7 x8 x9 : Option D) : VL.Env := [some .pool, some (.int p), some (.int k), some (.int s), some (.int m), x5, x6, x7, x8, x9]
theorem great_right (Q : D → Prop) (h : Q (.bl true)) : f_l_great_right [.pool] Q := by
  have e9 : (9 : Int).toNat = 9 := rfl
  have b9 : (10 : Int) ^ 9 = 1000000000 := by decide
  refine ⟨rfl, ?_⟩
  unfold m_l_great_right
  refine seq_via (fun e => ∃ k p : Int, (1 ≤ k ∧ k ≤ 1000000000 ∧ 1 ≤ p ∧ p ≤ 1000000000) ∧ e = [some .pool, some (.int p), some (.int k), none, none, none, none, none, none, none]) ?_ ?_
  · intro N hN _ _ _
    refine ⟨⟨by decide, by decide⟩, ?_⟩
    rw [e9, b9]
    refine ⟨⟨by decide, by decide⟩, fun i i0 i1 => ?_⟩
    refine ⟨⟨by decide, by decide⟩, ?_⟩
    rw [e9, b9]
    refine ⟨⟨by decide, by decide⟩, fun j j0 j1 => ?_⟩
    exact hN _ ⟨1 + j, 1 + i, ⟨by omega, by omega, by omega, by omega⟩, rfl⟩
  rintro _ ⟨k, p, ⟨k1, k2, p1, p2⟩, rfl⟩
  have z200 : (1000000000000000000 : Nat) < 10 ^ 200 := by decide +kernel
  have z40 : (1000000000000000000 : Nat) < 10 ^ 40 := by decide +kernel
  have z1000 : (1000000000000000000 : Nat) < 10 ^ 1000 := by decide +kernel
  refine seq_via (fun e => ∃ s m : Int, (1 ≤ s ∧ s ≤ p ∧ 0 ≤ m ∧ m < p) ∧ e = eg k p s m none none none none none) ?_ ?_
  · intro N hN _ _ _
    refine ⟨⟨by omega, by omega⟩, fun i i0 i1 => ⟨⟨by omega, by omega⟩, fun j j0 j1 => ?_⟩⟩
    exact hN _ ⟨1 + i, j, ⟨by omega, by omega, by omega, by omega⟩, rfl⟩
  rintro _ ⟨s, m, ⟨s1, s2, m0, m1⟩, rfl⟩
  refine seq_via (fun e => e = eg k p s m (some (.tup [.int (s / fg s p), .int (p / fg s p), .int (m / fg s p)])) none none none none) ?_ ?_
  · intro N hN _ _ _
    exact mset_of (mcall_ofT ⟨len_le rfl, form_big s1 (by omega) (by omega) _ (hN _ rfl)⟩)
  rintro _ rfl
  obtain ⟨S, hS⟩ : ∃ S, S = s / fg s p := ⟨_, rfl⟩
  obtain ⟨P, hP⟩ : ∃ P, P = p / fg s p := ⟨_, rfl⟩
  obtain ⟨M, hM⟩ : ∃ M, M = m / fg s p := ⟨_, rfl⟩
  obtain ⟨A, hA⟩ : ∃ A, A = s * k := ⟨_, rfl⟩
  obtain ⟨B, hB⟩ : ∃ B, B = p * k := ⟨_, rfl⟩
  obtain ⟨C, hC⟩ : ∃ C, C = m * k + k - 1 := ⟨_, rfl⟩
  have fA : A / fg A B = S := by rw [hA, hB, hS]; exact scale_div (by omega)
  have fB : B / fg A B = P := by rw [hA, hB, hP]; exact scale_div (by omega)
  have fC : C / fg A B = M := by rw [hA, hB, hC, hM]; exact scale_more (by omega)
  have a1 := pl_share (s := s) (p := p) (by omega) (by omega)
  have a2 := pl_parts (s := s) (p := p) (by omega)
  have a3 := pl_more (s := s) (p := p) (m := m) (by omega) m0 m1
  have a4 := pl_le (s := s) (p := p) (by omega) s2
  have g1 := fg_plain (s := s) (p := p) (by omega)
  rw [← hS, ← hP] at a4 g1
  rw [← hS] at a1
  rw [← hP] at a2
  rw [← hM, ← hP] at a3
  rw [← hS, ← hP, ← hM]
  have gA1 : 1 ≤ A := by rw [hA]; exact Int.mul_pos (by omega) (by omega)
  have gA2 : A ≤ B := by rw [hA, hB]; exact Int.mul_le_mul_of_nonneg_right s2 (by omega)
  have gB2 : B ≤ 1000000000000000000 := by
    have z := Int.mul_le_mul p2 k2 (by omega) (by decide : (0 : Int) ≤ 1000000000)
    rw [hB]
    exact z
  have gC0 : 0 ≤ C := by
    have z := Int.mul_nonneg m0 (show 0 ≤ k by omega)
    omega
  have gC1 : C < B := by
    have z : (m + 1) * k ≤ p * k := Int.mul_le_mul_of_nonneg_right (by omega) (by omega)
    rw [Int.add_mul] at z
    omega
  have mk1 : m * k = C + 1 - k := by omega
  have ba : A.natAbs < 10 ^ 40 := by omega
  have bb : B.natAbs < 10 ^ 40 := by omega
  have bc : C.natAbs < 10 ^ 40 := by omega
  have lA := (numS_len (k := 40) (by decide) ba).2
  have lB := (numS_len (k := 40) (by decide) bb).2
  have lC := (numS_len (k := 40) (by decide) bc).2
  have l1 := len_pl
  have l2 := len_sl
  refine seq_via (fun e => e = eg k p s m (some (.tup [.int S, .int P, .int M])) (some (.str ((numS A ++ ("/" : Str)) ++ numS B))) none none none) ?_ ?_
  · intro N hN _ _ _
    refine mset_of (m2_of (m2_of ⟨mOk (by omega) (by omega), ?_⟩))
    rw [← hA]
    refine ⟨up200 ba, ?_⟩
    refine mc_of (oAdd_str (a := numS A) (by omega) ?_)
    refine ⟨mOk (by omega) (by omega), ?_⟩
    rw [← hB]
    refine ⟨up200 bb, ?_⟩
    exact oAdd_str (b := numS B) (by rw [app_len]; omega) (hN _ rfl)
  rintro _ rfl
  refine seq_via (fun e => e = eg k p s m (some (.tup [.int S, .int P, .int M])) (some (.str (nS A B C))) none none none) ?_ ?_
  · intro N hN _ _ _
    refine mset_of (m2_of (m2_of (var_of rfl (mc_of (oAdd_str (by rw [app_len, app_len]; omega) ?_)))))
    refine ⟨mOk (by omega) (by omega), (show (m * k + k - 1).natAbs < 10 ^ 200 from by rw [← hC]; exact up200 bc), ?_⟩
    refine oAdd_str (b := numS (m * k + k - 1)) (by rw [← hC, app_len, app_len, app_len]; omega) ?_
    rw [← hC]
    exact hN _ rfl
  rintro _ rfl
  have lo := ndO_nS (a := A) (b := B) (c := C) ⟨gA1, gA2, gC0, gC1⟩ ba bb bc
  have wl := nS_len (a := A) (b := B) (c := C) (k := 40) (by decide) ba bb bc
  have SH0 := fun R : D → Prop => show_needle_law (a := A) (b := B) (c := C) ba bb bc R
  obtain ⟨w, hw⟩ : ∃ w, w = nS A B C := ⟨_, rfl⟩
  rw [← hw] at lo wl ⊢
  have dw : decide (w = w) = true := decide_eq_true rfl
  have RD : ∀ R : D → Prop, R (.ndl A B C) → fN f_read_needle [.str w] R := fun R hR => by
    refine read_needle_law (by omega) _ (fun a b c e => ?_) (fun e => by rw [lo] at e; cases e)
    rw [lo] at e
    cases e
    exact hR
  have bS : S.natAbs < 10 ^ 40 := by omega
  have bP : P.natAbs < 10 ^ 40 := by omega
  have bM : M.natAbs < 10 ^ 40 := by omega
  have lo2 := ndO_nS (a := S) (b := P) (c := M) ⟨by omega, a4, a3.1, a3.2⟩ bS bP bM
  have wl2 := nS_len (a := S) (b := P) (c := M) (k := 40) (by decide) bS bP bM
  have RD2 : ∀ R : D → Prop, R (.ndl S P M) → fN f_read_needle [.str (nS S P M)] R := fun R hR => by
    refine read_needle_law (by omega) _ (fun a b c e => ?_) (fun e => by rw [lo2] at e; cases e)
    rw [lo2] at e
    cases e
    exact hR
  refine seq_via (fun e => e = eg k p s m (some (.tup [.int S, .int P, .int M])) (some (.str w)) (some (.ndl A B C)) none none) ?_ ?_
  · intro N hN _ _ _
    exact mset_of (RD _ (hN _ rfl))
  rintro _ rfl
  refine seq_via (fun e => e = eg k p s m (some (.tup [.int S, .int P, .int M])) (some (.str w)) (some (.ndl A B C)) (some (.ndl S P M)) none) ?_ ?_
  · intro N hN _ _ _
    refine mset_of (plain_big (s := A) (p := B) (m := C) (by omega) gA2 gB2 gC0 gC1 _ ?_)
    rw [fA, fB, fC]
    exact hN _ rfl
  rintro _ rfl
  refine seq_via (fun e => e = eg k p s m (some (.tup [.int S, .int P, .int M])) (some (.str w)) (some (.ndl A B C)) (some (.ndl S P M)) none) ?_ ?_
  · intro N hN _ _ _
    refine mif_f (fun K q => SH0 _ ?_) (hN _ rfl)
    rw [← hw]
    show K (!decide (w = w))
    rw [dw]
    exact q
  rintro _ rfl
  refine seq_via (fun e => e = eg k p s m (some (.tup [.int S, .int P, .int M])) (some (.str w)) (some (.ndl A B C)) (some (.ndl S P M)) none) ?_ ?_
  · intro N hN _ _ _
    refine mif_f (fun K q => ⟨rfl, rfl, rfl, len_le rfl, rfl, rfl, ?_⟩) (hN _ rfl)
    rw [eqD_refl]
    exact q
  rintro _ rfl
  refine seq_via (fun e => e = eg k p s m (some (.tup [.int S, .int P, .int M])) (some (.str w)) (some (.ndl A B C)) (some (.ndl S P M)) (some (.ndl S P M))) ?_ ?_
  · intro N hN _ _ _
    exact mset_of (mcall_ofT (mconsT (wording_of rfl bS bP bM (mnil_of (RD2 _ (hN _ rfl))))))
  rintro _ rfl
  have sm1 : sameN (.ndl A B C) (.ndl S P M) = true := by
    simp [sameN, fA, fB, fC, g1]
  refine mret_of (mandv_t (fun K q => var_of rfl (var_of rfl (eqn_law _ ?_))) (var_of rfl (var_of rfl (eqn_law _ ?_))))
  · rw [sm1]
    exact q
  · rw [sameN_refl]
    exact h

def m_law : MS := (mSeq (mFor true (mIt oR1 (mCons (mC (.int 3)) mNil)) (bName 3) (mIfS (mNot (mB (mCall f_l_right (mCons (mVar 2) mNil)))) (mRet (mC (.bl false))) mNext)) (mIfS (mNot (mB (mCall f_l_great_right (mCons (mVar 2) mNil)))) (mRet (mC (.bl false))) mNext))
theorem law_in (a : Addr) (i : Int) (o : List (Option D)) (ho : o.length = 1) : m_law ⟨fun e => e.length = 4 ∧ e[0]? = some (some (.opq a)), fun _ => False, fun _ => False, fun _ => False⟩ ([some (.opq a), some (.int i), some .pool] ++ o) := by
  match o, ho with
  | [x3], _ =>
  refine seq_via (fun e => ∃ x, e = [some (.opq a), some (.int i), some .pool, x]) ?_ ?_
  · intro N hN _ _ _
    refine ⟨⟨by decide, by decide⟩, (fun _ => by show _ ≤ 2 ^ 20; rw [rng_len]; decide), ?_⟩
    refine turns_mem (fun e => ∃ x, e = [some (.opq a), some (.int i), some .pool, x]) ⟨x3, rfl⟩ ?_ (fun e he => hN _ he)
    rintro d hd _ ⟨y, rfl⟩ N2 hN2 _ _ _
    dsimp only [bName]
    exact mif_f (fun K q => right_law _ q) (hN2 _ ⟨_, rfl⟩)
  rintro _ ⟨x, rfl⟩
  exact mif_f (fun K q => great_right _ q) ⟨rfl, rfl⟩
theorem ok_law (T : Tx K mg) : FnG P w K mg base 10 T.f_law T.d_law ["_law_script"] (spLaw K) := by
  refine fn_g0 (k := 9) T.F_law sc_law (fun vs H Q E h => ?_) (fun cdv A outer s H vs Q E hg hr h => ?_)
  · obtain ⟨a, ns, rfl, _⟩ := h
    rfl
  · obtain ⟨a, ns, rfl, hS, hl, k⟩ := h
    refine ⟨_, pss_cons (ps_for PassesOwn.never rfl (pi_range1 rfl T.b_range (pa_cons (pe_callB (call_max2 rfl) (by rfl) T.b_max (by decide +kernel) (pa_cons pe_int (pa_cons (pe_callB (call_min2 rfl) (by rfl) T.b_min (by decide +kernel) (pa_cons pe_int (pa_cons (pe_callB call_len_seq (by rfl) T.b_len (by decide +kernel) (pa_cons (pv 0) pa_nil)) pa_nil))) pa_nil))) pa_nil)) (pg_name (i := 1) sc_law.nd rfl (Or.inl rfl))
      (pss_cons (ps_set (i := 2) sc_law.nd rfl (Or.inl rfl) (pe_callC (can_of (ok_l_pool T) (hr.mono (by decide))) (by rfl) T.g_l_pool T.F_l_pool.kp (b_l_pool T) (pa_cons (pv 0) (pa_cons (pv 1) pa_nil)) (by decide +kernel) rfl rfl))
        (vb_any (C := T.C) (rk := false) (ol := []) (m := m_law) (own := []) (own' := []) (c := 9895614087172) (fun pa => vb_fin (vb_cons (vs_for (lim := true) (own := []) PassesOwn.never rfl (vi_r1 (va_cons ve_int va_nil) (fun h => pi_range1 rfl T.b_range h)) (vg_name 3 (pg_name (i := 3) sc_law.nd rfl (by first | exact Or.inl rfl | exact Or.inr rfl))) (VB.rel (own := []) (own1 := []) (own' := []) (vb_one (vs_if (vt_not (vt_val (ve_call (fun h => pe_callC (can_ofG (ok_l_right T) hg (hr.mono (by decide))) (by rfl) T.g_l_right T.F_l_right.kp (b_l_right T) h (by decide +kernel) rfl rfl) (va_cons (ve_var 2 (pv 2)) va_nil)) (fun h => pt_val h))) (vb_one (vs_ret ve_bl (by decide))) vb_nil)) (by decide) (by decide)) (fun _ => by first | rfl | with_unfolding_all rfl) (by decide) (.inl rfl)) (vb_one (vs_if (vt_not (vt_val (ve_call (fun h => pe_callC (can_of (ok_l_great_right T) (hr.mono (by decide))) (by rfl) T.g_l_great_right T.F_l_great_right.kp (b_l_great_right T) h (by decide +kernel) rfl rfl) (va_cons (ve_var 2 (pv 2)) va_nil)) (fun h => pt_val h))) (vb_one (vs_ret ve_bl (by decide))) vb_nil))) (by decide +kernel))))) (pss_one (ps_ret pe_bl)), ?_⟩
    obtain ⟨n, hn63, hR⟩ : ∃ n : Nat, n ≤ 63 ∧ (if (if ((ns.map V.int).length : Int) < 8 then ((ns.map V.int).length : Int) else 8) > 1 then (if ((ns.map V.int).length : Int) < 8 then ((ns.map V.int).length : Int) else 8) else 1) = (n : Int) := by
      rw [List.length_map]
      refine ⟨(if (if (ns.length : Int) < 8 then (ns.length : Int) else 8) > 1 then (if (ns.length : Int) < 8 then (ns.length : Int) else 8) else 1).toNat, by (repeat' split) <;> omega, ?_⟩
      (repeat' split) <;> omega
    refine ⟨_, rfl, a, _, rfl, .inl hS, _, _, rfl, _, _, rfl, ?_⟩
    rw [hR]
    refine ⟨_, rfl, by omega, by omega, ?_⟩
    refine for_range (lo := 0) (fun i σ H' => σ.length = 4 ∧ σ[0]? = some (some (.ref a)) ∧ Same H H') ⟨rfl, rfl, Same.refl H⟩ (fun i σ H' hi ⟨hlen, h0, sm⟩ => ?_) (fun σ H' _ => k H')
    have hi2 : i < n := by simpa using hi
    have s1 : (σ.set 1 (some (.int (0 + (i : Int)))))[1]? = some (some (.int (0 + (i : Int)))) := List.getElem?_set_self (by omega)
    have s0 : (σ.set 1 (some (.int (0 + (i : Int)))))[0]? = some (some (.ref a)) := by
      rw [List.getElem?_set_ne (by decide)]
      exact h0
    refine ⟨_, s0, _, s1, a, ns, _, rfl, sm.seq hS, hl, by omega, by omega, fun p H3 sm3 np hp => ?_⟩
    obtain ⟨p0, p1, hp, hp1⟩ := hp
    -- the pool stands at p; the slots
    match σ, hlen, h0 with
    | x0 :: x1 :: x2 :: xs, hlen, h0 =>
      have hx : x0 = some (.ref a) := by simpa using h0
      subst hx
      have hxs : xs.length = 1 := by simpa using hlen
      refine ⟨some p, H3, fun _ => False, [], [some (.opq a), some (.int (0 + (i : Int))), some .pool] ++ List.replicate 1 none, fun _ _ => False, 0, ⟨fun e => e.length = 4 ∧ e[0]? = some (some (.opq a)), fun _ => False, fun _ => False, fun _ => False⟩, ⟨⟨by simp [hxs], fun j d e => ?a1, fun _ _ u => u.elim⟩, Fr.refl, fun _ _ u => u.elim, fun q hq => (by cases hq), fun j hj => (by cases hj)⟩, ?a2, ?a3, ?a4, ?a5⟩
      case a4 => exact law_in a (0 + (i : Int)) (List.replicate 1 none) rfl
      · match j, e with
        | 0, e => cases e; exact ⟨_, rfl, .opq a⟩
        | 1, e => cases e; exact ⟨_, rfl, .int _⟩
        | 2, e => cases e; exact ⟨_, rfl, .pool rfl⟩
        | j + 3, e =>
          exfalso
          have e : (List.replicate 1 (none : Option D))[j]? = some (some d) := e
          rw [List.getElem?_replicate] at e
          split at e <;> cases e
      · refine ⟨fun q hq => ?_, fun _ hq => ?_⟩
        · cases hq
          exact ⟨p0, p1, 0, hp, hp1, by omega, by omega⟩
        · rw [Kl.tabs_nil T.tb] at hq
          cases hq
      · show 0 + 9895614087172 ≤ 2 ^ 100000
        exact Nat.le_trans (show 0 + 9895614087172 ≤ 2 ^ 1000 by decide +kernel) (Nat.pow_le_pow_right (by decide) (by decide))
      · refine ⟨fun σ' H' env' S' r' _ ⟨hl', h0'⟩ => ?_, fun _ _ _ _ _ z => z.elim, fun _ _ _ _ _ _ z => z.elim, fun _ _ _ _ _ _ z => z.elim, fun _ e => nomatch e⟩
        have keep : ∀ b o, H b = some o → H' b = some o := fun b o e => r'.fr.all T.tb b o (fun q => by
          injection q with q
          have z := sm b o e
          rw [q, np] at z
          cases z) (sm3 b o (sm b o e))
        refine ⟨r'.rl.len.trans hl', ?_, keep⟩
        obtain ⟨v, g1, g2⟩ := r'.rl.rep 0 _ h0'
        cases g2
        exact g1

end
theorem all_mk {w : World} {K : PySem.W.Frag} {h : Heap} {mg : Str → Option Value} {fa C q_l_pool q_Needle___eq__ q_l_form q_number_in q_common_divisor q_Needle___init__ q_Needle_share q_Needle_parts q_Needle_more q_show_needle q_read_needle q_Needle_plain q_l_draw q_l_great_right q_l_kind q_l_made q_l_longer q_l_changed q_l_told q_l_integer q_l_integers q_l_due q_l_right q_law pp_Needle_share pp_Needle_parts pp_Needle_more : Addr} (X : K.In h) (G : h.Ns mainGlobals mg) (hfa : mg "law" = some (.ref fa))
    {D0 f_XI cc_XI cda_XI : Addr} {oc_XI kV_XI dc_XI pm_XI ct_XI ccl_XI cl_XI : Value} {od_XI an_XI cdd_XI cld_XI : Option Addr} {sl_XI ccs_XI csl_XI : Array (Option Value)} {vs_XI : Array Value} {file_XI : Str} {tf_XI : Tok}
    {w_1 N_1 : Addr} {nm_1 qn_1 : Str} {bs_1 bm_1 sb_1 : List Value} {sn_1 : List Str} {ab_1 : Bool} {co_1 : Option Bool} {dd_1 : Option Addr} {k0_1 k1_1 k2_1 k3_1 k5_1 : Option Value}
    {w_10 N_10 : Addr} {nm_10 qn_10 : Str} {bs_10 bm_10 sb_10 : List Value} {sn_10 : List Str} {ab_10 : Bool} {co_10 : Option Bool} {dd_10 : Option Addr} {k0_10 k1_10 k2_10 k3_10 k5_10 : Option Value}
    {v_1 : Addr}
    {v_10 : Addr}
    {tk_DIGITS : Tok}
    {tk_MOST_DIGITS : Tok}
    {pl_Needle_share pl_Needle_parts pl_Needle_more : List Value}
    {od_l_pool an_l_pool od_Needle___eq__ an_Needle___eq__ od_l_form an_l_form od_number_in an_number_in od_common_divisor an_common_divisor od_Needle___init__ an_Needle___init__ od_Needle_share an_Needle_share od_Needle_parts an_Needle_parts od_Needle_more an_Needle_more od_show_needle an_show_needle od_read_needle an_read_needle od_Needle_plain an_Needle_plain od_l_draw an_l_draw od_l_great_right an_l_great_right od_l_kind an_l_kind od_l_made an_l_made od_l_longer an_l_longer od_l_changed an_l_changed od_l_told an_l_told od_l_integer an_l_integer od_l_integers an_l_integers od_l_due an_l_due od_l_right an_l_right od_law an_law : Option Addr} {sl_l_pool sl_Needle___eq__ sl_l_form sl_number_in sl_common_divisor sl_Needle___init__ sl_Needle_share sl_Needle_parts sl_Needle_more sl_show_needle sl_read_needle sl_Needle_plain sl_l_draw sl_l_great_right sl_l_kind sl_l_made sl_l_longer sl_l_changed sl_l_told sl_l_integer sl_l_integers sl_l_due sl_l_right sl_law : Array (Option Value)} {oc_l_pool kV_l_pool dc_l_pool pm_l_pool cd_l_pool ct_l_pool oc_Needle___eq__ kV_Needle___eq__ dc_Needle___eq__ pm_Needle___eq__ cd_Needle___eq__ ct_Needle___eq__ oc_l_form kV_l_form dc_l_form pm_l_form cd_l_form ct_l_form oc_number_in kV_number_in dc_number_in pm_number_in cd_number_in ct_number_in oc_common_divisor kV_common_divisor dc_common_divisor pm_common_divisor cd_common_divisor ct_common_divisor oc_Needle___init__ kV_Needle___init__ dc_Needle___init__ pm_Needle___init__ cd_Needle___init__ ct_Needle___init__ oc_Needle_share kV_Needle_share dc_Needle_share pm_Needle_share cd_Needle_share ct_Needle_share oc_Needle_parts kV_Needle_parts dc_Needle_parts pm_Needle_parts cd_Needle_parts ct_Needle_parts oc_Needle_more kV_Needle_more dc_Needle_more pm_Needle_more cd_Needle_more ct_Needle_more oc_show_needle kV_show_needle dc_show_needle pm_show_needle cd_show_needle ct_show_needle oc_read_needle kV_read_needle dc_read_needle pm_read_needle cd_read_needle ct_read_needle oc_Needle_plain kV_Needle_plain dc_Needle_plain pm_Needle_plain cd_Needle_plain ct_Needle_plain oc_l_draw kV_l_draw dc_l_draw pm_l_draw cd_l_draw ct_l_draw oc_l_great_right kV_l_great_right dc_l_great_right pm_l_great_right cd_l_great_right ct_l_great_right oc_l_kind kV_l_kind dc_l_kind pm_l_kind cd_l_kind ct_l_kind oc_l_made kV_l_made dc_l_made pm_l_made cd_l_made ct_l_made oc_l_longer kV_l_longer dc_l_longer pm_l_longer cd_l_longer ct_l_longer oc_l_changed kV_l_changed dc_l_changed pm_l_changed cd_l_changed ct_l_changed oc_l_told kV_l_told dc_l_told pm_l_told cd_l_told ct_l_told oc_l_integer kV_l_integer dc_l_integer pm_l_integer cd_l_integer ct_l_integer oc_l_integers kV_l_integers dc_l_integers pm_l_integers cd_l_integers ct_l_integers oc_l_due kV_l_due dc_l_due pm_l_due cd_l_due ct_l_due oc_l_right kV_l_right dc_l_right pm_l_right cd_l_right ct_l_right oc_law kV_law dc_law pm_law cd_law ct_law : Value}
    (a_l_pool : PySem.W.nsIn K mainGlobals "_law_pool" = some (some (.ref q_l_pool)))
    (l_l_pool : K.lookup q_l_pool = some ⟨oc_l_pool, od_l_pool, .func (PySem.W.fnOf "_law_pool" "_law_pool" (defArgs s_l_pool) (defBody s_l_pool) (defScope s_l_pool) .none kV_l_pool dc_l_pool pm_l_pool an_l_pool cd_l_pool ct_l_pool), sl_l_pool⟩)
    (c_l_pool : PySem.W.codeIn K cd_l_pool "_law_pool" = true) (k_l_pool : PySem.W.keepIn K (.ref q_l_pool) = true)
    (a_Needle___eq__ : PySem.W.findIn K (.ref C) "__eq__" = some (some (.ref q_Needle___eq__))) (i_Needle___eq__ : PySem.W.isFn K (.ref q_Needle___eq__) = true)
    (l_Needle___eq__ : K.lookup q_Needle___eq__ = some ⟨oc_Needle___eq__, od_Needle___eq__, .func (PySem.W.fnOf "__eq__" "Needle.__eq__" (defArgs s_Needle___eq__) (defBody s_Needle___eq__) (defScope s_Needle___eq__) .none kV_Needle___eq__ dc_Needle___eq__ pm_Needle___eq__ an_Needle___eq__ cd_Needle___eq__ ct_Needle___eq__), sl_Needle___eq__⟩)
    (c_Needle___eq__ : PySem.W.codeIn K cd_Needle___eq__ "Needle.__eq__" = true) (k_Needle___eq__ : PySem.W.keepIn K (.ref q_Needle___eq__) = true)
    (a_l_form : PySem.W.nsIn K mainGlobals "_law_form" = some (some (.ref q_l_form)))
    (l_l_form : K.lookup q_l_form = some ⟨oc_l_form, od_l_form, .func (PySem.W.fnOf "_law_form" "_law_form" (defArgs s_l_form) (defBody s_l_form) (defScope s_l_form) .none kV_l_form dc_l_form pm_l_form an_l_form cd_l_form ct_l_form), sl_l_form⟩)
    (c_l_form : PySem.W.codeIn K cd_l_form "_law_form" = true) (k_l_form : PySem.W.keepIn K (.ref q_l_form) = true)
    (a_number_in : PySem.W.nsIn K mainGlobals "number_in" = some (some (.ref q_number_in)))
    (l_number_in : K.lookup q_number_in = some ⟨oc_number_in, od_number_in, .func (PySem.W.fnOf "number_in" "number_in" (defArgs s_number_in) (defBody s_number_in) (defScope s_number_in) .none kV_number_in dc_number_in pm_number_in an_number_in cd_number_in ct_number_in), sl_number_in⟩)
    (c_number_in : PySem.W.codeIn K cd_number_in "number_in" = true) (k_number_in : PySem.W.keepIn K (.ref q_number_in) = true)
    (a_common_divisor : PySem.W.nsIn K mainGlobals "common_divisor" = some (some (.ref q_common_divisor)))
    (l_common_divisor : K.lookup q_common_divisor = some ⟨oc_common_divisor, od_common_divisor, .func (PySem.W.fnOf "common_divisor" "common_divisor" (defArgs s_common_divisor) (defBody s_common_divisor) (defScope s_common_divisor) .none kV_common_divisor dc_common_divisor pm_common_divisor an_common_divisor cd_common_divisor ct_common_divisor), sl_common_divisor⟩)
    (c_common_divisor : PySem.W.codeIn K cd_common_divisor "common_divisor" = true) (k_common_divisor : PySem.W.keepIn K (.ref q_common_divisor) = true)
    (a_Needle___init__ : PySem.W.findIn K (.ref C) "__init__" = some (some (.ref q_Needle___init__))) (i_Needle___init__ : PySem.W.isFn K (.ref q_Needle___init__) = true)
    (l_Needle___init__ : K.lookup q_Needle___init__ = some ⟨oc_Needle___init__, od_Needle___init__, .func (PySem.W.fnOf "__init__" "Needle.__init__" (defArgs s_Needle___init__) (defBody s_Needle___init__) (defScope s_Needle___init__) .none kV_Needle___init__ dc_Needle___init__ pm_Needle___init__ an_Needle___init__ cd_Needle___init__ ct_Needle___init__), sl_Needle___init__⟩)
    (c_Needle___init__ : PySem.W.codeIn K cd_Needle___init__ "Needle.__init__" = true) (k_Needle___init__ : PySem.W.keepIn K (.ref q_Needle___init__) = true)
    (a_Needle_share : PySem.W.findIn K (.ref C) "share" = some (some (.ref pp_Needle_share))) (pg_Needle_share : PySem.W.specialIn K (.ref pp_Needle_share) "__get__" = some (some (.builtin "property.__get__"))) (pt_Needle_share : PySem.W.takesIn K (.ref pp_Needle_share) = some true) (pr_Needle_share : PySem.W.recIn K pp_Needle_share "property" = some (.ref q_Needle_share :: pl_Needle_share))
    (l_Needle_share : K.lookup q_Needle_share = some ⟨oc_Needle_share, od_Needle_share, .func (PySem.W.fnOf "share" "Needle.share" (defArgs s_Needle_share) (defBody s_Needle_share) (defScope s_Needle_share) .none kV_Needle_share dc_Needle_share pm_Needle_share an_Needle_share cd_Needle_share ct_Needle_share), sl_Needle_share⟩)
    (c_Needle_share : PySem.W.codeIn K cd_Needle_share "Needle.share" = true) (k_Needle_share : PySem.W.keepIn K (.ref q_Needle_share) = true)
    (a_Needle_parts : PySem.W.findIn K (.ref C) "parts" = some (some (.ref pp_Needle_parts))) (pg_Needle_parts : PySem.W.specialIn K (.ref pp_Needle_parts) "__get__" = some (some (.builtin "property.__get__"))) (pt_Needle_parts : PySem.W.takesIn K (.ref pp_Needle_parts) = some true) (pr_Needle_parts : PySem.W.recIn K pp_Needle_parts "property" = some (.ref q_Needle_parts :: pl_Needle_parts))
    (l_Needle_parts : K.lookup q_Needle_parts = some ⟨oc_Needle_parts, od_Needle_parts, .func (PySem.W.fnOf "parts" "Needle.parts" (defArgs s_Needle_parts) (defBody s_Needle_parts) (defScope s_Needle_parts) .none kV_Needle_parts dc_Needle_parts pm_Needle_parts an_Needle_parts cd_Needle_parts ct_Needle_parts), sl_Needle_parts⟩)
    (c_Needle_parts : PySem.W.codeIn K cd_Needle_parts "Needle.parts" = true) (k_Needle_parts : PySem.W.keepIn K (.ref q_Needle_parts) = true)
    (a_Needle_more : PySem.W.findIn K (.ref C) "more" = some (some (.ref pp_Needle_more))) (pg_Needle_more : PySem.W.specialIn K (.ref pp_Needle_more) "__get__" = some (some (.builtin "property.__get__"))) (pt_Needle_more : PySem.W.takesIn K (.ref pp_Needle_more) = some true) (pr_Needle_more : PySem.W.recIn K pp_Needle_more "property" = some (.ref q_Needle_more :: pl_Needle_more))
    (l_Needle_more : K.lookup q_Needle_more = some ⟨oc_Needle_more, od_Needle_more, .func (PySem.W.fnOf "more" "Needle.more" (defArgs s_Needle_more) (defBody s_Needle_more) (defScope s_Needle_more) .none kV_Needle_more dc_Needle_more pm_Needle_more an_Needle_more cd_Needle_more ct_Needle_more), sl_Needle_more⟩)
    (c_Needle_more : PySem.W.codeIn K cd_Needle_more "Needle.more" = true) (k_Needle_more : PySem.W.keepIn K (.ref q_Needle_more) = true)
    (a_show_needle : PySem.W.nsIn K mainGlobals "show_needle" = some (some (.ref q_show_needle)))
    (l_show_needle : K.lookup q_show_needle = some ⟨oc_show_needle, od_show_needle, .func (PySem.W.fnOf "show_needle" "show_needle" (defArgs s_show_needle) (defBody s_show_needle) (defScope s_show_needle) .none kV_show_needle dc_show_needle pm_show_needle an_show_needle cd_show_needle ct_show_needle), sl_show_needle⟩)
    (c_show_needle : PySem.W.codeIn K cd_show_needle "show_needle" = true) (k_show_needle : PySem.W.keepIn K (.ref q_show_needle) = true)
    (a_read_needle : PySem.W.nsIn K mainGlobals "read_needle" = some (some (.ref q_read_needle)))
    (l_read_needle : K.lookup q_read_needle = some ⟨oc_read_needle, od_read_needle, .func (PySem.W.fnOf "read_needle" "read_needle" (defArgs s_read_needle) (defBody s_read_needle) (defScope s_read_needle) .none kV_read_needle dc_read_needle pm_read_needle an_read_needle cd_read_needle ct_read_needle), sl_read_needle⟩)
    (c_read_needle : PySem.W.codeIn K cd_read_needle "read_needle" = true) (k_read_needle : PySem.W.keepIn K (.ref q_read_needle) = true)
    (a_Needle_plain : PySem.W.findIn K (.ref C) "plain" = some (some (.ref q_Needle_plain))) (i_Needle_plain : PySem.W.isFn K (.ref q_Needle_plain) = true)
    (l_Needle_plain : K.lookup q_Needle_plain = some ⟨oc_Needle_plain, od_Needle_plain, .func (PySem.W.fnOf "plain" "Needle.plain" (defArgs s_Needle_plain) (defBody s_Needle_plain) (defScope s_Needle_plain) .none kV_Needle_plain dc_Needle_plain pm_Needle_plain an_Needle_plain cd_Needle_plain ct_Needle_plain), sl_Needle_plain⟩)
    (c_Needle_plain : PySem.W.codeIn K cd_Needle_plain "Needle.plain" = true) (k_Needle_plain : PySem.W.keepIn K (.ref q_Needle_plain) = true)
    (a_l_draw : PySem.W.nsIn K mainGlobals "_law_draw" = some (some (.ref q_l_draw)))
    (l_l_draw : K.lookup q_l_draw = some ⟨oc_l_draw, od_l_draw, .func (PySem.W.fnOf "_law_draw" "_law_draw" (defArgs s_l_draw) (defBody s_l_draw) (defScope s_l_draw) .none kV_l_draw dc_l_draw pm_l_draw an_l_draw cd_l_draw ct_l_draw), sl_l_draw⟩)
    (c_l_draw : PySem.W.codeIn K cd_l_draw "_law_draw" = true) (k_l_draw : PySem.W.keepIn K (.ref q_l_draw) = true)
    (a_l_great_right : PySem.W.nsIn K mainGlobals "_law_great_right" = some (some (.ref q_l_great_right)))
    (l_l_great_right : K.lookup q_l_great_right = some ⟨oc_l_great_right, od_l_great_right, .func (PySem.W.fnOf "_law_great_right" "_law_great_right" (defArgs s_l_great_right) (defBody s_l_great_right) (defScope s_l_great_right) .none kV_l_great_right dc_l_great_right pm_l_great_right an_l_great_right cd_l_great_right ct_l_great_right), sl_l_great_right⟩)
    (c_l_great_right : PySem.W.codeIn K cd_l_great_right "_law_great_right" = true) (k_l_great_right : PySem.W.keepIn K (.ref q_l_great_right) = true)
    (a_l_kind : PySem.W.nsIn K mainGlobals "_law_kind" = some (some (.ref q_l_kind)))
    (l_l_kind : K.lookup q_l_kind = some ⟨oc_l_kind, od_l_kind, .func (PySem.W.fnOf "_law_kind" "_law_kind" (defArgs s_l_kind) (defBody s_l_kind) (defScope s_l_kind) .none kV_l_kind dc_l_kind pm_l_kind an_l_kind cd_l_kind ct_l_kind), sl_l_kind⟩)
    (c_l_kind : PySem.W.codeIn K cd_l_kind "_law_kind" = true) (k_l_kind : PySem.W.keepIn K (.ref q_l_kind) = true)
    (a_l_made : PySem.W.nsIn K mainGlobals "_law_made" = some (some (.ref q_l_made)))
    (l_l_made : K.lookup q_l_made = some ⟨oc_l_made, od_l_made, .func (PySem.W.fnOf "_law_made" "_law_made" (defArgs s_l_made) (defBody s_l_made) (defScope s_l_made) .none kV_l_made dc_l_made pm_l_made an_l_made cd_l_made ct_l_made), sl_l_made⟩)
    (c_l_made : PySem.W.codeIn K cd_l_made "_law_made" = true) (k_l_made : PySem.W.keepIn K (.ref q_l_made) = true)
    (a_l_longer : PySem.W.nsIn K mainGlobals "_law_longer" = some (some (.ref q_l_longer)))
    (l_l_longer : K.lookup q_l_longer = some ⟨oc_l_longer, od_l_longer, .func (PySem.W.fnOf "_law_longer" "_law_longer" (defArgs s_l_longer) (defBody s_l_longer) (defScope s_l_longer) .none kV_l_longer dc_l_longer pm_l_longer an_l_longer cd_l_longer ct_l_longer), sl_l_longer⟩)
    (c_l_longer : PySem.W.codeIn K cd_l_longer "_law_longer" = true) (k_l_longer : PySem.W.keepIn K (.ref q_l_longer) = true)
    (a_l_changed : PySem.W.nsIn K mainGlobals "_law_changed" = some (some (.ref q_l_changed)))
    (l_l_changed : K.lookup q_l_changed = some ⟨oc_l_changed, od_l_changed, .func (PySem.W.fnOf "_law_changed" "_law_changed" (defArgs s_l_changed) (defBody s_l_changed) (defScope s_l_changed) .none kV_l_changed dc_l_changed pm_l_changed an_l_changed cd_l_changed ct_l_changed), sl_l_changed⟩)
    (c_l_changed : PySem.W.codeIn K cd_l_changed "_law_changed" = true) (k_l_changed : PySem.W.keepIn K (.ref q_l_changed) = true)
    (a_l_told : PySem.W.nsIn K mainGlobals "_law_told" = some (some (.ref q_l_told)))
    (l_l_told : K.lookup q_l_told = some ⟨oc_l_told, od_l_told, .func (PySem.W.fnOf "_law_told" "_law_told" (defArgs s_l_told) (defBody s_l_told) (defScope s_l_told) .none kV_l_told dc_l_told pm_l_told an_l_told cd_l_told ct_l_told), sl_l_told⟩)
    (c_l_told : PySem.W.codeIn K cd_l_told "_law_told" = true) (k_l_told : PySem.W.keepIn K (.ref q_l_told) = true)
    (a_l_integer : PySem.W.nsIn K mainGlobals "_law_integer" = some (some (.ref q_l_integer)))
    (l_l_integer : K.lookup q_l_integer = some ⟨oc_l_integer, od_l_integer, .func (PySem.W.fnOf "_law_integer" "_law_integer" (defArgs s_l_integer) (defBody s_l_integer) (defScope s_l_integer) .none kV_l_integer dc_l_integer pm_l_integer an_l_integer cd_l_integer ct_l_integer), sl_l_integer⟩)
    (c_l_integer : PySem.W.codeIn K cd_l_integer "_law_integer" = true) (k_l_integer : PySem.W.keepIn K (.ref q_l_integer) = true)
    (a_l_integers : PySem.W.nsIn K mainGlobals "_law_integers" = some (some (.ref q_l_integers)))
    (l_l_integers : K.lookup q_l_integers = some ⟨oc_l_integers, od_l_integers, .func (PySem.W.fnOf "_law_integers" "_law_integers" (defArgs s_l_integers) (defBody s_l_integers) (defScope s_l_integers) .none kV_l_integers dc_l_integers pm_l_integers an_l_integers cd_l_integers ct_l_integers), sl_l_integers⟩)
    (c_l_integers : PySem.W.codeIn K cd_l_integers "_law_integers" = true) (k_l_integers : PySem.W.keepIn K (.ref q_l_integers) = true)
    (a_l_due : PySem.W.nsIn K mainGlobals "_law_due" = some (some (.ref q_l_due)))
    (l_l_due : K.lookup q_l_due = some ⟨oc_l_due, od_l_due, .func (PySem.W.fnOf "_law_due" "_law_due" (defArgs s_l_due) (defBody s_l_due) (defScope s_l_due) .none kV_l_due dc_l_due pm_l_due an_l_due cd_l_due ct_l_due), sl_l_due⟩)
    (c_l_due : PySem.W.codeIn K cd_l_due "_law_due" = true) (k_l_due : PySem.W.keepIn K (.ref q_l_due) = true)
    (a_l_right : PySem.W.nsIn K mainGlobals "_law_right" = some (some (.ref q_l_right)))
    (l_l_right : K.lookup q_l_right = some ⟨oc_l_right, od_l_right, .func (PySem.W.fnOf "_law_right" "_law_right" (defArgs s_l_right) (defBody s_l_right) (defScope s_l_right) .none kV_l_right dc_l_right pm_l_right an_l_right cd_l_right ct_l_right), sl_l_right⟩)
    (c_l_right : PySem.W.codeIn K cd_l_right "_law_right" = true) (k_l_right : PySem.W.keepIn K (.ref q_l_right) = true)
    (a_law : PySem.W.nsIn K mainGlobals "law" = some (some (.ref q_law)))
    (l_law : K.lookup q_law = some ⟨oc_law, od_law, .func (PySem.W.fnOf "law" "law" (defArgs s_law) (defBody s_law) (defScope s_law) .none kV_law dc_law pm_law an_law cd_law ct_law), sl_law⟩)
    (c_law : PySem.W.codeIn K cd_law "law" = true) (k_law : PySem.W.keepIn K (.ref q_law) = true)
    (aC : PySem.W.nsIn K mainGlobals "Needle" = some (some (.ref C))) (pg : PySem.W.plainGet K C Str.empty = true) (hd : PySem.W.hasDictIn K C = true) (po : PySem.W.plainOver K C = true) (sa : PySem.W.findIn K (.ref C) "__setattr__" = some (some (.builtin "object.__setattr__"))) (mkc : PySem.W.makesIn K C = true) (kc : PySem.W.keepIn K (.ref C) = true)
    (np : PySem.W.findIn K (.ref C) "passed" = some none) (nf : PySem.W.findIn K (.ref C) "form" = some none)
    (w_hn : PySem.W.specialIn K (.builtin "object.__class__") "__get__" = some (some (.builtin "getset_descriptor.__get__"))) (w_ht : PySem.W.takesIn K (.builtin "object.__class__") = some true)
    (wn_ha : PySem.W.findIn K (.ref C) "__class__" = some (some (.builtin "object.__class__"))) (wn_hm : PySem.W.mroIn K C (.type "object") = some true)
    (h_kn_NoneType : PySem.W.kitOne K (.type "NoneType") (.ref C) = some false)
    (h_kn_bool : PySem.W.kitOne K (.type "bool") (.ref C) = some false)
    (h_kn_int : PySem.W.kitOne K (.type "int") (.ref C) = some false)
    (h_kn_str : PySem.W.kitOne K (.type "str") (.ref C) = some false)
    (h_kn_list : PySem.W.kitOne K (.type "list") (.ref C) = some false)
    (h_kn_tuple : PySem.W.kitOne K (.type "tuple") (.ref C) = some false)
    (wn_ne : PySem.W.findIn K (.ref C) "__ne__" = some (some (.builtin "object.__ne__")))
    (y_NA : PySem.W.nsIn K PySem.cStatics "thirdparty.any" = some none) (y_mS : PySem.W.nsIn K mainGlobals "super" = some none) (y_hn : PySem.W.specialIn K (.builtin "object.__class__") "__get__" = some (some (.builtin "getset_descriptor.__get__"))) (y_ht : PySem.W.takesIn K (.builtin "object.__class__") = some true)
    (y_D0 : PySem.W.nsIn K mainGlobals "NeedleError" = some (some (.ref D0))) (y_iD : PySem.W.findIn K (.ref D0) "__init__" = some (some (.ref f_XI))) (y_tI : PySem.W.typeIn K (.ref f_XI) = some (.type "function")) (y_cD : PySem.W.hasDictIn K D0 = true)
    (y_lI : K.lookup f_XI = some ⟨oc_XI, od_XI, .func (PySem.W.ksFn "__init__" "NeedleError.__init__" (defArgs s_XI) (defBody s_XI) (defScope s_XI) .none kV_XI dc_XI pm_XI an_XI (.ref cda_XI) ct_XI cc_XI), sl_XI⟩) (y_cI : PySem.W.codeIn K (.ref cda_XI) "NeedleError.__init__" = true) (y_co : K.lookup cda_XI = some ⟨ccl_XI, cdd_XI, .fields vs_XI, ccs_XI⟩) (y_vs : vs_XI[2]? = some (.str file_XI tf_XI)) (y_fi : ((P.main.file : Str) == file_XI) = true) (y_ce : K.lookup cc_XI = some ⟨cl_XI, cld_XI, .cell (some (.ref D0)), csl_XI⟩)
    (e_1_a : PySem.W.nsIn K mainGlobals "InvalidNeedle" = some (some (.ref w_1))) (e_1_l : K.lookup w_1 = some (excClassObj nm_1 qn_1 w_1 N_1 bs_1 bm_1 true sn_1 sb_1 ab_1 co_1 dd_1 k0_1 k1_1 k2_1 k3_1 k5_1 "ValueError.__new__")) (e_1_v : PySem.HandSPX.refsVE bm_1 = true) (e_1_sa : PySem.W.findIn K (.ref w_1) "__setattr__" = some (some (.builtin "object.__setattr__"))) (e_1_ga : PySem.W.findIn K (.ref w_1) "__getattribute__" = some (some (.builtin "BaseException.__getattribute__"))) (e_1_gg : PySem.W.findIn K (.ref w_1) "__getattr__" = some none) (e_1_no : PySem.W.findIn K (.ref w_1) "value" = some none) (e_1_i : PySem.W.findIn K (.ref w_1) "__init__" = some (some (.ref f_XI))) (e_1_k : PySem.W.keepIn K (.ref w_1) = true) (e_1_ex : PySem.W.subIn K (.ref w_1) (.type "BaseException") = some true) (e_1_ty : PySem.W.typeIn K (.ref w_1) = some (.type "type")) (e_1_hd : PySem.W.hasDictIn K w_1 = true) (e_1_sub : PySem.W.mroIn K w_1 (.ref D0) = some true) (e_1_sup : PySem.W.ks_superIn K w_1 D0 "__init__" = some (some (.builtin "ValueError.__init__"))) (e_1_ve : PySem.W.subIn K (.ref w_1) (.type "ValueError") = some true) (e_1_ha : PySem.W.findIn K (.ref w_1) "__class__" = some (some (.builtin "object.__class__"))) (e_1_hm : PySem.W.mroIn K w_1 (.type "object") = some true) (e_1_kv : PySem.W.kitOne K (.ref w_1) (.type "ValueError") = some true)
    (e_10_a : PySem.W.nsIn K mainGlobals "Unreadable" = some (some (.ref w_10))) (e_10_l : K.lookup w_10 = some (excClassObj nm_10 qn_10 w_10 N_10 bs_10 bm_10 true sn_10 sb_10 ab_10 co_10 dd_10 k0_10 k1_10 k2_10 k3_10 k5_10 "ValueError.__new__")) (e_10_v : PySem.HandSPX.refsVE bm_10 = true) (e_10_sa : PySem.W.findIn K (.ref w_10) "__setattr__" = some (some (.builtin "object.__setattr__"))) (e_10_ga : PySem.W.findIn K (.ref w_10) "__getattribute__" = some (some (.builtin "BaseException.__getattribute__"))) (e_10_gg : PySem.W.findIn K (.ref w_10) "__getattr__" = some none) (e_10_no : PySem.W.findIn K (.ref w_10) "value" = some none) (e_10_i : PySem.W.findIn K (.ref w_10) "__init__" = some (some (.ref f_XI))) (e_10_k : PySem.W.keepIn K (.ref w_10) = true) (e_10_ex : PySem.W.subIn K (.ref w_10) (.type "BaseException") = some true) (e_10_ty : PySem.W.typeIn K (.ref w_10) = some (.type "type")) (e_10_hd : PySem.W.hasDictIn K w_10 = true) (e_10_sub : PySem.W.mroIn K w_10 (.ref D0) = some true) (e_10_sup : PySem.W.ks_superIn K w_10 D0 "__init__" = some (some (.builtin "ValueError.__init__"))) (e_10_ve : PySem.W.subIn K (.ref w_10) (.type "ValueError") = some true) (e_10_ha : PySem.W.findIn K (.ref w_10) "__class__" = some (some (.builtin "object.__class__"))) (e_10_hm : PySem.W.mroIn K w_10 (.type "object") = some true) (e_10_kv : PySem.W.kitOne K (.ref w_10) (.type "ValueError") = some true)
    (h_1_a : PySem.W.nsIn K mainGlobals "InvalidNeedle" = some (some (.ref v_1)))
    (h_1_1 : PySem.W.kitOne K (.ref w_1) (.ref v_1) = some true)
    (m_1_1 : PySem.W.subIn K (.ref w_1) (.ref v_1) = some true)
    (h_1_10 : PySem.W.kitOne K (.ref w_10) (.ref v_1) = some false)
    (m_1_10 : PySem.W.subIn K (.ref w_10) (.ref v_1) = some false)
    (n_1_b : PySem.W.subIn K (.ref v_1) (.type "BaseException") = some true) (n_1_d : PySem.W.hasDictIn K v_1 = true) (n_1_t : PySem.W.typeIn K (.ref v_1) = some (.type "type"))
    (h_10_a : PySem.W.nsIn K mainGlobals "Unreadable" = some (some (.ref v_10)))
    (h_10_1 : PySem.W.kitOne K (.ref w_1) (.ref v_10) = some false)
    (m_10_1 : PySem.W.subIn K (.ref w_1) (.ref v_10) = some false)
    (h_10_10 : PySem.W.kitOne K (.ref w_10) (.ref v_10) = some true)
    (m_10_10 : PySem.W.subIn K (.ref w_10) (.ref v_10) = some true)
    (n_10_b : PySem.W.subIn K (.ref v_10) (.type "BaseException") = some true) (n_10_d : PySem.W.hasDictIn K v_10 = true) (n_10_t : PySem.W.typeIn K (.ref v_10) = some (.type "type"))
    (g_DIGITS : PySem.W.nsIn K mainGlobals "DIGITS" = some (some (.str "0123456789" tk_DIGITS)))
    (g_MOST_DIGITS : PySem.W.nsIn K mainGlobals "MOST_DIGITS" = some (some (.int (40) tk_MOST_DIGITS)))
    (z_ValueError : PySem.W.nsIn K mainGlobals "ValueError" = some none)
    (z_abs : PySem.W.nsIn K mainGlobals "abs" = some none)
    (z_all : PySem.W.nsIn K mainGlobals "all" = some none)
    (z_int : PySem.W.nsIn K mainGlobals "int" = some none)
    (z_isinstance : PySem.W.nsIn K mainGlobals "isinstance" = some none)
    (z_len : PySem.W.nsIn K mainGlobals "len" = some none)
    (z_max : PySem.W.nsIn K mainGlobals "max" = some none)
    (z_min : PySem.W.nsIn K mainGlobals "min" = some none)
    (z_range : PySem.W.nsIn K mainGlobals "range" = some none)
    (z_repr : PySem.W.nsIn K mainGlobals "repr" = some none)
    (z_str : PySem.W.nsIn K mainGlobals "str" = some none)
    (z_tuple : PySem.W.nsIn K mainGlobals "tuple" = some none) :
    ∃ fd : FuncData, (∀ (s : Shared) (v : Value), BindsTo s fd ⟨[v], []⟩ [("_law_script", v)]) ∧ ∀ base : Heap, K.In base → base.Ns mainGlobals mg → FnG P w K mg base 10 fa fd ["_law_script"] (spLaw K) := by
  have e := hfa.symm.trans (PySem.W.mg_of X G a_law)
  cases e
  let T : Tx K mg := {
    C := ⟨C, 0, fun k => if k = 1 then w_1 else w_10, fun _ => 0, []⟩,
    f_l_pool := q_l_pool, d_l_pool := _, F_l_pool := fun_mk (st := s_l_pool) l_l_pool c_l_pool k_l_pool,
    g_l_pool := PySem.W.mg_of X G a_l_pool,
    f_Needle___eq__ := q_Needle___eq__, d_Needle___eq__ := _, F_Needle___eq__ := fun_mk (st := s_Needle___eq__) l_Needle___eq__ c_Needle___eq__ k_Needle___eq__,
    m_Needle___eq__ := ⟨a_Needle___eq__, i_Needle___eq__, k_Needle___eq__⟩,
    f_l_form := q_l_form, d_l_form := _, F_l_form := fun_mk (st := s_l_form) l_l_form c_l_form k_l_form,
    g_l_form := PySem.W.mg_of X G a_l_form,
    f_number_in := q_number_in, d_number_in := _, F_number_in := fun_mk (st := s_number_in) l_number_in c_number_in k_number_in,
    g_number_in := PySem.W.mg_of X G a_number_in,
    f_common_divisor := q_common_divisor, d_common_divisor := _, F_common_divisor := fun_mk (st := s_common_divisor) l_common_divisor c_common_divisor k_common_divisor,
    g_common_divisor := PySem.W.mg_of X G a_common_divisor,
    f_Needle___init__ := q_Needle___init__, d_Needle___init__ := _, F_Needle___init__ := fun_mk (st := s_Needle___init__) l_Needle___init__ c_Needle___init__ k_Needle___init__,
    f_Needle_share := q_Needle_share, d_Needle_share := _, F_Needle_share := fun_mk (st := s_Needle_share) l_Needle_share c_Needle_share k_Needle_share,
    q_Needle_share := pp_Needle_share, p_Needle_share := ⟨a_Needle_share, pg_Needle_share, pt_Needle_share, ⟨_, pr_Needle_share⟩⟩,
    f_Needle_parts := q_Needle_parts, d_Needle_parts := _, F_Needle_parts := fun_mk (st := s_Needle_parts) l_Needle_parts c_Needle_parts k_Needle_parts,
    q_Needle_parts := pp_Needle_parts, p_Needle_parts := ⟨a_Needle_parts, pg_Needle_parts, pt_Needle_parts, ⟨_, pr_Needle_parts⟩⟩,
    f_Needle_more := q_Needle_more, d_Needle_more := _, F_Needle_more := fun_mk (st := s_Needle_more) l_Needle_more c_Needle_more k_Needle_more,
    q_Needle_more := pp_Needle_more, p_Needle_more := ⟨a_Needle_more, pg_Needle_more, pt_Needle_more, ⟨_, pr_Needle_more⟩⟩,
    f_show_needle := q_show_needle, d_show_needle := _, F_show_needle := fun_mk (st := s_show_needle) l_show_needle c_show_needle k_show_needle,
    g_show_needle := PySem.W.mg_of X G a_show_needle,
    f_read_needle := q_read_needle, d_read_needle := _, F_read_needle := fun_mk (st := s_read_needle) l_read_needle c_read_needle k_read_needle,
    g_read_needle := PySem.W.mg_of X G a_read_needle,
    f_Needle_plain := q_Needle_plain, d_Needle_plain := _, F_Needle_plain := fun_mk (st := s_Needle_plain) l_Needle_plain c_Needle_plain k_Needle_plain,
    m_Needle_plain := ⟨a_Needle_plain, i_Needle_plain, k_Needle_plain⟩,
    f_l_draw := q_l_draw, d_l_draw := _, F_l_draw := fun_mk (st := s_l_draw) l_l_draw c_l_draw k_l_draw,
    g_l_draw := PySem.W.mg_of X G a_l_draw,
    f_l_great_right := q_l_great_right, d_l_great_right := _, F_l_great_right := fun_mk (st := s_l_great_right) l_l_great_right c_l_great_right k_l_great_right,
    g_l_great_right := PySem.W.mg_of X G a_l_great_right,
    f_l_kind := q_l_kind, d_l_kind := _, F_l_kind := fun_mk (st := s_l_kind) l_l_kind c_l_kind k_l_kind,
    g_l_kind := PySem.W.mg_of X G a_l_kind,
    f_l_made := q_l_made, d_l_made := _, F_l_made := fun_mk (st := s_l_made) l_l_made c_l_made k_l_made,
    g_l_made := PySem.W.mg_of X G a_l_made,
    f_l_longer := q_l_longer, d_l_longer := _, F_l_longer := fun_mk (st := s_l_longer) l_l_longer c_l_longer k_l_longer,
    g_l_longer := PySem.W.mg_of X G a_l_longer,
    f_l_changed := q_l_changed, d_l_changed := _, F_l_changed := fun_mk (st := s_l_changed) l_l_changed c_l_changed k_l_changed,
    g_l_changed := PySem.W.mg_of X G a_l_changed,
    f_l_told := q_l_told, d_l_told := _, F_l_told := fun_mk (st := s_l_told) l_l_told c_l_told k_l_told,
    g_l_told := PySem.W.mg_of X G a_l_told,
    f_l_integer := q_l_integer, d_l_integer := _, F_l_integer := fun_mk (st := s_l_integer) l_l_integer c_l_integer k_l_integer,
    g_l_integer := PySem.W.mg_of X G a_l_integer,
    f_l_integers := q_l_integers, d_l_integers := _, F_l_integers := fun_mk (st := s_l_integers) l_l_integers c_l_integers k_l_integers,
    g_l_integers := PySem.W.mg_of X G a_l_integers,
    f_l_due := q_l_due, d_l_due := _, F_l_due := fun_mk (st := s_l_due) l_l_due c_l_due k_l_due,
    g_l_due := PySem.W.mg_of X G a_l_due,
    f_l_right := q_l_right, d_l_right := _, F_l_right := fun_mk (st := s_l_right) l_l_right c_l_right k_l_right,
    g_l_right := PySem.W.mg_of X G a_l_right,
    f_law := fa, d_law := _, F_law := fun_mk (st := s_law) l_law c_law k_law,
    g_law := PySem.W.mg_of X G a_law,
    g_Needle := PySem.W.mg_of X G aC, cl := ⟨pg, hd, po, sa⟩, mkN := ⟨mkc, a_Needle___init__, i_Needle___init__, kc⟩, n_passed := np, n_form := nf,
    ownN := ⟨⟨pg, hd, po, sa⟩, ⟨wn_ha, w_hn, w_ht, wn_hm⟩⟩,
    ownC := fun z => (nomatch z),
    isN := isiN_of h_kn_NoneType h_kn_bool h_kn_int h_kn_str h_kn_list h_kn_tuple (fun z => (nomatch z)),
    nfN := nf_all nf_self (fun z => (nomatch z)), eqN := ⟨a_Needle___eq__, i_Needle___eq__, wn_ne, wn_hm⟩,
    D0 := D0, f_XI := f_XI, sup := ⟨it_XI, PySem.W.mg_none_of X G y_mS, y_NA, y_tI, ⟨_, _, _, _, _, _, _, _, _, _, _, _, _, _, _, _, _, _, _, y_lI, y_cI, y_co, y_vs, y_fi, y_ce⟩, cls_some y_cD, by decide +kernel⟩,
    xt := (fun k => by
      by_cases h1 : k = 1
      · subst h1; exact ⟨⟨_, _, _, _, _, _, _, _, _, _, _, _, _, _, _, e_1_l, e_1_v⟩, e_1_sa, e_1_ga, e_1_gg, e_1_no, e_1_i, e_1_k, e_1_ex, e_1_ty, e_1_hd, e_1_sub, e_1_sup, e_1_ve⟩
      simp only [if_neg h1]; exact ⟨⟨_, _, _, _, _, _, _, _, _, _, _, _, _, _, _, e_10_l, e_10_v⟩, e_10_sa, e_10_ga, e_10_gg, e_10_no, e_10_i, e_10_k, e_10_ex, e_10_ty, e_10_hd, e_10_sub, e_10_sup, e_10_ve⟩),
    xo := (fun k => by
      by_cases h1 : k = 1
      · subst h1; exact ⟨e_1_ha, y_hn, y_ht, e_1_hm⟩
      simp only [if_neg h1]; exact ⟨e_10_ha, y_hn, y_ht, e_10_hm⟩),
    xkv := (fun k => by
      by_cases h1 : k = 1
      · subst h1; exact e_1_kv
      simp only [if_neg h1]; exact e_10_kv),
    r_1 := PySem.W.mg_of X G e_1_a,
    r_10 := PySem.W.mg_of X G e_10_a,
    x_1 := v_1, g_InvalidNeedle := PySem.W.mg_of X G h_1_a, xk_1 := (fun k => by
      by_cases h1 : k = 1
      · subst h1; exact h_1_1
      simp only [kx_1, if_neg h1]; exact h_1_10),
    x_10 := v_10, g_Unreadable := PySem.W.mg_of X G h_10_a, xk_10 := (fun k => by
      by_cases h1 : k = 1
      · subst h1; exact h_10_1
      simp only [kx_10, if_neg h1]; exact h_10_10),
    xm_1 := (fun k => by
      by_cases h1 : k = 1
      · subst h1; exact PySem.W.exm_ref n_1_b n_1_d n_1_t m_1_1
      simp only [kx_1, if_neg h1]; exact PySem.W.exm_ref n_1_b n_1_d n_1_t m_1_10),
    xm_10 := (fun k => by
      by_cases h1 : k = 1
      · subst h1; exact PySem.W.exm_ref n_10_b n_10_d n_10_t m_10_1
      simp only [kx_10, if_neg h1]; exact PySem.W.exm_ref n_10_b n_10_d n_10_t m_10_10),
    t_DIGITS := tk_DIGITS, c_DIGITS := PySem.W.mg_of X G g_DIGITS,
    t_MOST_DIGITS := tk_MOST_DIGITS, c_MOST_DIGITS := PySem.W.mg_of X G g_MOST_DIGITS,
    b_ValueError := PySem.W.mg_none_of X G z_ValueError,
    b_abs := PySem.W.mg_none_of X G z_abs,
    b_all := PySem.W.mg_none_of X G z_all,
    b_int := PySem.W.mg_none_of X G z_int,
    b_isinstance := PySem.W.mg_none_of X G z_isinstance,
    b_len := PySem.W.mg_none_of X G z_len,
    b_max := PySem.W.mg_none_of X G z_max,
    b_min := PySem.W.mg_none_of X G z_min,
    b_range := PySem.W.mg_none_of X G z_range,
    b_repr := PySem.W.mg_none_of X G z_repr,
    b_str := PySem.W.mg_none_of X G z_str,
    b_tuple := PySem.W.mg_none_of X G z_tuple,
    tb := rfl }
  exact ⟨T.d_law, fun s v => .of_eq rfl, fun base _ _ => ok_law T⟩
end LW
open PySem PySem.W PyProof.Rows
set_option maxRecDepth 100000 in
set_option maxHeartbeats 0 in
theorem PySem.Challenge.cw_slowneedles_k62_needles_in_texts_holds : PySem.Challenge.rw_slowneedles_k62_needles_in_texts.Holds := by
  w_on; o_law; k_head; (case hw => w_witness2)
  k_fill
  refine VL.walk_g (l := PySem.Challenge.rw_slowneedles_k62_needles_in_texts) (k := 10) (x := "_law_script") rfl rfl ⟨rfl, by decide, by decide⟩ (fun w h Y => PySem.W.kIn_of Y) ?F
  case F =>
    intro w mg fa h KX G hmg
    refine' LW.all_mk KX G hmg ?a_l_pool ?l_l_pool ?c_l_pool ?k_l_pool ?a_Needle___eq__ ?i_Needle___eq__ ?l_Needle___eq__ ?c_Needle___eq__ ?k_Needle___eq__ ?a_l_form ?l_l_form ?c_l_form ?k_l_form ?a_number_in ?l_number_in ?c_number_in ?k_number_in ?a_common_divisor ?l_common_divisor ?c_common_divisor ?k_common_divisor ?a_Needle___init__ ?i_Needle___init__ ?l_Needle___init__ ?c_Needle___init__ ?k_Needle___init__ ?a_Needle_share ?pg_Needle_share ?pt_Needle_share ?pr_Needle_share ?l_Needle_share ?c_Needle_share ?k_Needle_share ?a_Needle_parts ?pg_Needle_parts ?pt_Needle_parts ?pr_Needle_parts ?l_Needle_parts ?c_Needle_parts ?k_Needle_parts ?a_Needle_more ?pg_Needle_more ?pt_Needle_more ?pr_Needle_more ?l_Needle_more ?c_Needle_more ?k_Needle_more ?a_show_needle ?l_show_needle ?c_show_needle ?k_show_needle ?a_read_needle ?l_read_needle ?c_read_needle ?k_read_needle ?a_Needle_plain ?i_Needle_plain ?l_Needle_plain ?c_Needle_plain ?k_Needle_plain ?a_l_draw ?l_l_draw ?c_l_draw ?k_l_draw ?a_l_great_right ?l_l_great_right ?c_l_great_right ?k_l_great_right ?a_l_kind ?l_l_kind ?c_l_kind ?k_l_kind ?a_l_made ?l_l_made ?c_l_made ?k_l_made ?a_l_longer ?l_l_longer ?c_l_longer ?k_l_longer ?a_l_changed ?l_l_changed ?c_l_changed ?k_l_changed ?a_l_told ?l_l_told ?c_l_told ?k_l_told ?a_l_integer ?l_l_integer ?c_l_integer ?k_l_integer ?a_l_integers ?l_l_integers ?c_l_integers ?k_l_integers ?a_l_due ?l_l_due ?c_l_due ?k_l_due ?a_l_right ?l_l_right ?c_l_right ?k_l_right ?a_law ?l_law ?c_law ?k_law ?aC ?pg ?hd ?po ?sa ?mkc ?kc ?np ?nf ?w_hn ?w_ht ?wn_ha ?wn_hm ?h_kn_NoneType ?h_kn_bool ?h_kn_int ?h_kn_str ?h_kn_list ?h_kn_tuple ?wn_ne ?y_NA ?y_mS ?y_hn ?y_ht ?y_D0 ?y_iD ?y_tI ?y_cD ?y_lI ?y_cI ?y_co ?y_vs ?y_fi ?y_ce ?e_1_a ?e_1_l ?e_1_v ?e_1_sa ?e_1_ga ?e_1_gg ?e_1_no ?e_1_i ?e_1_k ?e_1_ex ?e_1_ty ?e_1_hd ?e_1_sub ?e_1_sup ?e_1_ve ?e_1_ha ?e_1_hm ?e_1_kv ?e_10_a ?e_10_l ?e_10_v ?e_10_sa ?e_10_ga ?e_10_gg ?e_10_no ?e_10_i ?e_10_k ?e_10_ex ?e_10_ty ?e_10_hd ?e_10_sub ?e_10_sup ?e_10_ve ?e_10_ha ?e_10_hm ?e_10_kv ?h_1_a ?h_1_1 ?m_1_1 ?h_1_10 ?m_1_10 ?n_1_b ?n_1_d ?n_1_t ?h_10_a ?h_10_1 ?m_10_1 ?h_10_10 ?m_10_10 ?n_10_b ?n_10_d ?n_10_t ?g_DIGITS ?g_MOST_DIGITS ?z_ValueError ?z_abs ?z_all ?z_int ?z_isinstance ?z_len ?z_max ?z_min ?z_range ?z_repr ?z_str ?z_tuple
    (case aC => k_is)
    (case a_l_pool => k_is)
    (case l_l_pool => k_is)
    (case c_l_pool => k_is)
    (case k_l_pool => k_is)
    (case a_Needle___eq__ => k_is)
    (case i_Needle___eq__ => k_is)
    (case l_Needle___eq__ => k_is)
    (case c_Needle___eq__ => k_is)
    (case k_Needle___eq__ => k_is)
    (case a_l_form => k_is)
    (case l_l_form => k_is)
    (case c_l_form => k_is)
    (case k_l_form => k_is)
    (case a_number_in => k_is)
    (case l_number_in => k_is)
    (case c_number_in => k_is)
    (case k_number_in => k_is)
    (case a_common_divisor => k_is)
    (case l_common_divisor => k_is)
    (case c_common_divisor => k_is)
    (case k_common_divisor => k_is)
    (case a_Needle___init__ => k_is)
    (case i_Needle___init__ => k_is)
    (case l_Needle___init__ => k_is)
    (case c_Needle___init__ => k_is)
    (case k_Needle___init__ => k_is)
    (case a_Needle_share => k_is)
    (case pg_Needle_share => k_is)
    (case pt_Needle_share => k_is)
    (case pr_Needle_share => k_is)
    (case l_Needle_share => k_is)
    (case c_Needle_share => k_is)
    (case k_Needle_share => k_is)
    (case a_Needle_parts => k_is)
    (case pg_Needle_parts => k_is)
    (case pt_Needle_parts => k_is)
    (case pr_Needle_parts => k_is)
    (case l_Needle_parts => k_is)
    (case c_Needle_parts => k_is)
    (case k_Needle_parts => k_is)
    (case a_Needle_more => k_is)
    (case pg_Needle_more => k_is)
    (case pt_Needle_more => k_is)
    (case pr_Needle_more => k_is)
    (case l_Needle_more => k_is)
    (case c_Needle_more => k_is)
    (case k_Needle_more => k_is)
    (case a_show_needle => k_is)
    (case l_show_needle => k_is)
    (case c_show_needle => k_is)
    (case k_show_needle => k_is)
    (case a_read_needle => k_is)
    (case l_read_needle => k_is)
    (case c_read_needle => k_is)
    (case k_read_needle => k_is)
    (case a_Needle_plain => k_is)
    (case i_Needle_plain => k_is)
    (case l_Needle_plain => k_is)
    (case c_Needle_plain => k_is)
    (case k_Needle_plain => k_is)
    (case a_l_draw => k_is)
    (case l_l_draw => k_is)
    (case c_l_draw => k_is)
    (case k_l_draw => k_is)
    (case a_l_great_right => k_is)
    (case l_l_great_right => k_is)
    (case c_l_great_right => k_is)
    (case k_l_great_right => k_is)
    (case a_l_kind => k_is)
    (case l_l_kind => k_is)
    (case c_l_kind => k_is)
    (case k_l_kind => k_is)
    (case a_l_made => k_is)
    (case l_l_made => k_is)
    (case c_l_made => k_is)
    (case k_l_made => k_is)
    (case a_l_longer => k_is)
    (case l_l_longer => k_is)
    (case c_l_longer => k_is)
    (case k_l_longer => k_is)
    (case a_l_changed => k_is)
    (case l_l_changed => k_is)
    (case c_l_changed => k_is)
    (case k_l_changed => k_is)
    (case a_l_told => k_is)
    (case l_l_told => k_is)
    (case c_l_told => k_is)
    (case k_l_told => k_is)
    (case a_l_integer => k_is)
    (case l_l_integer => k_is)
    (case c_l_integer => k_is)
    (case k_l_integer => k_is)
    (case a_l_integers => k_is)
    (case l_l_integers => k_is)
    (case c_l_integers => k_is)
    (case k_l_integers => k_is)
    (case a_l_due => k_is)
    (case l_l_due => k_is)
    (case c_l_due => k_is)
    (case k_l_due => k_is)
    (case a_l_right => k_is)
    (case l_l_right => k_is)
    (case c_l_right => k_is)
    (case k_l_right => k_is)
    (case a_law => k_is)
    (case l_law => k_is)
    (case c_law => k_is)
    (case k_law => k_is)
    (case pg => k_is)
    (case hd => k_is)
    (case po => k_is)
    (case sa => k_is)
    (case mkc => k_is)
    (case kc => k_is)
    (case np => k_is)
    (case nf => k_is)
    (case w_hn => k_is)
    (case w_ht => k_is)
    (case wn_ha => k_is)
    (case wn_hm => k_is)
    (case h_kn_NoneType => first | k_is | kit_is)
    (case h_kn_bool => first | k_is | kit_is)
    (case h_kn_int => first | k_is | kit_is)
    (case h_kn_str => first | k_is | kit_is)
    (case h_kn_list => first | k_is | kit_is)
    (case h_kn_tuple => first | k_is | kit_is)
    (case wn_ne => k_is)
    (case y_NA => k_is)
    (case y_mS => k_is)
    (case y_hn => k_is)
    (case y_ht => k_is)
    (case y_D0 => k_is)
    (case y_iD => k_is)
    (case y_tI => k_is)
    (case y_cD => k_is)
    (case y_lI => k_is)
    (case y_cI => k_is)
    (case y_co => k_is)
    (case y_vs => first | rfl | decide +kernel)
    (case y_fi => first | rfl | decide +kernel)
    (case y_ce => k_is)
    (case e_1_a => first | k_is | kit_is)
    (case e_1_l => first | k_is | kit_is)
    (case e_1_v => first | rfl | decide +kernel)
    (case e_1_sa => first | k_is | kit_is)
    (case e_1_ga => first | k_is | kit_is)
    (case e_1_gg => first | k_is | kit_is)
    (case e_1_no => first | k_is | kit_is)
    (case e_1_i => first | k_is | kit_is)
    (case e_1_k => first | k_is | kit_is)
    (case e_1_ex => first | k_is | kit_is)
    (case e_1_ty => first | k_is | kit_is)
    (case e_1_hd => first | k_is | kit_is)
    (case e_1_sub => first | k_is | kit_is)
    (case e_1_sup => ks_is)
    (case e_1_ve => first | k_is | kit_is)
    (case e_1_ha => first | k_is | kit_is)
    (case e_1_hm => first | k_is | kit_is)
    (case e_1_kv => first | k_is | kit_is)
    (case e_10_a => first | k_is | kit_is)
    (case e_10_l => first | k_is | kit_is)
    (case e_10_v => first | rfl | decide +kernel)
    (case e_10_sa => first | k_is | kit_is)
    (case e_10_ga => first | k_is | kit_is)
    (case e_10_gg => first | k_is | kit_is)
    (case e_10_no => first | k_is | kit_is)
    (case e_10_i => first | k_is | kit_is)
    (case e_10_k => first | k_is | kit_is)
    (case e_10_ex => first | k_is | kit_is)
    (case e_10_ty => first | k_is | kit_is)
    (case e_10_hd => first | k_is | kit_is)
    (case e_10_sub => first | k_is | kit_is)
    (case e_10_sup => ks_is)
    (case e_10_ve => first | k_is | kit_is)
    (case e_10_ha => first | k_is | kit_is)
    (case e_10_hm => first | k_is | kit_is)
    (case e_10_kv => first | k_is | kit_is)
    (case h_1_a => first | k_is | kit_is)
    (case h_1_1 => first | k_is | kit_is)
    (case m_1_1 => k_is)
    (case h_1_10 => first | k_is | kit_is)
    (case m_1_10 => k_is)
    (case n_1_b => k_is)
    (case n_1_d => k_is)
    (case n_1_t => k_is)
    (case h_10_a => first | k_is | kit_is)
    (case h_10_1 => first | k_is | kit_is)
    (case m_10_1 => k_is)
    (case h_10_10 => first | k_is | kit_is)
    (case m_10_10 => k_is)
    (case n_10_b => k_is)
    (case n_10_d => k_is)
    (case n_10_t => k_is)
    (case g_DIGITS => k_is)
    (case g_MOST_DIGITS => k_is)
    (case z_ValueError => k_is)
    (case z_abs => k_is)
    (case z_all => k_is)
    (case z_int => k_is)
    (case z_isinstance => k_is)
    (case z_len => k_is)
    (case z_max => k_is)
    (case z_min => k_is)
    (case z_range => k_is)
    (case z_repr => k_is)
    (case z_str => k_is)
    (case z_tuple => k_is)

