import PyProof.Rows.All
import HandS.ForMost
import HandS.Wide
import HandS.WideBits
import HandS.TupAny
import HandS.Zip
import HandS.IsInst
import HandS.Lambda
import HandS.Style
import HandS.MakeKwOnly
import KE.KMathGC
import HandS.Gcd
import PyProof.Draws
import PyProof.ReprRoads
import HandS.TupMul
import HandS.Deep
import HandS.Star
import HandS.TupSets
import HandS.SortInts
import KE.SortKeyHeap
import HandS.SortKw
import OpenK.AllK
import PySem.Challenge.RW_facenumbers_k11_whole_order_ideals_by_se
import Wide.All
import Wide.FinOn
set_option Elab.async false
set_option linter.all false
set_option maxRecDepth 100000
set_option maxHeartbeats 4000000
/-! Sim: what a def computes, as a plain function on trees of data (PyData), tied to HandS' rules. -/
namespace Sm
open PySem PySem.Spec PyProof.Rows L2

abbrev Fz := Addr → Prop

/-- the script, told apart from other lists -/
def scrD (ns : List Int) : PyData := .dict [(.none, .list (ns.map .int))]

def LsAt (F : Fz) (H : Hp) (a : Addr) (xs : List V) : Prop := F a ∧ H a = some (.lst xs)
def TpAt (K : PySem.W.Frag) (F : Fz) (H : Hp) (a : Addr) (xs : List V) : Prop :=
  (F a ∧ Rd H a (.tup xs)) ∨
    ∃ (o : Obj) (its : Array Value) (n : Nat), K.lookup a = some o ∧ o.cls = .type "tuple" ∧ o.data = .seq its n ∧ its.size ≤ sizeLine ∧ Vals xs its.toList
def ScAt (K : PySem.W.Frag) (F : Fz) (H : Hp) (a : Addr) (xs : List V) : Prop :=
  (F a ∧ Rd H a (.lst xs)) ∨
    ∃ (o : Obj) (its : Array Value) (n : Nat), K.lookup a = some o ∧ o.cls = .type "list" ∧ o.dict = none ∧ o.data = .seq its n ∧ its.size ≤ sizeLine ∧ Vals xs its.toList

mutual
inductive Rep (K : PySem.W.Frag) (F : Fz) (H : Hp) : V → PyData → Prop
  | non : Rep K F H .non .none
  | bool (b : Bool) : Rep K F H (.bl b) (.bool b)
  | int (i : Int) : Rep K F H (.int i) (.int i)
  | str (s : Str) : Rep K F H (.str s) (.str s)
  | tup {a : Addr} {xs : List V} {ds : List PyData} (h : TpAt K F H a xs) (r : Reps K F H xs ds) : Rep K F H (.ref a) (.tuple ds)
  | lst {a : Addr} {xs : List V} {ds : List PyData} (h : LsAt F H a xs) (r : Reps K F H xs ds) : Rep K F H (.ref a) (.list ds)
  | scr {a : Addr} {ns : List Int} (h : ScAt K F H a (ns.map V.int)) : Rep K F H (.ref a) (.dict [(.none, .list (ns.map .int))])
inductive Reps (K : PySem.W.Frag) (F : Fz) (H : Hp) : List V → List PyData → Prop
  | nil : Reps K F H [] []
  | cons {v : V} {d : PyData} {vs : List V} {ds : List PyData} (h : Rep K F H v d) (r : Reps K F H vs ds) : Reps K F H (v :: vs) (d :: ds)
end

section
variable {K : PySem.W.Frag} {F F' : Fz} {H H' : Hp} {v : V} {d : PyData} {vs xs : List V} {ds es : List PyData} {a : Addr}
theorem TpAt.sq (h : TpAt K F H a xs) : SqT K H a xs := h.elim (fun z => .inl z.2) .inr
theorem ScAt.sq (h : ScAt K F H a xs) : SqL K H a xs := h.elim (fun z => .inl z.2) .inr
theorem LsAt.sq (h : LsAt F H a xs) : SqL K H a xs := .inl (.inl h.2)
theorem Rd.keep {u : HO} (h : Rd H a u) (k : ∀ o, H a = some o → H' a = some o) : Rd H' a u := by
  rcases h with h | ⟨o, h⟩
  · exact .inl (k _ h)
  · exact .inr ⟨o, k _ h⟩
theorem TpAt.mono (h : TpAt K F H a xs) (f : ∀ a, F a → F' a) (k : ∀ a o, F a → H a = some o → H' a = some o) : TpAt K F' H' a xs :=
  h.elim (fun z => .inl ⟨f _ z.1, Rd.keep z.2 fun o => k a o z.1⟩) .inr
theorem ScAt.mono (h : ScAt K F H a xs) (f : ∀ a, F a → F' a) (k : ∀ a o, F a → H a = some o → H' a = some o) : ScAt K F' H' a xs :=
  h.elim (fun z => .inl ⟨f _ z.1, Rd.keep z.2 fun o => k a o z.1⟩) .inr
mutual
theorem Rep.mono (f : ∀ a, F a → F' a) (k : ∀ a o, F a → H a = some o → H' a = some o) : ∀ {v : V} {d : PyData}, Rep K F H v d → Rep K F' H' v d
  | _, _, .non => .non
  | _, _, .bool b => .bool b
  | _, _, .int i => .int i
  | _, _, .str s => .str s
  | _, _, .tup h r => .tup (h.mono f k) (Reps.mono f k r)
  | _, _, .lst h r => .lst ⟨f _ h.1, k _ _ h.1 h.2⟩ (Reps.mono f k r)
  | _, _, .scr h => .scr (h.mono f k)
theorem Reps.mono (f : ∀ a, F a → F' a) (k : ∀ a o, F a → H a = some o → H' a = some o) : ∀ {vs : List V} {ds : List PyData}, Reps K F H vs ds → Reps K F' H' vs ds
  | _, _, .nil => .nil
  | _, _, .cons h r => .cons (Rep.mono f k h) (Reps.mono f k r)
end
theorem Reps.length : ∀ {vs : List V} {ds : List PyData}, Reps K F H vs ds → vs.length = ds.length
  | _, _, .nil => rfl
  | _, _, .cons _ r => congrArg (· + 1) (Reps.length r)
theorem Reps.get : ∀ {vs : List V} {ds : List PyData} {i : Nat} {d : PyData}, Reps K F H vs ds → ds[i]? = some d → ∃ v, vs[i]? = some v ∧ Rep K F H v d
  | _, _, _, _, .nil, e => by simp at e
  | _, _, 0, _, .cons h _, e => by simp at e; subst e; exact ⟨_, rfl, h⟩
  | _, _, i + 1, d, .cons _ r, e => by
    obtain ⟨v, h1, h2⟩ := Reps.get (i := i) (d := d) r (by simpa using e)
    exact ⟨v, by simpa using h1, h2⟩
theorem Reps.got : ∀ {vs : List V} {ds : List PyData} {i : Nat} {v : V}, Reps K F H vs ds → vs[i]? = some v → ∃ d, ds[i]? = some d ∧ Rep K F H v d
  | _, _, _, _, .nil, e => by simp at e
  | _, _, 0, _, .cons h _, e => by simp at e; subst e; exact ⟨_, rfl, h⟩
  | _, _, i + 1, d, .cons _ r, e => by
    obtain ⟨v, h1, h2⟩ := Reps.got (i := i) (v := d) r (by simpa using e)
    exact ⟨v, by simpa using h1, h2⟩
theorem Reps.append : ∀ {vs ws : List V} {ds es : List PyData}, Reps K F H vs ds → Reps K F H ws es → Reps K F H (vs ++ ws) (ds ++ es)
  | _, _, _, _, .nil, q => q
  | _, _, _, _, .cons h r, q => .cons h (Reps.append r q)
theorem Reps.take : ∀ {vs : List V} {ds : List PyData} (n : Nat), Reps K F H vs ds → Reps K F H (vs.take n) (ds.take n)
  | _, _, 0, _ => .nil
  | _, _, _ + 1, .nil => .nil
  | _, _, n + 1, .cons h r => .cons h (Reps.take n r)
theorem Reps.drop : ∀ {vs : List V} {ds : List PyData} (n : Nat), Reps K F H vs ds → Reps K F H (vs.drop n) (ds.drop n)
  | _, _, 0, r => r
  | _, _, _ + 1, .nil => .nil
  | _, _, n + 1, .cons _ r => Reps.drop n r
theorem Reps.set (h : Rep K F H v d) : ∀ {vs : List V} {ds : List PyData} (i : Nat), Reps K F H vs ds → Reps K F H (vs.set i v) (ds.set i d)
  | _, _, _, .nil => .nil
  | _, _, 0, .cons _ r => .cons h r
  | _, _, i + 1, .cons g r => .cons g (Reps.set h i r)
theorem Reps.ints (ns : List Int) : Reps K F H (ns.map V.int) (ns.map PyData.int) := by
  induction ns with
  | nil => exact .nil
  | cons n ns ih => exact .cons (.int n) ih
theorem Reps.of_ints : ∀ {vs : List V} {ns : List Int}, Reps K F H vs (ns.map PyData.int) → vs = ns.map V.int
  | _, [], .nil => rfl
  | _, n :: ns, .cons h r => by
    cases h
    rw [Reps.of_ints r]
    rfl
theorem Reps.nil_iff (r : Reps K F H vs ds) : vs = [] ↔ ds = [] := by
  cases r with
  | nil => simp
  | cons => simp
end

/-! ### allocation alone; tables of code objects may grow -/
/-- the tables of the defs with lambdas, and the lambdas' names -/
class Tb where
  T : List (Addr × Str)
/-- where no def makes a lambda -/
instance (priority := low) tb0 : Tb := ⟨[]⟩
def NT (o : HO) : Prop := ∀ ps, o ≠ .tbl ps
theorem nt_lst {xs : List V} : NT (.lst xs) := fun _ z => nomatch z
theorem nt_tup {xs : List V} : NT (.tup xs) := fun _ z => nomatch z
theorem nt_frz {o : Obj} {u : HO} : NT (.frz o u) := fun _ z => nomatch z
/-- what was at a is there still, if it is no table -/
def Stay (H' : Hp) (a : Addr) (o : HO) : Prop := ∃ o', H' a = some o' ∧ (o' = o ∨ ((∃ ps, o = .tbl ps) ∧ ∃ ps, o' = .tbl ps))
section
variable {H H' : Hp} {a : Addr} {o u : HO}
theorem Stay.of (h : H a = some o) : Stay H a o := ⟨o, h, .inl rfl⟩
theorem Stay.get (s : Stay H a o) (nt : NT o) : H a = some o := by
  obtain ⟨o', e, q | ⟨⟨ps, q⟩, _⟩⟩ := s
  · rw [e, q]
  · exact absurd q (nt ps)
theorem Stay.get' (s : Stay H a o) (e : H a = some u) (nt : NT u) : H a = some o := by
  obtain ⟨o', e', q | ⟨_, ps, q⟩⟩ := s
  · rw [e', q]
  · rw [e] at e'; cases e'; exact absurd q (nt ps)
theorem Stay.ne (s : Stay H a o) : H a ≠ none := by
  obtain ⟨o', e', _⟩ := s
  rw [e']; exact fun z => nomatch z
theorem Stay.trans (s : Stay H a o) (k : ∀ o', H a = some o' → Stay H' a o') : Stay H' a o := by
  obtain ⟨o', e', q⟩ := s
  obtain ⟨o2, e2, q2⟩ := k o' e'
  rcases q with q | ⟨q1, q⟩
  · exact ⟨o2, e2, by rw [← q]; exact q2⟩
  · rcases q2 with q2 | ⟨_, q2⟩
    · exact ⟨o2, e2, .inr ⟨q1, by rw [q2]; exact q⟩⟩
    · exact ⟨o2, e2, .inr ⟨q1, q2⟩⟩
end
variable [Tb]
structure Dom (F : Fz) (H : Hp) : Prop where
  ne : ∀ a, F a → ∃ o, H a = some o ∧ NT o
  tb : LamX.Tabs Tb.T H
structure New (F : Fz) (H : Hp) (F' : Fz) (H' : Hp) : Prop where
  f1 : ∀ a, F a → F' a
  f2 : ∀ a, F' a → F a ∨ H a = none
  f3 : ∀ a o, H a = some o → Stay H' a o
  f4 : Dom F' H'
section
variable {F : Fz} {H : Hp} {a p : Addr} {o : HO}
theorem Dom.nn (d : Dom F H) (f : F a) : H a ≠ none := by
  obtain ⟨o, e, _⟩ := d.ne a f
  rw [e]; exact fun z => nomatch z
theorem Dom.nt (d : Dom F H) (f : F a) (e : H a = some o) : NT o := by
  obtain ⟨o', e', n⟩ := d.ne a f
  rw [e] at e'; cases e'; exact n
theorem Dom.raw (d : Dom F H) (hp : H p = none) : Dom F (upd H p o) := ⟨fun a z => by
    have e : a ≠ p := fun q => d.nn z (by rw [q]; exact hp)
    rw [upd_ne e]; exact d.ne a z, d.tb.ext fun b u z => by rw [upd_ne (ne_of_none z hp)]; exact z⟩
theorem Dom.add (d : Dom F H) (hp : H p = none) (nt : NT o) : Dom (fun a => F a ∨ a = p) (upd H p o) := ⟨fun a z => by
    by_cases e : a = p
    · rw [e, upd_same]; exact ⟨o, rfl, nt⟩
    · rw [upd_ne e]; exact d.ne a (z.resolve_right e), (d.raw hp).tb⟩
/-- an object that is kept changes its contents -/
theorem Dom.set {xs : List V} (d : Dom F H) (hp : H p = some (.lst xs)) (nt : NT o) : Dom F (upd H p o) := ⟨fun a z => by
    by_cases e : a = p
    · rw [e, upd_same]; exact ⟨o, rfl, nt⟩
    · rw [upd_ne e]; exact d.ne a z, fun q hq => by
    obtain ⟨ps, h1, h2, h3⟩ := d.tb q hq
    have ne : ∀ b u, H b = some u → (∀ xs, u ≠ .lst xs) → upd H p o b = some u := fun b u e n => by
      rw [upd_ne fun z => ?_]; exact e
      rw [z, hp] at e; cases e; exact n _ rfl
    refine ⟨ps, ne _ _ h1 (fun _ z => nomatch z), h2, fun pos cv hc => ?_⟩
    obtain ⟨c, e1, e2⟩ := h3 pos cv hc
    exact ⟨c, e1, ne _ _ e2 (fun _ z => nomatch z)⟩⟩
theorem Dom.sub {F' : Fz} (d : Dom F H) (s : ∀ a, F' a → F a) : Dom F' H := ⟨fun a z => d.ne a (s a z), d.tb⟩
/-- a list is frozen -/
theorem Dom.frz {xs : List V} (d : Dom F H) (hp : H p = some (.lst xs)) : Dom (fun a => F a ∨ a = p) H := ⟨fun a z => by
    rcases z with z | z
    · exact d.ne a z
    · rw [z]; exact ⟨_, hp, nt_lst⟩, d.tb⟩
end
section
variable {K : PySem.W.Frag} {F F' F'' : Fz} {H H' H'' : Hp} {v : V} {d : PyData} {vs : List V} {ds : List PyData} {a : Addr}
theorem New.refl (h : Dom F H) : New F H F H := ⟨fun _ z => z, fun _ z => .inl z, fun _ _ z => .of z, h⟩
theorem New.nn (n : New F H F' H') (h : H' a = none) : H a = none := by
  cases q : H a with
  | none => rfl
  | some o => exact absurd h (n.f3 a o q).ne
theorem New.trans (n : New F H F' H') (m : New F' H' F'' H'') : New F H F'' H'' :=
  ⟨fun a z => m.f1 a (n.f1 a z), fun a z => (m.f2 a z).elim (n.f2 a) fun q => .inr (n.nn q), fun a o z => (n.f3 a o z).trans fun o' z' => m.f3 a o' z', m.f4⟩
theorem New.keepF (n : New F H F' H') : ∀ a o, F a → H a = some o → H' a = some o := fun a o f z => by
  obtain ⟨u, e, nt⟩ := n.f4.ne a (n.f1 a f)
  exact (n.f3 a o z).get' e nt
theorem New.rep (n : New F H F' H') (r : Rep K F H v d) : Rep K F' H' v d := r.mono n.f1 n.keepF
theorem New.reps (n : New F H F' H') (r : Reps K F H vs ds) : Reps K F' H' vs ds := r.mono n.f1 n.keepF
/-- a new object, frozen at once -/
theorem New.add {p : Addr} {o : HO} (h : Dom F H) (hp : H p = none) (nt : NT o := by exact fun _ z => nomatch z) : New F H (fun a => F a ∨ a = p) (upd H p o) :=
  ⟨fun _ z => .inl z, fun a z => z.imp id fun e => by rw [e]; exact hp, fun a u z => .of (by rw [upd_ne (ne_of_none z hp)]; exact z), h.add hp nt⟩
/-- a new object, not frozen -/
theorem New.raw {p : Addr} {o : HO} (h : Dom F H) (hp : H p = none) : New F H F (upd H p o) :=
  ⟨fun _ z => z, fun a z => .inl z, fun a u z => .of (by rw [upd_ne (ne_of_none z hp)]; exact z), h.raw hp⟩
end

/-! ### the frame as trees -/
inductive Sl where
  | no
  | va (d : PyData)
  /-- a list that this frame alone holds; p: it is the first parameter's -/
  | ow (p : Bool) (ds : List PyData)
abbrev En := List Sl
structure Bas where
  H0 : Hp
  F0 : Fz
  mp : Option Addr
def Own (env : En) (σ : L2.St) (a : Addr) : Prop := ∃ (i : Nat) (p : Bool) (ds : List PyData), env[i]? = some (.ow p ds) ∧ σ[i]? = some (some (.ref a))
structure Rel (K : PySem.W.Frag) (B : Bas) (F : Fz) (env : En) (σ : L2.St) (H : Hp) : Prop where
  val : ∀ (i : Nat) (d : PyData), env[i]? = some (.va d) → ∃ v, σ[i]? = some (some v) ∧ Rep K F H v d
  own : ∀ (i : Nat) (p : Bool) (ds : List PyData), env[i]? = some (.ow p ds) → ∃ a xs, σ[i]? = some (some (.ref a)) ∧ H a = some (.lst xs) ∧ ¬ F a ∧ Reps K F H xs ds ∧ (if p then B.mp = some a else B.H0 a = none)
  inj : ∀ (i j : Nat) (p q : Bool) (ds es : List PyData) (a : Addr), env[i]? = some (.ow p ds) → env[j]? = some (.ow q es) → σ[i]? = some (some (.ref a)) → σ[j]? = some (some (.ref a)) → i = j
  dom : Dom F H
  old : ∀ a o, B.H0 a = some o → B.mp ≠ some a → Stay H a o
  new : ∀ a, F a → B.F0 a ∨ B.H0 a = none
  sub : ∀ a, B.F0 a → F a
  mpd : ∀ a, B.mp = some a → H a ≠ none ∧ ¬ F a ∧ B.H0 a ≠ none
  len : σ.length = env.length
structure Ext (σ : L2.St) (env : En) (F : Fz) (H : Hp) (env' : En) (F' : Fz) (H' : Hp) : Prop where
  f1 : ∀ a, F a → F' a
  f2 : ∀ a, F' a → F a ∨ H a = none ∨ Own env σ a
  f3 : ∀ a o, H a = some o → ¬ Own env σ a → Stay H' a o
  f4 : ∀ a, Own env' σ a → Own env σ a
  f5 : ∀ a, H' a = none → H a = none
section
variable {K : PySem.W.Frag} {B : Bas} {F F' F'' : Fz} {H H' H'' : Hp} {env env' env'' : En} {σ : L2.St} {v : V} {d : PyData} {vs : List V} {ds : List PyData} {a : Addr}
theorem Rel.noF (R : Rel K B F env σ H) (h : Own env σ a) : ¬ F a := by
  obtain ⟨i, p, ds, e1, e2⟩ := h
  obtain ⟨b, xs, s1, _, nf, _⟩ := R.own i p ds e1
  rw [e2] at s1
  cases s1
  exact nf
theorem Rel.ownH (R : Rel K B F env σ H) (h : Own env σ a) : ∃ xs, H a = some (.lst xs) := by
  obtain ⟨i, p, ds, e1, e2⟩ := h
  obtain ⟨b, xs, s1, hh, _⟩ := R.own i p ds e1
  rw [e2] at s1
  cases s1
  exact ⟨xs, hh⟩
theorem Rel.free0 (R : Rel K B F env σ H) (h : H a = none) : B.H0 a = none := by
  cases q : B.H0 a with
  | none => rfl
  | some o =>
    by_cases e : B.mp = some a
    · exact absurd h (R.mpd a e).1
    · exact absurd h (R.old a o q e).ne
theorem Rel.free_own (R : Rel K B F env σ H) (h : H a = none) : ¬ Own env σ a := fun o => by
  obtain ⟨xs, e⟩ := R.ownH o
  rw [h] at e; cases e
theorem Rel.freeF (R : Rel K B F env σ H) (h : H a = none) : ¬ F a := fun o => R.dom.nn o h
theorem Rel.alloc (R : Rel K B F env σ H) (n : New F H F' H') : Rel K B F' env σ H' where
  val := fun i d e => let ⟨v, e1, r⟩ := R.val i d e; ⟨v, e1, n.rep r⟩
  own := fun i p ds e => by
    obtain ⟨a, xs, s1, hh, nf, r, z⟩ := R.own i p ds e
    refine ⟨a, xs, s1, (n.f3 _ _ hh).get nt_lst, fun q => ?_, n.reps r, z⟩
    rcases n.f2 a q with q | q
    · exact nf q
    · rw [hh] at q; cases q
  inj := R.inj
  dom := n.f4
  old := fun a o e m => (R.old a o e m).trans fun o' z => n.f3 _ _ z
  new := fun a f => by
    rcases n.f2 a f with q | q
    · exact R.new a q
    · exact .inr (R.free0 q)
  sub := fun a f => n.f1 a (R.sub a f)
  mpd := fun a e => by
    obtain ⟨h1, h2, h3⟩ := R.mpd a e
    refine ⟨fun q => h1 (n.nn q), fun q => ?_, h3⟩
    rcases n.f2 a q with q | q
    · exact h2 q
    · exact h1 q
  len := R.len
theorem Ext.refl : Ext σ env F H env F H := ⟨fun _ z => z, fun _ z => .inl z, fun _ _ z _ => .of z, fun _ z => z, fun _ z => z⟩
theorem Ext.of_new (n : New F H F' H') : Ext σ env F H env F' H' := ⟨n.f1, fun a z => (n.f2 a z).imp id .inl, fun a o z _ => n.f3 a o z, fun _ z => z, fun _ z => n.nn z⟩
theorem Ext.trans (x : Ext σ env F H env' F' H') (y : Ext σ env' F' H' env'' F'' H'') : Ext σ env F H env'' F'' H'' where
  f1 := fun a z => y.f1 a (x.f1 a z)
  f2 := fun a z => by
    rcases y.f2 a z with q | q | q
    · exact x.f2 a q
    · exact .inr (.inl (x.f5 a q))
    · exact .inr (.inr (x.f4 a q))
  f3 := fun a o z n => (x.f3 a o z n).trans fun o' w => y.f3 a o' w fun q => n (x.f4 a q)
  f4 := fun a z => x.f4 a (y.f4 a z)
  f5 := fun a z => x.f5 a (y.f5 a z)
theorem Ext.keepF (x : Ext σ env F H env' F' H') (R : Rel K B F env σ H) : ∀ a o, F a → H a = some o → H' a = some o := fun a o f e => (x.f3 a o e fun q => R.noF q f).get (R.dom.nt f e)
theorem Ext.rep (x : Ext σ env F H env' F' H') (R : Rel K B F env σ H) (r : Rep K F H v d) : Rep K F' H' v d := r.mono x.f1 (x.keepF R)
theorem Ext.reps (x : Ext σ env F H env' F' H') (R : Rel K B F env σ H) (r : Reps K F H vs ds) : Reps K F' H' vs ds := r.mono x.f1 (x.keepF R)
end

/-! ### what a reading is, by a function on the frame -/
abbrev EF := En → Option (PyData × En)
abbrev LF := En → Option (List PyData × En)
abbrev TF := En → Option (Bool × En)
def tE (K : PySem.W.Frag) (f : EF) : TE := fun σ H Q => ∃ B F env d env', Rel K B F env σ H ∧ f env = some (d, env') ∧
  ∀ v F' H', Ext σ env F H env' F' H' → Rel K B F' env' σ H' → Rep K F' H' v d → Q v H'
/-- a new list, that nobody holds -/
def tL (K : PySem.W.Frag) (f : LF) : TE := fun σ H Q => ∃ B F env ds env', Rel K B F env σ H ∧ f env = some (ds, env') ∧
  ∀ a xs F' H', Ext σ env F H env' F' H' → Rel K B F' env' σ H' → H a = none → H' a = some (.lst xs) → ¬ F' a → Reps K F' H' xs ds → Q (.ref a) H'
def tA (K : PySem.W.Frag) (f : LF) : TA := fun σ H Q => ∃ B F env ds env', Rel K B F env σ H ∧ f env = some (ds, env') ∧
  ∀ vs F' H', Ext σ env F H env' F' H' → Rel K B F' env' σ H' → Reps K F' H' vs ds → Q vs H'
def tT (K : PySem.W.Frag) (f : TF) : TT := fun σ H Q => ∃ B F env b env', Rel K B F env σ H ∧ f env = some (b, env') ∧
  ∀ F' H', Ext σ env F H env' F' H' → Rel K B F' env' σ H' → Q b H'
abbrev SE (X : Cx) (e : Expr) (f : EF) : Prop := PE X e (tE X.K f)
abbrev SL (X : Cx) (e : Expr) (f : LF) : Prop := PE X e (tL X.K f)
abbrev SA (X : Cx) (es : List Expr) (f : LF) : Prop := PA X es (tA X.K f)
abbrev ST (X : Cx) (e : Expr) (f : TF) : Prop := PT X e (tT X.K f)

theorem PE.imp {X : Cx} {e : Expr} {t t' : TE} (h : PE X e t) (m : ∀ σ H Q, t' σ H Q → t σ H Q) : PE X e t' := ⟨fun pins s σ H Q I q => h.run pins s σ H Q I (m σ H Q q)⟩
theorem PT.imp {X : Cx} {e : Expr} {t t' : TT} (h : PT X e t) (m : ∀ σ H Q, t' σ H Q → t σ H Q) : PT X e t' := ⟨fun pins s σ H Q I q => h.run pins s σ H Q I (m σ H Q q)⟩
theorem PW.imp {X : Cx} {e : Expr} {t t' : TT} (h : PW X e t) (m : ∀ σ H Q, t' σ H Q → t σ H Q) : PW X e t' := ⟨fun wh pins s σ H Q I q => h.run wh pins s σ H Q I (m σ H Q q)⟩
theorem PA.imp {X : Cx} {es : List Expr} {t t' : TA} (h : PA X es t) (m : ∀ σ H Q, t' σ H Q → t σ H Q) : PA X es t' := ⟨fun pos pins s σ H Q I q => h.run pos pins s σ H Q I (m σ H Q q)⟩
theorem PS.imp {X : Cx} {e : Stmt} {t t' : TS} (h : PS X e t) (m : ∀ D σ H, t' D σ H → t D σ H) : PS X e t' := ⟨fun pins s σ H D I q => h.run pins s σ H D I (m D σ H q)⟩
theorem PSs.imp {X : Cx} {e : List Stmt} {t t' : TS} (h : PSs X e t) (m : ∀ D σ H, t' D σ H → t D σ H) : PSs X e t' := ⟨fun pins s σ H D I q => h.run pins s σ H D I (m D σ H q)⟩

/-! ### expressions -/
@[simp] def cst (d : PyData) : EF := fun env => some (d, env)
def vr (i : Nat) : EF := fun env => match env[i]? with
  | some (.va d) => some (d, env)
  | some (.ow false ds) => some (.list ds, env.set i (.va (.list ds)))
  | _ => none
section
variable {X : Cx} {a b c e : Expr} {es : List Expr} {fa fb fe : EF} {fs : LF} {pos : Pos}
theorem s_int {i j} : SE X (.Constant (.int i) j pos) (cst (.int i)) := PE.imp pe_int fun σ H Q ⟨B, F, env, d, env', R, e, k⟩ => by
  cases e
  exact k _ F H .refl R (.int i)
theorem s_bool {i j} : SE X (.Constant (.bool i) j pos) (cst (.bool i)) := PE.imp pe_bl fun σ H Q ⟨B, F, env, d, env', R, e, k⟩ => by
  cases e
  exact k _ F H .refl R (.bool i)
theorem s_none {j} : SE X (.Constant .none j pos) (cst .none) := PE.imp pe_non fun σ H Q ⟨B, F, env, d, env', R, e, k⟩ => by
  cases e
  exact k _ F H .refl R .non
theorem s_str {x j} : SE X (.Constant (.str x) j pos) (cst (.str x)) := PE.imp pe_str fun σ H Q ⟨B, F, env, d, env', R, e, k⟩ => by
  cases e
  exact k _ F H .refl R (.str x)

/-- an owned list is given up -/
theorem Rel.freeze {K : PySem.W.Frag} {B : Bas} {F : Fz} {env : En} {σ : L2.St} {H : Hp} {i : Nat} {ds : List PyData} {a : Addr} {xs : List V} (R : Rel K B F env σ H) (e : env[i]? = some (.ow false ds)) (s : σ[i]? = some (some (.ref a)))
    (hh : H a = some (.lst xs)) (r : Reps K F H xs ds) (z : B.H0 a = none) :
    Rel K B (fun b => F b ∨ b = a) (env.set i (.va (.list ds))) σ H ∧ Ext σ env F H (env.set i (.va (.list ds))) (fun b => F b ∨ b = a) H ∧ Rep K (fun b => F b ∨ b = a) H (.ref a) (.list ds) := by
  have m : ∀ {v d}, Rep K F H v d → Rep K (fun b => F b ∨ b = a) H v d := fun r => r.mono (fun _ z => .inl z) fun _ _ _ z => z
  have ms : ∀ {v d}, Reps K F H v d → Reps K (fun b => F b ∨ b = a) H v d := fun r => r.mono (fun _ z => .inl z) fun _ _ _ z => z
  have rep : Rep K (fun b => F b ∨ b = a) H (.ref a) (.list ds) := .lst ⟨.inr rfl, hh⟩ (ms r)
  have hi : i < env.length := (List.getElem?_eq_some_iff.mp e).1
  have bk : ∀ {j p es}, (env.set i (.va (.list ds)))[j]? = some (.ow p es) → j ≠ i ∧ env[j]? = some (.ow p es) := fun {j p es} q => by
    by_cases hj : i = j
    · subst hj
      rw [List.getElem?_set_self hi] at q; cases q
    · rw [List.getElem?_set_ne hj] at q
      exact ⟨fun z => hj z.symm, q⟩
  refine ⟨⟨fun j d q => ?_, fun j p es q => ?_, fun j k p q ds' es' b e1 e2 => R.inj j k p q ds' es' b (bk e1).2 (bk e2).2, R.dom.frz hh, R.old, fun b q => ?_, fun b q => .inl (R.sub b q), fun b q => ⟨(R.mpd b q).1, fun w => ?_, (R.mpd b q).2.2⟩, by rw [List.length_set]; exact R.len⟩,
    ⟨fun _ z => .inl z, fun b q => q.imp id fun w => .inr ⟨i, false, ds, e, by rw [w]; exact s⟩, fun _ _ z _ => .of z, fun b ⟨j, p, es, q1, q2⟩ => ⟨j, p, es, (bk q1).2, q2⟩, fun _ z => z⟩, rep⟩
  · by_cases hj : i = j
    · subst hj
      rw [List.getElem?_set_self hi] at q
      cases q
      exact ⟨_, s, rep⟩
    · rw [List.getElem?_set_ne hj] at q
      obtain ⟨v, h1, h2⟩ := R.val j d q
      exact ⟨v, h1, m h2⟩
  · obtain ⟨hj, q⟩ := bk q
    obtain ⟨b, ys, s1, h1, h2, h3, h4⟩ := R.own j p es q
    refine ⟨b, ys, s1, h1, fun w => ?_, ms h3, h4⟩
    rcases w with w | w
    · exact h2 w
    · subst w
      exact hj (R.inj j i p false es ds b q e s1 s)
  · rcases q with q | q
    · exact R.new b q
    · rw [q]; exact .inr z
  · rcases w with w | w
    · exact (R.mpd b q).2.1 w
    · subst w
      exact (R.mpd b q).2.2 z
theorem s_var {i : Nat} {x : Str} (hN : X.N[i]? = some x := by rfl) (hv : Vis X.env.scope x := by first | exact Or.inl rfl | exact Or.inr (Or.inl rfl) | exact Or.inr (Or.inr rfl)) (hd : (x == ("__debug__" : Str)) = false := by decide)
    (hcd : (x == ("__classdict__" : Str)) = false := by decide) : SE X (.Name x pos) (vr i) := PE.imp (pe_var hN hv hd hcd) fun σ H Q ⟨B, F, env, d, env', R, e, k⟩ => by
  unfold vr at e
  split at e
  · rename_i d' q
    cases e
    obtain ⟨v, h1, h2⟩ := R.val i _ q
    exact ⟨v, h1, k v F H .refl R h2⟩
  · rename_i ds q
    cases e
    obtain ⟨a, xs, h1, h2, h3, h4, h5⟩ := R.own i _ _ q
    obtain ⟨R', E', r'⟩ := R.freeze q h1 h2 h4 h5
    exact ⟨_, h1, k _ _ H E' R' r'⟩
  · cases e
end

/-! ### operators, built-ins -/
@[simp] def bin (o : PyData → PyData → Option PyData) (fa fb : EF) : EF := fun env => match fa env with
  | some (x, e1) => match fb e1 with
    | some (y, e2) => match o x y with
      | some z => some (z, e2)
      | none => none
    | none => none
  | none => none
@[simp] def binL (o : PyData → PyData → Option (List PyData)) (fa fb : EF) : LF := fun env => match fa env with
  | some (x, e1) => match fb e1 with
    | some (y, e2) => match o x y with
      | some z => some (z, e2)
      | none => none
    | none => none
  | none => none
@[simp] def una (o : PyData → Option PyData) (fa : EF) : EF := fun env => match fa env with
  | some (x, e1) => match o x with
    | some z => some (z, e1)
    | none => none
  | none => none
@[simp] def cal (o : List PyData → Option PyData) (fs : LF) : EF := fun env => match fs env with
  | some (x, e1) => match o x with
    | some z => some (z, e1)
    | none => none
  | none => none
@[simp] def calL (o : List PyData → Option (List PyData)) (fs : LF) : LF := fun env => match fs env with
  | some (x, e1) => match o x with
    | some z => some (z, e1)
    | none => none
  | none => none
@[simp] def frz (fl : LF) : EF := fun env => match fl env with
  | some (ds, e1) => some (.list ds, e1)
  | none => none
@[simp] def tst (fe : EF) : TF := fun env => match fe env with
  | some (.bool b, e1) => some (b, e1)
  | _ => none
@[simp] def val (ft : TF) : EF := fun env => match ft env with
  | some (b, e1) => some (.bool b, e1)
  | none => none
@[simp] def aNil : LF := fun env => some ([], env)
@[simp] def aCons (fe : EF) (fs : LF) : LF := fun env => match fe env with
  | some (d, e1) => match fs e1 with
    | some (ds, e2) => some (d :: ds, e2)
    | none => none
  | none => none
@[simp] def tup (fs : LF) : EF := fun env => match fs env with
  | some (ds, e1) => if ds.length ≤ sizeLine then some (.tuple ds, e1) else none
  | none => none
@[simp] def lst (fs : LF) : LF := fun env => match fs env with
  | some (ds, e1) => if ds.length ≤ sizeLine then some (ds, e1) else none
  | none => none

def OpOk (K : PySem.W.Frag) (r : R2) (o : PyData → PyData → Option PyData) : Prop := ∀ (F : Fz) (H : Hp) (x y : V) (dx dy dz : PyData) (Q : VK), Dom F H → Rep K F H x dx → Rep K F H y dy → o dx dy = some dz →
  (∀ v F' H', New F H F' H' → Rep K F' H' v dz → Q v H') → r x y H Q
def OpOkL (K : PySem.W.Frag) (r : R2) (o : PyData → PyData → Option (List PyData)) : Prop := ∀ (F : Fz) (H : Hp) (x y : V) (dx dy : PyData) (dz : List PyData) (Q : VK), Dom F H → Rep K F H x dx → Rep K F H y dy → o dx dy = some dz →
  (∀ a xs F' H', New F H F' H' → H a = none → H' a = some (.lst xs) → ¬ F' a → Reps K F' H' xs dz → Q (.ref a) H') → r x y H Q
def UnOk (K : PySem.W.Frag) (r : V → Hp → VK → Prop) (o : PyData → Option PyData) : Prop := ∀ (F : Fz) (H : Hp) (x : V) (dx dz : PyData) (Q : VK), Dom F H → Rep K F H x dx → o dx = some dz →
  (∀ v F' H', New F H F' H' → Rep K F' H' v dz → Q v H') → r x H Q
def ClOk (K : PySem.W.Frag) (r : List V → Hp → VK → Prop) (o : List PyData → Option PyData) : Prop := ∀ (F : Fz) (H : Hp) (xs : List V) (ds : List PyData) (dz : PyData) (Q : VK), Dom F H → Reps K F H xs ds → o ds = some dz →
  (∀ v F' H', New F H F' H' → Rep K F' H' v dz → Q v H') → r xs H Q
def ClOkL (K : PySem.W.Frag) (r : List V → Hp → VK → Prop) (o : List PyData → Option (List PyData)) : Prop := ∀ (F : Fz) (H : Hp) (xs : List V) (ds dz : List PyData) (Q : VK), Dom F H → Reps K F H xs ds → o ds = some dz →
  (∀ a ys F' H', New F H F' H' → H a = none → H' a = some (.lst ys) → ¬ F' a → Reps K F' H' ys dz → Q (.ref a) H') → r xs H Q

section
variable {K : PySem.W.Frag} {a b c e : Expr} {es : List Expr} {fa fb fc fe : EF} {fs fl : LF} {ft fu : TF} {pos : Pos} {r : R2} {o : PyData → PyData → Option PyData}
theorem bin_some {o : PyData → PyData → Option PyData} {env env' : En} {z : PyData} (h : bin o fa fb env = some (z, env')) : ∃ x e1 y, fa env = some (x, e1) ∧ fb e1 = some (y, env') ∧ o x y = some z := by
  unfold bin at h
  split at h
  · rename_i x e1 h1
    split at h
    · rename_i y e2 h2
      split at h
      · rename_i z' h3
        cases h
        exact ⟨x, e1, y, h1, h2, h3⟩
      · cases h
    · cases h
  · cases h
theorem binL_some {o : PyData → PyData → Option (List PyData)} {env env' : En} {z : List PyData} (h : binL o fa fb env = some (z, env')) : ∃ x e1 y, fa env = some (x, e1) ∧ fb e1 = some (y, env') ∧ o x y = some z := by
  unfold binL at h
  split at h
  · rename_i x e1 h1
    split at h
    · rename_i y e2 h2
      split at h
      · rename_i z' h3
        cases h
        exact ⟨x, e1, y, h1, h2, h3⟩
      · cases h
    · cases h
  · cases h
theorem una_some {o : PyData → Option PyData} {env env' : En} {z : PyData} (h : una o fa env = some (z, env')) : ∃ x, fa env = some (x, env') ∧ o x = some z := by
  unfold una at h
  split at h
  · rename_i x e1 h1
    split at h
    · rename_i z' h3
      cases h
      exact ⟨x, h1, h3⟩
    · cases h
  · cases h
theorem cal_some {o : List PyData → Option PyData} {env env' : En} {z : PyData} (h : cal o fs env = some (z, env')) : ∃ x, fs env = some (x, env') ∧ o x = some z := by
  unfold cal at h
  split at h
  · rename_i x e1 h1
    split at h
    · rename_i z' h3
      cases h
      exact ⟨x, h1, h3⟩
    · cases h
  · cases h
theorem calL_some {o : List PyData → Option (List PyData)} {env env' : En} {z : List PyData} (h : calL o fs env = some (z, env')) : ∃ x, fs env = some (x, env') ∧ o x = some z := by
  unfold calL at h
  split at h
  · rename_i x e1 h1
    split at h
    · rename_i z' h3
      cases h
      exact ⟨x, h1, h3⟩
    · cases h
  · cases h

/-- the reading of two operands -/
theorem tOp_of {r : R2} {o : PyData → PyData → Option PyData} (ok : OpOk K r o) {σ : L2.St} {H : Hp} {Q : VK} (h : tE K (bin o fa fb) σ H Q) : tOp r (tE K fa) (tE K fb) σ H Q := by
  obtain ⟨B, F, env, d, env', R, e, k⟩ := h
  obtain ⟨x, e1, y, h1, h2, h3⟩ := bin_some e
  refine ⟨B, F, env, x, e1, R, h1, fun v F1 H1 E1 R1 r1 => ⟨B, F1, e1, y, env', R1, h2, fun w F2 H2 E2 R2 r2 => ?_⟩⟩
  exact ok F2 H2 v w x y d Q R2.dom (E2.rep R1 r1) r2 h3 fun z F3 H3 N rz => k z F3 H3 ((E1.trans E2).trans (.of_new N)) (R2.alloc N) rz
theorem tOpL_of {r : R2} {o : PyData → PyData → Option (List PyData)} (ok : OpOkL K r o) {σ : L2.St} {H : Hp} {Q : VK} (h : tL K (binL o fa fb) σ H Q) : tOp r (tE K fa) (tE K fb) σ H Q := by
  obtain ⟨B, F, env, d, env', R, e, k⟩ := h
  obtain ⟨x, e1, y, h1, h2, h3⟩ := binL_some e
  refine ⟨B, F, env, x, e1, R, h1, fun v F1 H1 E1 R1 r1 => ⟨B, F1, e1, y, env', R1, h2, fun w F2 H2 E2 R2 r2 => ?_⟩⟩
  exact ok F2 H2 v w x y d Q R2.dom (E2.rep R1 r1) r2 h3 fun z xs F3 H3 N hz h4 h5 rz => k z xs F3 H3 ((E1.trans E2).trans (.of_new N)) (R2.alloc N) ((E1.trans E2).f5 _ hz) h4 h5 rz
theorem tUn_of {r : V → Hp → VK → Prop} {o : PyData → Option PyData} (ok : UnOk K r o) {σ : L2.St} {H : Hp} {Q : VK} (h : tE K (una o fa) σ H Q) : tUn r (tE K fa) σ H Q := by
  obtain ⟨B, F, env, d, env', R, e, k⟩ := h
  obtain ⟨x, h1, h3⟩ := una_some e
  refine ⟨B, F, env, x, env', R, h1, fun v F1 H1 E1 R1 r1 => ?_⟩
  exact ok F1 H1 v x d Q R1.dom r1 h3 fun z F3 H3 N rz => k z F3 H3 (E1.trans (.of_new N)) (R1.alloc N) rz
theorem tCB_of {r : List V → Hp → VK → Prop} {o : List PyData → Option PyData} (ok : ClOk K r o) {σ : L2.St} {H : Hp} {Q : VK} (h : tE K (cal o fs) σ H Q) : tCB r (tA K fs) σ H Q := by
  obtain ⟨B, F, env, d, env', R, e, k⟩ := h
  obtain ⟨x, h1, h3⟩ := cal_some e
  refine ⟨B, F, env, x, env', R, h1, fun v F1 H1 E1 R1 r1 => ?_⟩
  exact ok F1 H1 v x d Q R1.dom r1 h3 fun z F3 H3 N rz => k z F3 H3 (E1.trans (.of_new N)) (R1.alloc N) rz
theorem tCBL_of {r : List V → Hp → VK → Prop} {o : List PyData → Option (List PyData)} (ok : ClOkL K r o) {σ : L2.St} {H : Hp} {Q : VK} (h : tL K (calL o fs) σ H Q) : tCB r (tA K fs) σ H Q := by
  obtain ⟨B, F, env, d, env', R, e, k⟩ := h
  obtain ⟨x, h1, h3⟩ := calL_some e
  refine ⟨B, F, env, x, env', R, h1, fun v F1 H1 E1 R1 r1 => ?_⟩
  exact ok F1 H1 v x d Q R1.dom r1 h3 fun z xs F3 H3 N hz h4 h5 rz => k z xs F3 H3 (E1.trans (.of_new N)) (R1.alloc N) (E1.f5 _ hz) h4 h5 rz
end
section
variable {X : Cx} {a b c e : Expr} {es : List Expr} {fa fb fc fe : EF} {fs fl : LF} {ft fu : TF} {pos : Pos}
theorem s_op {op : Operator} {r : R2} {o : PyData → PyData → Option PyData} (hr : OpR X (binaryOp op) r) (ok : OpOk X.K r o) (ha : SE X a fa) (hb : SE X b fb) : SE X (.BinOp a op b pos) (bin o fa fb) := PE.imp (pe_op hr ha hb) fun _ _ _ h => tOp_of ok h
theorem s_opL {op : Operator} {r : R2} {o : PyData → PyData → Option (List PyData)} (hr : OpR X (binaryOp op) r) (ok : OpOkL X.K r o) (ha : SE X a fa) (hb : SE X b fb) : SL X (.BinOp a op b pos) (binL o fa fb) := PE.imp (pe_op hr ha hb) fun _ _ _ h => tOpL_of ok h
theorem s_cmp {op : CmpOp} {r : R2} {o : PyData → PyData → Option PyData} (hr : OpR X (compareOp op) r) (ok : OpOk X.K r o) (ha : SE X a fa) (hb : SE X b fb) (hm : behindInMarks op b = false := by first | exact nomark _ | rfl | with_unfolding_all rfl) : SE X (.Compare a [op] [b] pos) (bin o fa fb) :=
  PE.imp (pe_cmpR hr ha hb hm) fun _ _ _ h => tOp_of ok h
theorem s_ix {r : R2} {o : PyData → PyData → Option PyData} (hr : IxR X r) (ok : OpOk X.K r o) (ha : SE X a fa) (hb : SE X b fb) (hs : PlainIx b := by exact fun _ _ => rfl) : SE X (.Subscript a b pos) (bin o fa fb) := PE.imp (pe_ix hr ha hb hs) fun _ _ _ h => tOp_of ok h
theorem s_un {op : UnaryOp} {r : V → Hp → VK → Prop} {o : PyData → Option PyData} (hr : UnR X (unaryOp op) r) (ok : UnOk X.K r o) (ha : SE X a fa) : SE X (.UnaryOp op a pos) (una o fa) := PE.imp (pe_un hr ha) fun _ _ _ h => tUn_of ok h
/-- a fresh list, frozen -/
theorem s_frz (h : SL X e fl) : SE X e (frz fl) := PE.imp h fun σ H Q ⟨B, F, env, d, env', R, e, k⟩ => by
  unfold frz at e
  split at e
  · rename_i ds e1 h1
    cases e
    refine ⟨B, F, env, ds, env', R, h1, fun a xs F' H' E' R' hn hs nf r => ?_⟩
    have no : ∀ b, Own env' σ b → b ≠ a := fun b o q => by
      subst q
      obtain ⟨ys, z⟩ := R.ownH (E'.f4 _ o)
      rw [hn] at z; cases z
    refine k (.ref a) (fun b => F' b ∨ b = a) H' ⟨fun b z => .inl (E'.f1 b z), fun b z => ?_, E'.f3, E'.f4, E'.f5⟩ ⟨fun i d q => ?_, fun i p es q => ?_, R'.inj, R'.dom.frz hs, R'.old, fun b q => ?_, fun b q => .inl (R'.sub b q), fun b q => ⟨(R'.mpd b q).1, fun w => ?_, (R'.mpd b q).2.2⟩, R'.len⟩ (.lst ⟨.inr rfl, hs⟩ (r.mono (fun _ z => .inl z) fun _ _ _ z => z))
    · rcases z with z | z
      · exact E'.f2 b z
      · exact .inr (.inl (by rw [z]; exact hn))
    · obtain ⟨v, h2, h3⟩ := R'.val i d q
      exact ⟨v, h2, h3.mono (fun _ z => .inl z) fun _ _ _ z => z⟩
    · obtain ⟨b, ys, s1, h2, h3, h4, h5⟩ := R'.own i p es q
      exact ⟨b, ys, s1, h2, fun w => w.elim h3 (no b ⟨i, p, es, q, s1⟩), h4.mono (fun _ z => .inl z) fun _ _ _ z => z, h5⟩
    · rcases q with q | q
      · exact R'.new b q
      · rw [q]; exact .inr (R.free0 hn)
    · rcases w with w | w
      · exact (R'.mpd b q).2.1 w
      · subst w
        exact (R.mpd b q).1 hn
  · cases e
end
end Sm

set_option Elab.async false
set_option linter.all false
set_option maxRecDepth 100000
set_option maxHeartbeats 4000000
namespace Sm
open PySem PySem.Spec PyProof.Rows L2
variable [Tb]

/-! ### frames rearranged -/
section
variable {K : PySem.W.Frag} {B : Bas} {F F' F'' : Fz} {H H' H'' : Hp} {env env' env2 : En} {σ σ2 : L2.St} {v : V} {d : PyData} {vs xs : List V} {ds : List PyData} {a : Addr}
theorem Rel.pick (R : Rel K B F env σ H) (g : Nat → Nat) (h : ∀ i s, env2[i]? = some s → s ≠ .no → env[g i]? = some s ∧ σ2[i]? = σ[g i]?)
    (gi : ∀ i j p q ds es, env2[i]? = some (.ow p ds) → env2[j]? = some (.ow q es) → g i = g j → i = j) (hl : σ2.length = env2.length) : Rel K B F env2 σ2 H where
  val := fun i d e => by
    obtain ⟨e1, e2⟩ := h i _ e (fun z => nomatch z)
    rw [e2]
    exact R.val _ _ e1
  own := fun i p ds e => by
    obtain ⟨e1, e2⟩ := h i _ e (fun z => nomatch z)
    rw [e2]
    exact R.own _ _ _ e1
  inj := fun i j p q ds es a e1 e2 s1 s2 => by
    obtain ⟨g1, g2⟩ := h i _ e1 (fun z => nomatch z)
    obtain ⟨g3, g4⟩ := h j _ e2 (fun z => nomatch z)
    rw [g2] at s1
    rw [g4] at s2
    exact gi i j p q ds es e1 e2 (R.inj _ _ _ _ _ _ _ g1 g3 s1 s2)
  dom := R.dom
  old := R.old
  new := R.new
  sub := R.sub
  mpd := R.mpd
  len := hl
theorem Rel.push (R : Rel K B F env σ H) (r : Rep K F H v d) : Rel K B F (env ++ [.va d]) (σ ++ [some v]) H := by
  have hl := R.len
  have at1 : ∀ {i s}, (env ++ [Sl.va d])[i]? = some s → (i < env.length ∧ env[i]? = some s ∧ (σ ++ [some v])[i]? = σ[i]?) ∨ (i = env.length ∧ s = .va d ∧ (σ ++ [some v])[i]? = some (some v)) := fun {i s} e => by
    by_cases hi : i < env.length
    · rw [List.getElem?_append_left hi] at e
      exact .inl ⟨hi, e, List.getElem?_append_left (by omega)⟩
    · rw [List.getElem?_append_right (by omega)] at e
      have hz : i - env.length = 0 := by
        by_cases hz : i - env.length = 0
        · exact hz
        · rw [List.getElem?_eq_none (by simp; omega)] at e
          cases e
      rw [hz] at e
      cases e
      have : i = env.length := by omega
      subst this
      exact .inr ⟨rfl, rfl, by rw [List.getElem?_append_right (by omega)]; simp [hl]⟩
  refine ⟨fun i d' e => ?_, fun i p es e => ?_, fun i j p q es es' a e1 e2 s1 s2 => ?_, R.dom, R.old, R.new, R.sub, R.mpd, by simp [hl]⟩
  · rcases at1 e with ⟨_, h1, h2⟩ | ⟨_, h1, h2⟩
    · rw [h2]; exact R.val i d' h1
    · cases h1
      exact ⟨v, h2, r⟩
  · rcases at1 e with ⟨_, h1, h2⟩ | ⟨_, h1, h2⟩
    · rw [h2]; exact R.own i p es h1
    · cases h1
  · rcases at1 e1 with ⟨_, h1, h2⟩ | ⟨_, h1, h2⟩
    · rcases at1 e2 with ⟨_, h3, h4⟩ | ⟨_, h3, h4⟩
      · rw [h2] at s1
        rw [h4] at s2
        exact R.inj i j p q es es' a h1 h3 s1 s2
      · cases h3
    · cases h1
theorem Rel.pushL (R : Rel K B F env σ H) (hh : H a = some (.lst xs)) (nf : ¬ F a) (r : Reps K F H xs ds) (h0 : B.H0 a = none) (no : ¬ Own env σ a) : Rel K B F (env ++ [.ow false ds]) (σ ++ [some (.ref a)]) H := by
  have hl := R.len
  have at1 : ∀ {i s}, (env ++ [Sl.ow false ds])[i]? = some s → (i < env.length ∧ env[i]? = some s ∧ (σ ++ [some (V.ref a)])[i]? = σ[i]?) ∨ (i = env.length ∧ s = .ow false ds ∧ (σ ++ [some (V.ref a)])[i]? = some (some (.ref a))) := fun {i s} e => by
    by_cases hi : i < env.length
    · rw [List.getElem?_append_left hi] at e
      exact .inl ⟨hi, e, List.getElem?_append_left (by omega)⟩
    · rw [List.getElem?_append_right (by omega)] at e
      have hz : i - env.length = 0 := by
        by_cases hz : i - env.length = 0
        · exact hz
        · rw [List.getElem?_eq_none (by simp; omega)] at e
          cases e
      rw [hz] at e
      cases e
      have : i = env.length := by omega
      subst this
      exact .inr ⟨rfl, rfl, by rw [List.getElem?_append_right (by omega)]; simp [hl]⟩
  refine ⟨fun i d' e => ?_, fun i p es e => ?_, fun i j p q es es' b e1 e2 s1 s2 => ?_, R.dom, R.old, R.new, R.sub, R.mpd, by simp [hl]⟩
  · rcases at1 e with ⟨_, h1, h2⟩ | ⟨_, h1, h2⟩
    · rw [h2]; exact R.val i d' h1
    · cases h1
  · rcases at1 e with ⟨_, h1, h2⟩ | ⟨_, h1, h2⟩
    · rw [h2]; exact R.own i p es h1
    · cases h1
      exact ⟨a, xs, h2, hh, nf, r, h0⟩
  · rcases at1 e1 with ⟨h0, h1, h2⟩ | ⟨h0, h1, h2⟩ <;> rcases at1 e2 with ⟨h0', h3, h4⟩ | ⟨h0', h3, h4⟩
    · rw [h2] at s1
      rw [h4] at s2
      exact R.inj i j p q es es' b h1 h3 s1 s2
    · rw [h4] at s2
      cases s2
      rw [h2] at s1
      exact absurd ⟨i, p, es, h1, s1⟩ no
    · rw [h2] at s1
      cases s1
      rw [h4] at s2
      exact absurd ⟨j, q, es', h3, s2⟩ no
    · omega
def mvIx (n i j : Nat) : Nat := if j < n then (if j = i then n else j) else j + 1
theorem mvIx_i {n i : Nat} (h : i < n) : mvIx n i i = n := by unfold mvIx; rw [if_pos h, if_pos rfl]
theorem mvIx_l {n i j : Nat} (h : j < n) (h2 : j ≠ i) : mvIx n i j = j := by unfold mvIx; rw [if_pos h, if_neg h2]
theorem mvIx_r {n i j : Nat} (h : ¬ j < n) : mvIx n i j = j + 1 := by unfold mvIx; rw [if_neg h]
theorem mvIx_inj {n i j k : Nat} (e : mvIx n i j = mvIx n i k) : j = k := by
  unfold mvIx at e
  split at e <;> split at e <;> (try split at e) <;> (try split at e) <;> omega
/-- the first pending value goes to the slot i -/
theorem Rel.move {p : Sl} {ps : En} {i : Nat} {us : L2.St} {u : Option V} (R : Rel K B F (env ++ p :: ps) (σ ++ u :: us) H) (hn : σ.length = env.length) : Rel K B F (env.set i p ++ ps) (σ.set i u ++ us) H := by
  have hl := R.len
  simp only [List.length_append, List.length_cons] at hl
  refine R.pick (mvIx env.length i) (fun j s e hs => ?_) (fun j k p' q' ds es e1 e2 e3 => mvIx_inj e3) (by simp; omega)
  by_cases hj : j < env.length
  · rw [List.getElem?_append_left (by simpa using hj)] at e
    have s1 : (σ.set i u ++ us)[j]? = (σ.set i u)[j]? := List.getElem?_append_left (by rw [List.length_set]; omega)
    rw [s1]
    by_cases hji : j = i
    · subst hji
      rw [List.getElem?_set_self hj] at e
      cases e
      rw [List.getElem?_set_self (by omega), mvIx_i hj]
      refine ⟨?_, ?_⟩
      · rw [List.getElem?_append_right (Nat.le_refl _), Nat.sub_self]
        rfl
      · rw [← hn, List.getElem?_append_right (Nat.le_refl _), Nat.sub_self]
        rfl
    · rw [List.getElem?_set_ne (Ne.symm hji)] at e
      rw [List.getElem?_set_ne (Ne.symm hji), mvIx_l hj hji]
      exact ⟨by rw [List.getElem?_append_left hj]; exact e, by rw [List.getElem?_append_left (by omega)]⟩
  · rw [List.getElem?_append_right (by simpa using hj)] at e
    have s1 : (σ.set i u ++ us)[j]? = us[j - (σ.set i u).length]? := List.getElem?_append_right (by rw [List.length_set]; omega)
    rw [s1, mvIx_r hj]
    rw [List.length_set] at e
    rw [List.length_set]
    refine ⟨?_, ?_⟩
    · rw [List.getElem?_append_right (by omega), show j + 1 - env.length = (j - env.length) + 1 by omega, List.getElem?_cons_succ]
      exact e
    · rw [List.getElem?_append_right (by omega), show j + 1 - σ.length = (j - σ.length) + 1 by omega, List.getElem?_cons_succ]
theorem Rel.setVa (R : Rel K B F env σ H) (i : Nat) (r : Rep K F H v d) : Rel K B F (env.set i (.va d)) (σ.set i (some v)) H := by
  have q := Rel.move (i := i) (R.push r) R.len
  simpa using q
theorem Rel.setOw (R : Rel K B F env σ H) (i : Nat) (hh : H a = some (.lst xs)) (nf : ¬ F a) (r : Reps K F H xs ds) (h0 : B.H0 a = none) (no : ¬ Own env σ a) : Rel K B F (env.set i (.ow false ds)) (σ.set i (some (.ref a))) H := by
  have q := Rel.move (i := i) (R.pushL hh nf r h0 no) R.len
  simpa using q
/-- an owned list is changed -/
theorem Rel.chg {i : Nat} {p : Bool} {es : List PyData} {ys : List V} (R : Rel K B F env σ H) (e : env[i]? = some (.ow p ds)) (s : σ[i]? = some (some (.ref a))) (r : Reps K F H ys es) :
    Rel K B F (env.set i (.ow p es)) σ (upd H a (.lst ys)) ∧ (∀ b o, F b → H b = some o → (upd H a (.lst ys)) b = some o) := by
  obtain ⟨b, zs, s1, hh, nf, rz, z⟩ := R.own i p ds e
  rw [s] at s1
  cases s1
  have hi : i < env.length := (List.getElem?_eq_some_iff.mp e).1
  have kp : ∀ b o, F b → H b = some o → (upd H a (.lst ys)) b = some o := fun b o f h => by
    rw [upd_ne (fun q => nf (by rw [← q]; exact f))]
    exact h
  have m : ∀ {v d}, Rep K F H v d → Rep K F (upd H a (.lst ys)) v d := fun r => r.mono (fun _ z => z) kp
  have ms : ∀ {v d}, Reps K F H v d → Reps K F (upd H a (.lst ys)) v d := fun r => r.mono (fun _ z => z) kp
  refine ⟨⟨fun j d q => ?_, fun j p' es' q => ?_, fun j k p' q' ds' es' b e1 e2 s1 s2 => ?_, R.dom.set hh nt_lst, fun b o q w => ?_, R.new, R.sub, fun b q => ?_, by rw [List.length_set]; exact R.len⟩, kp⟩
  · by_cases hj : i = j
    · subst hj
      rw [List.getElem?_set_self hi] at q; cases q
    · rw [List.getElem?_set_ne hj] at q
      obtain ⟨v, h1, h2⟩ := R.val j d q
      exact ⟨v, h1, m h2⟩
  · by_cases hj : i = j
    · subst hj
      rw [List.getElem?_set_self hi] at q; cases q
      exact ⟨a, ys, s, upd_same, nf, ms r, z⟩
    · rw [List.getElem?_set_ne hj] at q
      obtain ⟨b, ws, s1, h1, h2, h3, h4⟩ := R.own j p' es' q
      refine ⟨b, ws, s1, ?_, h2, ms h3, h4⟩
      rw [upd_ne (fun w => by
        subst w
        exact hj (R.inj i j p p' ds es' b e q s s1))]
      exact h1
  · have bk2 : ∀ {j : Nat} {q : Bool} {es' : List PyData}, (env.set i (Sl.ow p es))[j]? = some (Sl.ow q es') → ∃ q es'', env[j]? = some (Sl.ow q es'') := fun {j q' es'} q => by
      by_cases hj : i = j
      · subst hj; exact ⟨_, _, e⟩
      · rw [List.getElem?_set_ne hj] at q; exact ⟨_, _, q⟩
    obtain ⟨q1, es1, w1⟩ := bk2 e1
    obtain ⟨q2, es2, w2⟩ := bk2 e2
    exact R.inj j k q1 q2 es1 es2 b w1 w2 s1 s2
  · by_cases hb : b = a
    · subst hb
      cases p with
      | true => exact absurd (by simpa using z) w
      | false => rw [show B.H0 b = none by simpa using z] at q; cases q
    · exact (R.old b o q w).trans fun o' z => .of (by rw [upd_ne hb]; exact z)
  · obtain ⟨h1, h2, h3⟩ := R.mpd b q
    refine ⟨?_, h2, h3⟩
    by_cases hb : b = a
    · subst hb; rw [upd_same]; exact fun z => nomatch z
    · rw [upd_ne hb]; exact h1
end

/-! ### tests -/
@[simp] def andF (ft fu : TF) : TF := fun env => match ft env with
  | some (true, e1) => fu e1
  | some (false, e1) => some (false, e1)
  | none => none
@[simp] def orF (ft fu : TF) : TF := fun env => match ft env with
  | some (true, e1) => some (true, e1)
  | some (false, e1) => fu e1
  | none => none
@[simp] def notF (ft : TF) : TF := fun env => match ft env with
  | some (b, e1) => some (!b, e1)
  | none => none
@[simp] def iteE (ft : TF) (fa fb : EF) : EF := fun env => match ft env with
  | some (true, e1) => fa e1
  | some (false, e1) => fb e1
  | none => none
@[simp] def iteL (ft : TF) (fa fb : LF) : LF := fun env => match ft env with
  | some (true, e1) => fa e1
  | some (false, e1) => fb e1
  | none => none
abbrev SW (X : Cx) (e : Expr) (f : TF) : Prop := PW X e (tT X.K f)
section
variable {X : Cx} {a b c e : Expr} {es rest : List Expr} {fa fb fc fe : EF} {fs fl fm : LF} {ft fu : TF} {pos : Pos}
theorem tB_of {σ : L2.St} {H : Hp} {Q : Bool → Hp → Prop} {K : PySem.W.Frag} (h : tT K (tst fe) σ H Q) : tB (tE K fe) σ H Q := by
  obtain ⟨B, F, env, d, env', R, e, k⟩ := h
  unfold tst at e
  split at e
  · rename_i b e1 h1
    cases e
    refine ⟨B, F, env, _, env', R, h1, fun v F1 H1 E1 R1 r1 => ?_⟩
    cases r1
    exact ⟨_, rfl, k F1 H1 E1 R1⟩
  · cases e
theorem st_val (h : SE X e fe) (he : ∀ whole, isTrue e X.env whole = (do let v ← whole; standAt e.pos; holding [v] (truthy v)) := by intro _; rfl) : ST X e (tst fe) := PT.imp (pt_val h he) fun _ _ _ h => tB_of h
theorem st_cmp {op : CmpOp} {r : R2} {o : PyData → PyData → Option PyData} (hr : OpR X (compareOp op) r) (ok : OpOk X.K r o) (ha : SE X a fa) (hb : SE X b fb) (hm : behindInMarks op b = false := by first | exact nomark _ | rfl | with_unfolding_all rfl) : ST X (.Compare a [op] [b] pos) (tst (bin o fa fb)) :=
  PT.imp (pt_cmpR hr ha hb hm) fun σ H Q h => by
    have q := tB_of h
    obtain ⟨B, F, env, d, env', R, e, k⟩ := q
    obtain ⟨x, e1, y, h1, h2, h3⟩ := bin_some e
    refine ⟨B, F, env, x, e1, R, h1, fun v F1 H1 E1 R1 r1 => ⟨B, F1, e1, y, env', R1, h2, fun w F2 H2 E2 R2 r2 => ?_⟩⟩
    exact ok F2 H2 v w x y d _ R2.dom (E2.rep R1 r1) r2 h3 fun z F3 H3 N rz => k z F3 H3 ((E1.trans E2).trans (.of_new N)) (R2.alloc N) rz
theorem sw_one {op} (h : ST X a ft) (ho : op = .And ∨ op = .Or := by first | exact .inl rfl | exact .inr rfl) : SW X (.BoolOp op [a] pos) ft := by
  rcases ho with rfl | rfl
  · exact pw_and1 h
  · exact pw_or1 h
theorem sw_and (ha : ST X a ft) (hb : SW X (.BoolOp .And (b :: rest) pos) fu) : SW X (.BoolOp .And (a :: b :: rest) pos) (andF ft fu) := PW.imp (pw_and ha hb) fun σ H Q ⟨B, F, env, d, env', R, e, k⟩ => by
  unfold andF at e
  split at e
  · rename_i e1 h1
    exact ⟨B, F, env, true, e1, R, h1, fun F1 H1 E1 R1 => ⟨B, F1, e1, d, env', R1, e, fun F2 H2 E2 R2 => k F2 H2 (E1.trans E2) R2⟩⟩
  · rename_i e1 h1
    cases e
    exact ⟨B, F, env, false, env', R, h1, fun F1 H1 E1 R1 => k F1 H1 E1 R1⟩
  · cases e
theorem sw_or (ha : ST X a ft) (hb : SW X (.BoolOp .Or (b :: rest) pos) fu) : SW X (.BoolOp .Or (a :: b :: rest) pos) (orF ft fu) := PW.imp (pw_or ha hb) fun σ H Q ⟨B, F, env, d, env', R, e, k⟩ => by
  unfold orF at e
  split at e
  · rename_i e1 h1
    cases e
    exact ⟨B, F, env, true, env', R, h1, fun F1 H1 E1 R1 => k F1 H1 E1 R1⟩
  · rename_i e1 h1
    exact ⟨B, F, env, false, e1, R, h1, fun F1 H1 E1 R1 => ⟨B, F1, e1, d, env', R1, e, fun F2 H2 E2 R2 => k F2 H2 (E1.trans E2) R2⟩⟩
  · cases e
theorem st_w (h : SW X e ft) : ST X e ft := h.pt
theorem st_not (ha : ST X a ft) : ST X (.UnaryOp .Not a pos) (notF ft) := PT.imp (pt_not ha) fun σ H Q ⟨B, F, env, d, env', R, e, k⟩ => by
  unfold notF at e
  split at e
  · rename_i b e1 h1
    cases e
    exact ⟨B, F, env, b, _, R, h1, fun F1 H1 E1 R1 => k F1 H1 E1 R1⟩
  · cases e
/-- truths as values -/
theorem sv_one {op} (h : SE X a fa) : SE X (.BoolOp op [a] pos) fa := pe_one h
theorem sv_and (ha : SE X a fa) (hb : SE X (.BoolOp .And (b :: rest) pos) fb) : SE X (.BoolOp .And (a :: b :: rest) pos) (iteE (tst fa) fb (cst (.bool false))) := PE.imp (pe_and ha hb) fun σ H Q ⟨B, F, env, d, env', R, e, k⟩ => by
  unfold iteE tst at e
  cases h : fa env with
  | none => rw [h] at e; cases e
  | some z =>
    obtain ⟨z, e1⟩ := z
    rw [h] at e
    cases z with
    | bool c =>
      refine ⟨B, F, env, _, e1, R, h, fun v F1 H1 E1 R1 r1 => ?_⟩
      cases r1
      refine ⟨c, rfl, ?_⟩
      cases c with
      | true =>
        rw [if_pos rfl]
        exact ⟨B, F1, e1, d, env', R1, e, fun v F2 H2 E2 R2 r2 => k v F2 H2 (E1.trans E2) R2 r2⟩
      | false =>
        rw [if_neg Bool.false_ne_true]
        cases e
        exact k _ F1 H1 E1 R1 (.bool false)
    | _ => cases e
theorem sv_or (ha : SE X a fa) (hb : SE X (.BoolOp .Or (b :: rest) pos) fb) : SE X (.BoolOp .Or (a :: b :: rest) pos) (iteE (tst fa) (cst (.bool true)) fb) := PE.imp (pe_or ha hb) fun σ H Q ⟨B, F, env, d, env', R, e, k⟩ => by
  unfold iteE tst at e
  cases h : fa env with
  | none => rw [h] at e; cases e
  | some z =>
    obtain ⟨z, e1⟩ := z
    rw [h] at e
    cases z with
    | bool c =>
      refine ⟨B, F, env, _, e1, R, h, fun v F1 H1 E1 R1 r1 => ?_⟩
      cases r1
      refine ⟨c, rfl, ?_⟩
      cases c with
      | false =>
        rw [if_neg Bool.false_ne_true]
        exact ⟨B, F1, e1, d, env', R1, e, fun v F2 H2 E2 R2 r2 => k v F2 H2 (E1.trans E2) R2 r2⟩
      | true =>
        rw [if_pos rfl]
        cases e
        exact k _ F1 H1 E1 R1 (.bool true)
    | _ => cases e
theorem sv_not (ha : SE X a fa) : SE X (.UnaryOp .Not a pos) (val (notF (tst fa))) := PE.imp (pe_not ha) fun σ H Q ⟨B, F, env, d, env', R, e, k⟩ => by
  unfold val notF tst at e
  cases h : fa env with
  | none => rw [h] at e; cases e
  | some z =>
    obtain ⟨z, e1⟩ := z
    rw [h] at e
    cases z with
    | bool c =>
      refine ⟨B, F, env, _, e1, R, h, fun v F1 H1 E1 R1 r1 => ?_⟩
      cases r1
      cases e
      exact ⟨c, rfl, k _ F1 H1 E1 R1 (.bool _)⟩
    | _ => cases e
theorem s_ite (hc : ST X c ft) (ha : SE X a fa) (hb : SE X b fb) : SE X (.IfExp c a b pos) (iteE ft fa fb) := PE.imp (pe_ifExp hc ha hb) fun σ H Q ⟨B, F, env, d, env', R, e, k⟩ => by
  unfold iteE at e
  split at e
  · rename_i e1 h1
    refine ⟨B, F, env, true, e1, R, h1, fun F1 H1 E1 R1 => ?_⟩
    refine iteT ?_
    exact ⟨B, F1, e1, d, env', R1, e, fun v F2 H2 E2 R2 r2 => k v F2 H2 (E1.trans E2) R2 r2⟩
  · rename_i e1 h1
    refine ⟨B, F, env, false, e1, R, h1, fun F1 H1 E1 R1 => ?_⟩
    refine iteF ?_
    exact ⟨B, F1, e1, d, env', R1, e, fun v F2 H2 E2 R2 r2 => k v F2 H2 (E1.trans E2) R2 r2⟩
  · cases e
theorem s_iteL (hc : ST X c ft) (ha : SL X a fl) (hb : SL X b fm) : SL X (.IfExp c a b pos) (iteL ft fl fm) := PE.imp (pe_ifExp hc ha hb) fun σ H Q ⟨B, F, env, d, env', R, e, k⟩ => by
  unfold iteL at e
  split at e
  · rename_i e1 h1
    refine ⟨B, F, env, true, e1, R, h1, fun F1 H1 E1 R1 => ?_⟩
    refine iteT ?_
    exact ⟨B, F1, e1, d, env', R1, e, fun v xs F2 H2 E2 R2 hn h5 h6 r2 => k v xs F2 H2 (E1.trans E2) R2 (E1.f5 _ hn) h5 h6 r2⟩
  · rename_i e1 h1
    refine ⟨B, F, env, false, e1, R, h1, fun F1 H1 E1 R1 => ?_⟩
    refine iteF ?_
    exact ⟨B, F1, e1, d, env', R1, e, fun v xs F2 H2 E2 R2 hn h5 h6 r2 => k v xs F2 H2 (E1.trans E2) R2 (E1.f5 _ hn) h5 h6 r2⟩
  · cases e

/-! ### argument lists, displays -/
theorem sa_nil : SA X [] aNil := PA.imp pa_nil fun σ H Q ⟨B, F, env, d, env', R, e, k⟩ => by
  cases e
  exact k [] F H .refl R .nil
theorem sa_cons (ha : SE X a fa) (hb : SA X es fs) (hs : starEach (a :: es) X.env = (false, eval a X.env) :: starEach es X.env := by rfl) : SA X (a :: es) (aCons fa fs) := PA.imp (pa_cons ha hb hs) fun σ H Q ⟨B, F, env, d, env', R, e, k⟩ => by
  unfold aCons at e
  split at e
  · rename_i d1 e1 h1
    split at e
    · rename_i ds e2 h2
      cases e
      exact ⟨B, F, env, d1, e1, R, h1, fun v F1 H1 E1 R1 r1 => ⟨B, F1, e1, ds, env', R1, h2, fun vs F2 H2 E2 R2 r2 => k (v :: vs) F2 H2 (E1.trans E2) R2 (.cons (E2.rep R1 r1) r2)⟩⟩
    · cases e
  · cases e
theorem s_tup {x1} (h : SA X es fs) : SE X (.Tuple es x1 pos) (tup fs) := PE.imp (pe_tup h) fun σ H Q ⟨B, F, env, d, env', R, e, k⟩ => by
  unfold tup at e
  split at e
  · rename_i ds e1 h1
    split at e
    · rename_i hz
      cases e
      refine ⟨B, F, env, ds, env', R, h1, fun vs F1 H1 E1 R1 r1 => ⟨by rw [r1.length]; exact hz, fun p hp => ?_⟩⟩
      have N : New F1 H1 (fun a => F1 a ∨ a = p) (upd H1 p (.tup vs)) := .add R1.dom hp
      exact k (.ref p) _ _ (E1.trans (.of_new N)) (R1.alloc N) (.tup (.inl ⟨.inr rfl, .inl upd_same⟩) (N.reps r1))
    · cases e
  · cases e
theorem s_lst (h : SA X es fs) : SL X (.List es pos) (lst fs) := PE.imp (pe_lst h) fun σ H Q ⟨B, F, env, d, env', R, e, k⟩ => by
  unfold lst at e
  split at e
  · rename_i ds e1 h1
    split at e
    · rename_i hz
      cases e
      refine ⟨B, F, env, _, env', R, h1, fun vs F1 H1 E1 R1 r1 => ⟨by rw [r1.length]; exact hz, fun p hp => ?_⟩⟩
      have N : New F1 H1 F1 (upd H1 p (.lst vs)) := .raw R1.dom hp
      exact k p vs _ _ (E1.trans (.of_new N)) (R1.alloc N) (E1.f5 _ hp) upd_same (R1.freeF hp) (N.reps r1)
    · cases e
  · cases e
end
end Sm

set_option Elab.async false
set_option linter.all false
set_option maxRecDepth 100000
set_option maxHeartbeats 4000000
namespace Sm
open PySem PySem.Spec PyProof.Rows L2
variable [Tb]

inductive Fl where
  | nx
  | bk
  | ct
  | rt (d : PyData)
abbrev SF := En → Option (Fl × En)
abbrev GF := PyData → En → Option En
abbrev GFs := List PyData → En → Option En
abbrev MF := En → Option (List Sl × En)
def Keep (F : Fz) (H : Hp) (F' : Fz) (H' : Hp) : Prop := (∀ a, F a → F' a) ∧ ∀ a o, F a → H a = some o → H' a = some o
theorem Keep.refl {F : Fz} {H : Hp} : Keep F H F H := ⟨fun _ z => z, fun _ _ _ z => z⟩
theorem Keep.trans {F F' F'' : Fz} {H H' H'' : Hp} (a : Keep F H F' H') (b : Keep F' H' F'' H'') : Keep F H F'' H'' := ⟨fun x z => b.1 x (a.1 x z), fun x o f h => b.2 x o (a.1 x f) (a.2 x o f h)⟩
theorem Keep.rep {K : PySem.W.Frag} {F F' : Fz} {H H' : Hp} {v : V} {d : PyData} (k : Keep F H F' H') (r : Rep K F H v d) : Rep K F' H' v d := r.mono k.1 k.2
theorem Keep.reps {K : PySem.W.Frag} {F F' : Fz} {H H' : Hp} {v : List V} {d : List PyData} (k : Keep F H F' H') (r : Reps K F H v d) : Reps K F' H' v d := r.mono k.1 k.2
theorem Ext.keep {K : PySem.W.Frag} {B : Bas} {F F' : Fz} {H H' : Hp} {env env' : En} {σ : L2.St} (x : Ext σ env F H env' F' H') (R : Rel K B F env σ H) : Keep F H F' H' := ⟨x.f1, x.keepF R⟩
theorem New.keep {F F' : Fz} {H H' : Hp} (n : New F H F' H') : Keep F H F' H' := ⟨n.f1, n.keepF⟩

/-! ### what is stored where -/
/-- names and tuples of names: the heap stays -/
def tG (K : PySem.W.Frag) (ts : List Nat) (g : GF) : TG := fun v σ H Q => ∃ B F env d env', Rel K B F env σ H ∧ Rep K F H v d ∧ g d env = some env' ∧ ∀ σ', Rel K B F env' σ' H → ((∀ j, j ∉ ts → σ'[j]? = σ[j]?) ∧ σ'.length = σ.length) ∧ (∀ a, Own env' σ' a → Own env σ a) → Q σ' H
def tGs (K : PySem.W.Frag) (ts : List Nat) (g : GFs) : TGs := fun vs σ H Q => ∃ B F env ds env', Rel K B F env σ H ∧ Reps K F H vs ds ∧ g ds env = some env' ∧ ∀ σ', Rel K B F env' σ' H → ((∀ j, j ∉ ts → σ'[j]? = σ[j]?) ∧ σ'.length = σ.length) ∧ (∀ a, Own env' σ' a → Own env σ a) → Q σ' H
/-- any -/
def tH (K : PySem.W.Frag) (g : GF) : TG := fun v σ H Q => ∃ B F env d env', Rel K B F env σ H ∧ Rep K F H v d ∧ g d env = some env' ∧ ∀ σ' F' H', Keep F H F' H' → Rel K B F' env' σ' H' → Q σ' H'
def tHs (K : PySem.W.Frag) (g : GFs) : TGs := fun vs σ H Q => ∃ B F env ds env', Rel K B F env σ H ∧ Reps K F H vs ds ∧ g ds env = some env' ∧ ∀ σ' F' H', Keep F H F' H' → Rel K B F' env' σ' H' → Q σ' H'
@[simp] def gN (i : Nat) : GF := fun d env => some (env.set i (.va d))
@[simp] def gNil' : GFs := fun ds env => match ds with
  | [] => some env
  | _ => none
@[simp] def gCons' (g : GF) (h : GFs) : GFs := fun ds env => match ds with
  | d :: r => match g d env with
    | some e1 => h r e1
    | none => none
  | [] => none
@[simp] def gT (n : Nat) (h : GFs) : GF := fun d env => match d with
  | .tuple ds => if ds.length = n then h ds env else none
  | _ => none
/-- x[e] = .. at an owned list -/
@[simp] def gIx (i : Nat) (fi : EF) : GF := fun d env => match env[i]? with
  | some (.ow _ _) => match fi env with
    | some (.int k, e1) => match e1[i]? with
      | some (.ow p ds) => match ixN ds.length k with
        | some j => some (e1.set i (.ow p (ds.set j d)))
        | none => none
      | _ => none
    | _ => none
  | _ => none
theorem PG.imp {X : Cx} {e : Expr} {t t' : TG} (h : PG X e t) (m : ∀ v σ H Q, t' v σ H Q → t v σ H Q) : PG X e t' := ⟨fun pins s σ H v u Q I r q => h.run pins s σ H v u Q I r (m v σ H Q q)⟩
theorem PGs.imp {X : Cx} {e : List Expr} {t t' : TGs} (h : PGs X e t) (m : ∀ v σ H Q, t' v σ H Q → t v σ H Q) : PGs X e t' := ⟨fun pins s σ H v u Q I r q => h.run pins s σ H v u Q I r (m v σ H Q q)⟩
section
variable {X : Cx} {a b c e : Expr} {es rest : List Expr} {fa fb fc fe : EF} {fs fl fm : LF} {ft fu : TF} {pos : Pos} {g : GF} {h : GFs} {ts us : List Nat} {n : Nat}
theorem own_set {env : En} {σ : L2.St} {i : Nat} {d : PyData} {v : Option V} {a : Addr} (h : Own (env.set i (.va d)) (σ.set i v) a) : Own env σ a := by
  obtain ⟨j, p, es, h1, h2⟩ := h
  by_cases hj : i = j
  · subst hj
    by_cases hi : i < env.length
    · rw [List.getElem?_set_self hi] at h1; cases h1
    · rw [List.getElem?_eq_none (by simpa using hi)] at h1; cases h1
  · rw [List.getElem?_set_ne hj] at h1 h2
    exact ⟨j, p, es, h1, h2⟩
theorem g_name {i : Nat} {x : Str} (hN : X.N.Nodup) (hi : X.N[i]? = some x := by rfl) (hx : Loc X.env.scope x := by first | exact .inl rfl | exact .inr rfl) (hf : X.fn x = true ∨ X.env.scope.names.lookup x = some .local := by first | exact .inl rfl | exact .inr rfl) : PG X (.Name x pos) (tG X.K [i] (gN i)) :=
  PG.imp (pg_name hN hi hx hf) fun v σ H Q ⟨B, F, env, d, env', R, r, e, k⟩ => by
    cases e
    exact k _ (R.setVa i r) ⟨⟨fun j hj => List.getElem?_set_ne (fun z => hj (by simp [z])), List.length_set⟩, fun a => own_set⟩
theorem gs_nil : PGs X [] (tGs X.K [] gNil') := PGs.imp pgs_nil fun v σ H Q ⟨B, F, env, ds, env', R, r, e, k⟩ => by
  cases r with
  | nil =>
    cases e
    exact ⟨rfl, k σ R ⟨⟨fun _ _ => rfl, rfl⟩, fun _ z => z⟩⟩
  | cons => cases e
theorem gs_cons (h1 : PG X e (tG X.K ts g)) (h2 : PGs X es (tGs X.K us h)) (hs : (assignEach (e :: es) X.env).map (·.2) = assign e X.env :: (assignEach es X.env).map (·.2) := by rfl) : PGs X (e :: es) (tGs X.K (ts ++ us) (gCons' g h)) := PGs.imp (pgs_cons h1 h2 hs) fun v σ H Q ⟨B, F, env, ds, env', R, r, e, k⟩ => by
  cases r with
  | nil => cases e
  | cons r rs =>
    unfold gCons' at e
    simp only at e
    split at e
    · rename_i e1 h1
      exact ⟨_, _, rfl, B, F, env, _, e1, R, r, h1, fun σ1 R1 k1 => ⟨B, F, e1, _, env', R1, rs, e, fun σ2 R2 k2 => k σ2 R2 ⟨⟨fun j hj => (k2.1.1 j fun z => hj (List.mem_append_right _ z)).trans (k1.1.1 j fun z => hj (List.mem_append_left _ z)), k2.1.2.trans k1.1.2⟩, fun a z => k1.2 a (k2.2 a z)⟩⟩⟩
    · cases e
theorem g_tup {k : Nat} (hc : X.calm = true) (hg : PGs X es (tGs X.K ts h)) (hn : (assignEach es X.env).length = n := by rfl) (hst : (assignEach es X.env).findIdx? (·.1) = none := by rfl) : PG X (.Tuple es k pos) (tG X.K ts (gT n h)) :=
  PG.imp (pg_tup hc hg hn hst) fun v σ H Q ⟨B, F, env, d, env', R, r, e, k⟩ => by
    unfold gT at e
    split at e
    · rename_i ds
      split at e
      · rename_i hl
        cases r with
        | tup hh rs => exact ⟨_, _, rfl, hh.sq, rs.length.trans hl, B, F, env, ds, env', R, rs, e, k⟩
      · cases e
    · cases e
theorem h_of (h : PG X e (tG X.K ts g)) : PG X e (tH X.K g) := PG.imp h fun v σ H Q ⟨B, F, env, d, env', R, r, e, k⟩ => ⟨B, F, env, d, env', R, r, e, fun σ' R' _ => k σ' F H .refl R'⟩
theorem hs_nil : PGs X [] (tHs X.K gNil') := PGs.imp gs_nil fun v σ H Q ⟨B, F, env, d, env', R, r, e, k⟩ => ⟨B, F, env, d, env', R, r, e, fun σ' R' _ => k σ' F H .refl R'⟩
theorem hs_cons (h1 : PG X e (tH X.K g)) (h2 : PGs X es (tHs X.K h)) (hs : (assignEach (e :: es) X.env).map (·.2) = assign e X.env :: (assignEach es X.env).map (·.2) := by rfl) : PGs X (e :: es) (tHs X.K (gCons' g h)) := PGs.imp (pgs_cons h1 h2 hs) fun v σ H Q ⟨B, F, env, ds, env', R, r, e, k⟩ => by
  cases r with
  | nil => cases e
  | cons r rs =>
    unfold gCons' at e
    simp only at e
    split at e
    · rename_i e1 h1
      exact ⟨_, _, rfl, B, F, env, _, e1, R, r, h1, fun σ1 F1 H1 k1 R1 => ⟨B, F1, e1, _, env', R1, k1.reps rs, e, fun σ2 F2 H2 k2 R2 => k σ2 F2 H2 (k1.trans k2) R2⟩⟩
    · cases e
theorem h_tup {k : Nat} (hc : X.calm = true) (hg : PGs X es (tHs X.K h)) (hn : (assignEach es X.env).length = n := by rfl) (hst : (assignEach es X.env).findIdx? (·.1) = none := by rfl) : PG X (.Tuple es k pos) (tH X.K (gT n h)) :=
  PG.imp (pg_tup hc hg hn hst) fun v σ H Q ⟨B, F, env, d, env', R, r, e, k⟩ => by
    unfold gT at e
    split at e
    · rename_i ds
      split at e
      · rename_i hl
        cases r with
        | tup hh rs => exact ⟨_, _, rfl, hh.sq, rs.length.trans hl, B, F, env, ds, env', R, rs, e, k⟩
      · cases e
    · cases e
theorem h_ix {i : Nat} {x : Str} {p' : Pos} (hi : SE X e fe) (hN : X.N[i]? = some x := by rfl) (hv : Vis X.env.scope x := by first | exact Or.inl rfl | exact Or.inr (Or.inl rfl) | exact Or.inr (Or.inr rfl)) (hd : (x == ("__debug__" : Str)) = false := by decide)
    (hcd : (x == ("__classdict__" : Str)) = false := by decide) (ha : ∀ v, assign (.Subscript (.Name x p') e pos) X.env v = (do
      let ov ← holding [v] (eval (.Name x p') X.env)
      let iv ← holding [v, ov] (eval e X.env)
      standAt pos
      holding [v, ov, iv] (setItem ov iv v)
      release [v, ov, iv] []) := by intro _; rfl) : PG X (.Subscript (.Name x p') e pos) (tH X.K (gIx i fe)) :=
  PG.imp (pg_sub (pe_var hN hv hd hcd) hi set_list ha) fun v σ H Q ⟨B, F, env, d, env', R, r, e, k⟩ => by
    unfold gIx at e
    split at e
    · rename_i p0 ds0 h0
      obtain ⟨a, _, hu, _⟩ := R.own i p0 ds0 h0
      split at e
      · rename_i k' e1 h1
        split at e
        · rename_i p ds h2
          split at e
          · rename_i j h3
            cases e
            refine ⟨_, hu, B, F, env, _, e1, R, h1, fun w F1 H1 E1 R1 r1 => ?_⟩
            obtain ⟨a, xs, s1, hh, nf, rx, z⟩ := R1.own i p ds h2
            rw [hu] at s1
            cases s1
            cases r1
            have rx' := Reps.set (E1.rep R r) j rx
            obtain ⟨R2, k2⟩ := R1.chg h2 hu rx'
            exact ⟨_, xs, k', j, rfl, rfl, hh, by rw [rx.length]; exact h3, k σ F1 _ ((E1.keep R).trans ⟨fun _ z => z, k2⟩) R2⟩
          · cases e
        · cases e
      · cases e
    · cases e
end

/-! ### statements -/
/-- what is handed back: a value, or (fr) a list that nobody holds -/
def RetOk (fr : Bool) (K : PySem.W.Frag) (B : Bas) (F : Fz) (H : Hp) (v : V) (d : PyData) : Prop :=
  if fr then ∃ a xs ds, d = .list ds ∧ v = .ref a ∧ H a = some (.lst xs) ∧ ¬ F a ∧ Reps K F H xs ds ∧ B.H0 a = none else Rep K F H v d
def Goal (fr : Bool) (K : PySem.W.Frag) (B : Bas) (D : Ends) (fl : Fl) (σ : L2.St) (F : Fz) (H : Hp) : Prop := match fl with
  | .nx => D.nx σ H
  | .bk => D.bk σ H
  | .ct => D.ct σ H
  | .rt d => ∀ v, RetOk fr K B F H v d → D.rt v H
def tS (fr : Bool) (K : PySem.W.Frag) (f : SF) : TS := fun D σ H => ∃ B F env fl env', Rel K B F env σ H ∧ f env = some (fl, env') ∧
  ∀ σ' F' H', Keep F H F' H' → Rel K B F' env' σ' H' → Goal fr K B D fl σ' F' H'
abbrev SS (fr : Bool) (X : Cx) (s : Stmt) (f : SF) : Prop := PS X s (tS fr X.K f)
abbrev SSs (fr : Bool) (X : Cx) (s : List Stmt) (f : SF) : Prop := PSs X s (tS fr X.K f)
@[simp] def nxF : SF := fun env => some (.nx, env)
@[simp] def bkF : SF := fun env => some (.bk, env)
@[simp] def ctF : SF := fun env => some (.ct, env)
@[simp] def noF : SF := fun _ => none
@[simp] def seqF (f g : SF) : SF := fun env => match f env with
  | some (.nx, e1) => g e1
  | r => r
@[simp] def asgF (fe : EF) (g : GF) : SF := fun env => match fe env with
  | some (d, e1) => match g d e1 with
    | some e2 => some (.nx, e2)
    | none => none
  | none => none
/-- x = a new list -/
@[simp] def asgO (fl : LF) (i : Nat) : SF := fun env => match fl env with
  | some (ds, e1) => some (.nx, e1.set i (.ow false ds))
  | none => none
@[simp] def dropF (fe : EF) : SF := fun env => match fe env with
  | some (_, e1) => some (.nx, e1)
  | none => none
@[simp] def appF (i : Nat) (fe : EF) : SF := fun env => match env[i]? with
  | some (.ow _ _) => match fe env with
    | some (d, e1) => match e1[i]? with
      | some (.ow p ds) => if ds.length < sizeLine then some (.nx, e1.set i (.ow p (ds ++ [d]))) else none
      | _ => none
    | none => none
  | _ => none
@[simp] def iteS (ft : TF) (f g : SF) : SF := fun env => match ft env with
  | some (true, e1) => f e1
  | some (false, e1) => g e1
  | none => none
@[simp] def retF (fe : EF) : SF := fun env => match fe env with
  | some (d, e1) => some (.rt d, e1)
  | none => none
@[simp] def retL (fl : LF) : SF := fun env => match fl env with
  | some (ds, e1) => some (.rt (.list ds), e1)
  | none => none
@[simp] def retO (i : Nat) : SF := fun env => match env[i]? with
  | some (.ow false ds) => some (.rt (.list ds), env)
  | _ => none
def whF (ft : TF) (b : SF) : Nat → SF
  | 0, _ => none
  | n + 1, env => match ft env with
    | some (true, e1) => match b e1 with
      | some (.nx, e2) => whF ft b n e2
      | some (.ct, e2) => whF ft b n e2
      | some (.bk, e2) => some (.nx, e2)
      | some (.rt d, e2) => some (.rt d, e2)
      | none => none
    | some (false, e1) => some (.nx, e1)
    | none => none
def forF (g : GF) (b : SF) : List PyData → SF
  | [], env => some (.nx, env)
  | d :: ds, env => match g d env with
    | some e1 => match b e1 with
      | some (.nx, e2) => forF g b ds e2
      | some (.ct, e2) => forF g b ds e2
      | some (.bk, e2) => some (.nx, e2)
      | some (.rt d, e2) => some (.rt d, e2)
      | none => none
    | none => none
def forS (fi : LF) (g : GF) (b : SF) : SF := fun env => match fi env with
  | some (ds, e1) => forF g b ds e1
  | none => none
section
variable {X : Cx} {fr : Bool} {a b c e : Expr} {es rest : List Expr} {fa fb fc fe : EF} {fs fl fm : LF} {ft fu : TF} {pos : Pos} {g : GF} {h : GFs} {ts us : List Nat} {n : Nat} {st : Stmt} {sts st1 st2 : List Stmt} {f f1 f2 : SF}
theorem Goal.mono {K : PySem.W.Frag} {B : Bas} {D : Ends} {fl : Fl} {σ : L2.St} {F F1 : Fz} {H : Hp} (h : Goal fr K B D fl σ F H) (e : F = F1) : Goal fr K B D fl σ F1 H := e ▸ h
theorem ss_nil : SSs fr X [] nxF := PSs.imp pss_nil fun D σ H ⟨B, F, env, fl, env', R, e, k⟩ => by
  cases e
  exact k σ F H .refl R
theorem ss_one (h : SS fr X st f) : SSs fr X [st] f := pss_one h
theorem ss_cons (h1 : SS fr X st f1) (h2 : SSs fr X sts f2) : SSs fr X (st :: sts) (seqF f1 f2) := PSs.imp (pss_cons h1 h2) fun D σ H ⟨B, F, env, fl, env', R, e, k⟩ => by
  unfold seqF at e
  split at e
  · rename_i e1 h1
    exact ⟨B, F, env, .nx, e1, R, h1, fun σ1 F1 H1 k1 R1 => ⟨B, F1, e1, fl, env', R1, e, fun σ2 F2 H2 k2 R2 => k σ2 F2 H2 (k1.trans k2) R2⟩⟩
  · rename_i hn
    refine ⟨B, F, env, fl, env', R, e, fun σ1 F1 H1 k1 R1 => ?_⟩
    have q := k σ1 F1 H1 k1 R1
    cases fl with
    | nx => exact absurd e (hn env')
    | bk => exact q
    | ct => exact q
    | rt d => exact q
theorem ss_never : SS fr X st noF := PS.imp ps_never fun D σ H ⟨B, F, env, fl, env', R, e, k⟩ => by cases e
theorem ss_pass : SS fr X (.Pass pos) nxF := PS.imp ps_pass fun D σ H ⟨B, F, env, fl, env', R, e, k⟩ => by
  cases e
  exact k σ F H .refl R
theorem ss_break : SS fr X (.Break pos) bkF := PS.imp ps_break fun D σ H ⟨B, F, env, fl, env', R, e, k⟩ => by
  cases e
  exact k σ F H .refl R
theorem ss_cont : SS fr X (.Continue pos) ctF := PS.imp ps_continue fun D σ H ⟨B, F, env, fl, env', R, e, k⟩ => by
  cases e
  exact k σ F H .refl R
theorem ss_doc {x j pos'} : SS fr X (.Expr (.Constant (.str x) j pos) pos') nxF := PS.imp ps_doc fun D σ H ⟨B, F, env, fl, env', R, e, k⟩ => by
  cases e
  exact k σ F H .refl R
theorem asg_of {K : PySem.W.Frag} {D : Ends} {σ : L2.St} {H : Hp} (h : tS fr K (asgF fe g) D σ H) : tAsg (tE K fe) (tH K g) D σ H := by
  obtain ⟨B, F, env, fl, env', R, e, k⟩ := h
  unfold asgF at e
  split at e
  · rename_i d e1 h1
    split at e
    · rename_i e2 h2
      cases e
      exact ⟨B, F, env, d, e1, R, h1, fun v F1 H1 E1 R1 r1 => ⟨B, F1, e1, d, env', R1, r1, h2, fun σ2 F2 H2 k2 R2 => k σ2 F2 H2 ((E1.keep R).trans k2) R2⟩⟩
    · cases e
  · cases e
theorem ss_asg {tg : Expr} (he : SE X e fe) (hg : PG X tg (tH X.K g)) (hs : swapsWithSole [tg] e pos.line X.env = pure false := by rfl) (hw : swappedStores [tg] e X.env = pure none := by rfl)
    (h1 : (assignEach [tg] X.env).map (·.2) = [assign tg X.env] := by rfl) : SS fr X (.Assign [tg] e pos) (asgF fe g) := PS.imp (ps_asg he hg hs hw h1) fun _ _ _ h => asg_of h
/-- an owned name -/
theorem asgO_of {K : PySem.W.Frag} {D : Ends} {σ : L2.St} {H : Hp} {i : Nat} (h : tS fr K (asgO fl i) D σ H) : tAsg (tL K fl) (gName i) D σ H := by
  obtain ⟨B, F, env, f', env', R, e, k⟩ := h
  unfold asgO at e
  split at e
  · rename_i ds e1 h1
    cases e
    refine ⟨B, F, env, ds, e1, R, h1, fun a xs F1 H1 E1 R1 hn hh nf r => ?_⟩
    exact k _ F1 H1 (E1.keep R) (R1.setOw i hh nf r (R.free0 hn) fun o => R.free_own hn (E1.f4 _ o))
  · cases e
theorem ss_asgO {i : Nat} {x : Str} {p' : Pos} (he : SL X e fl) (hN : X.N.Nodup) (hi : X.N[i]? = some x := by rfl) (hx : Loc X.env.scope x := by first | exact .inl rfl | exact .inr rfl) (hs : swapsWith e (some (.Name x p')) pos.line X.env = pure false := by rfl) (hf : X.fn x = true ∨ X.env.scope.names.lookup x = some .local := by first | exact .inl rfl | exact .inr rfl) :
    SS fr X (.Assign [.Name x p'] e pos) (asgO fl i) := PS.imp (ps_set hN hi hx he hs hf) fun _ _ _ h => asgO_of h
theorem ss_drop (he : SE X e fe) (hs : swapsWith e none pos.line X.env = pure false := by rfl) : SS fr X (.Expr e pos) (dropF fe) := PS.imp (ps_expr he hs) fun D σ H ⟨B, F, env, fl, env', R, e, k⟩ => by
  unfold dropF at e
  split at e
  · rename_i d e1 h1
    cases e
    exact ⟨B, F, env, d, _, R, h1, fun v F1 H1 E1 R1 r1 => k σ F1 H1 (E1.keep R) R1⟩
  · cases e
theorem ss_app {i : Nat} {x : Str} {p' apos cpos : Pos} (he : SE X e fe) (hN : X.N[i]? = some x := by rfl) (hv : Vis X.env.scope x := by first | exact Or.inl rfl | exact Or.inr (Or.inl rfl) | exact Or.inr (Or.inr rfl)) (hd : (x == ("__debug__" : Str)) = false := by decide)
    (hcd : (x == ("__classdict__" : Str)) = false := by decide)
    (hp : PE X (.Call (.Attribute (.Name x p') "append" apos) [e] [] cpos) (tBM X.K "list" rAppend (tVar i) (tCons (tE X.K fe) tNil)))
    (hs : swapsWith (.Call (.Attribute (.Name x p') "append" apos) [e] [] cpos) none pos.line X.env = pure false := by rfl) : SS fr X (.Expr (.Call (.Attribute (.Name x p') "append" apos) [e] [] cpos) pos) (appF i fe) :=
  PS.imp (ps_expr hp hs) fun D σ H ⟨B, F, env, fl, env', R, e, k⟩ => by
    unfold appF at e
    split at e
    · rename_i p0 ds0 h0
      obtain ⟨a, ys, hu, hh0, _⟩ := R.own i p0 ds0 h0
      split at e
      · rename_i d e1 h1
        split at e
        · rename_i p ds h2
          split at e
          · rename_i hz
            cases e
            refine ⟨_, hu, .inl ⟨rfl, _, .inl (.inl hh0)⟩, B, F, env, d, e1, R, h1, fun w F1 H1 E1 R1 r1 => ?_⟩
            obtain ⟨a, xs, s1, hh, nf, rx, z⟩ := R1.own i p ds h2
            rw [hu] at s1
            cases s1
            obtain ⟨R2, k2⟩ := R1.chg h2 hu (rx.append (.cons r1 .nil))
            exact ⟨_, xs, w, rfl, rfl, hh, by rw [rx.length]; exact hz, k σ F1 _ ((E1.keep R).trans ⟨fun _ z => z, k2⟩) R2⟩
          · cases e
        · cases e
      · cases e
    · cases e
theorem ss_if (hc : ST X c ft) (ha : SSs fr X st1 f1) (hb : SSs fr X st2 f2) : SS fr X (.If c st1 st2 pos) (iteS ft f1 f2) := PS.imp (ps_if hc ha hb) fun D σ H ⟨B, F, env, fl, env', R, e, k⟩ => by
  unfold iteS at e
  split at e
  · rename_i e1 h1
    refine ⟨B, F, env, true, e1, R, h1, fun F1 H1 E1 R1 => ?_⟩
    exact iteT ⟨B, F1, e1, fl, env', R1, e, fun σ2 F2 H2 k2 R2 => k σ2 F2 H2 ((E1.keep R).trans k2) R2⟩
  · rename_i e1 h1
    refine ⟨B, F, env, false, e1, R, h1, fun F1 H1 E1 R1 => ?_⟩
    exact iteF ⟨B, F1, e1, fl, env', R1, e, fun σ2 F2 H2 k2 R2 => k σ2 F2 H2 ((E1.keep R).trans k2) R2⟩
  · cases e
theorem ss_ret (he : SE X e fe) : SS false X (.Return (some e) pos) (retF fe) := PS.imp (ps_ret he) fun D σ H ⟨B, F, env, fl, env', R, e, k⟩ => by
  unfold retF at e
  split at e
  · rename_i d e1 h1
    cases e
    exact ⟨B, F, env, d, _, R, h1, fun v F1 H1 E1 R1 r1 => k σ F1 H1 (E1.keep R) R1 v r1⟩
  · cases e
theorem ss_retN : SS false X (.Return none pos) (retF (cst .none)) := PS.imp ps_retN fun D σ H ⟨B, F, env, fl, env', R, e, k⟩ => by
  cases e
  exact k σ F H .refl R .non .non
theorem ss_retL (he : SL X e fl) : SS true X (.Return (some e) pos) (retL fl) := PS.imp (ps_ret he) fun D σ H ⟨B, F, env, f', env', R, e, k⟩ => by
  unfold retL at e
  split at e
  · rename_i ds e1 h1
    cases e
    exact ⟨B, F, env, ds, _, R, h1, fun a xs F1 H1 E1 R1 hn hh nf r => k σ F1 H1 (E1.keep R) R1 _ ⟨a, xs, ds, rfl, rfl, hh, nf, r, R.free0 hn⟩⟩
  · cases e
theorem ss_retO {i : Nat} {x : Str} {p' : Pos} (hN : X.N[i]? = some x := by rfl) (hv : Vis X.env.scope x := by first | exact Or.inl rfl | exact Or.inr (Or.inl rfl) | exact Or.inr (Or.inr rfl)) (hd : (x == ("__debug__" : Str)) = false := by decide)
    (hcd : (x == ("__classdict__" : Str)) = false := by decide) : SS true X (.Return (some (.Name x p')) pos) (retO i) := PS.imp (ps_ret (pe_var hN hv hd hcd)) fun D σ H ⟨B, F, env, f', env', R, e, k⟩ => by
  unfold retO at e
  split at e
  · rename_i ds h1
    cases e
    obtain ⟨a, xs, hu, hh, nf, r, z⟩ := R.own i _ _ h1
    exact ⟨_, hu, k σ F H .refl R _ ⟨a, xs, ds, rfl, rfl, hh, nf, r, z⟩⟩
  · cases e
theorem ss_while (hp : PassesOwn (model X.prog X.w) X.A X.env X.xe) (hc : ST X c ft) (hb : SSs fr X sts f) : SS fr X (.While c sts [] pos) (whF ft f n) := PS.imp (ps_while hp hc hb) fun D σ H ⟨B, F, env, fl, env', R, e, k⟩ => by
  refine ⟨fun m σ' H' => ∃ F' env1, Keep F H F' H' ∧ Rel X.K B F' env1 σ' H' ∧ whF ft f m env1 = some (fl, env'), ⟨n, F, env, .refl, R, e⟩, ?_⟩
  rintro m σ1 H1 ⟨F1, env1, k1, R1, e1⟩
  cases m with
  | zero => cases e1
  | succ m =>
    unfold whF at e1
    split at e1
    · rename_i e2 h2
      refine ⟨B, F1, env1, true, e2, R1, h2, fun F2 H2 E2 R2 => iteT ⟨fun σ' H' => ∃ m', m' < m + 1 ∧ ∃ F' env1, Keep F H F' H' ∧ Rel X.K B F' env1 σ' H' ∧ whF ft f m' env1 = some (fl, env'), fun σ' H' q => q, ?_⟩⟩
      split at e1
      · rename_i e3 h3
        exact ⟨B, F2, e2, .nx, e3, R2, h3, fun σ3 F3 H3 k3 R3 => ⟨m, Nat.lt_succ_self _, F3, e3, (k1.trans (E2.keep R1)).trans k3, R3, e1⟩⟩
      · rename_i e3 h3
        exact ⟨B, F2, e2, .ct, e3, R2, h3, fun σ3 F3 H3 k3 R3 => ⟨m, Nat.lt_succ_self _, F3, e3, (k1.trans (E2.keep R1)).trans k3, R3, e1⟩⟩
      · rename_i e3 h3
        cases e1
        exact ⟨B, F2, e2, .bk, env', R2, h3, fun σ3 F3 H3 k3 R3 => k σ3 F3 H3 ((k1.trans (E2.keep R1)).trans k3) R3⟩
      · rename_i d e3 h3
        cases e1
        exact ⟨B, F2, e2, .rt d, env', R2, h3, fun σ3 F3 H3 k3 R3 => k σ3 F3 H3 ((k1.trans (E2.keep R1)).trans k3) R3⟩
      · cases e1
    · rename_i e2 h2
      cases e1
      exact ⟨B, F1, env1, false, env', R1, h2, fun F2 H2 E2 R2 => iteF (k σ1 F2 H2 (k1.trans (E2.keep R1)) R2)⟩
    · cases e1
end
/-! ### what is walked -/
def WalkOk (K : PySem.W.Frag) (J : It) (ds : List PyData) (F1 : Fz) (H1 : Hp) : Prop := ∀ (i : Nat) (F : Fz) (H : Hp), Keep F1 H1 F H → Dom F H →
  (∀ d, ds[i]? = some d → J.go i H ∧ ∀ x H', J.yld i H x H' → ∃ F', New F H F' H' ∧ Rep K F' H' x d) ∧ (ds[i]? = none → J.stop i H)
def tI (K : PySem.W.Frag) (f : LF) : TI := fun σ H R => ∃ B F env ds env', Rel K B F env σ H ∧ f env = some (ds, env') ∧
  ∀ J F' H', Ext σ env F H env' F' H' → Rel K B F' env' σ H' → WalkOk K J ds F' H' → R J H'
abbrev SI (X : Cx) (tg e : Expr) (f : LF) : Prop := PI X tg e (tI X.K f)
theorem PI.imp {X : Cx} {tg e : Expr} {t t' : TI} (h : PI X tg e t) (m : ∀ σ H Q, t' σ H Q → t σ H Q) : PI X tg e t' := ⟨fun pins s σ H R I q => h.run pins s σ H R I (m σ H R q)⟩
theorem drop_cons {α : Type} {ds : List α} {i : Nat} {d : α} (h : ds[i]? = some d) : ds.drop i = d :: ds.drop (i + 1) := by
  obtain ⟨h1, h2⟩ := List.getElem?_eq_some_iff.mp h
  rw [List.drop_eq_getElem_cons h1, h2]
section
variable {X : Cx} {fr : Bool} {a b c e : Expr} {es rest : List Expr} {fa fb fc fe : EF} {fs fl fm fi : LF} {ft fu : TF} {pos : Pos} {g : GF} {h : GFs} {ts us : List Nat} {n : Nat} {st : Stmt} {sts st1 st2 : List Stmt} {f f1 f2 : SF}
theorem ss_for {tg : Expr} (hp : PassesOwn (model X.prog X.w) X.A X.env X.xe) (hc : X.calm = true) (hi : SI X tg e fi) (hg : PG X tg (tH X.K g)) (hb : SSs fr X sts f) (hs : ∀ x, foldedSetIterable e X.env x = pure x := by intro _; rfl) :
    SS fr X (.For tg e sts [] pos) (forS fi g f) := PS.imp (ps_for hp hc hi hg hb hs) fun D σ H ⟨B, F, env, fl, env', R, e, k⟩ => by
  unfold forS at e
  split at e
  · rename_i ds e1 h1
    refine ⟨B, F, env, ds, e1, R, h1, fun J F1 H1 E1 R1 wk => ?_⟩
    refine ⟨fun i m σ' H' => m = ds.length - i ∧ ∃ F' env1, Keep F1 H1 F' H' ∧ Rel X.K B F' env1 σ' H' ∧ forF g f (ds.drop i) env1 = some (fl, env'), ⟨_, rfl, F1, e1, .refl, R1, by simpa using e⟩, ?_⟩
    rintro i m σ2 H2 ⟨rfl, F2, e2, k2, R2, q⟩
    obtain ⟨w1, w2⟩ := wk i F2 H2 k2 R2.dom
    cases hd : ds[i]? with
    | none =>
      have hl : ds.length ≤ i := List.getElem?_eq_none_iff.mp hd
      rw [List.drop_eq_nil_of_le hl] at q
      cases q
      exact .inl ⟨w2 hd, k σ2 F2 H2 ((E1.keep R).trans k2) R2⟩
    | some d =>
      have hl : i < ds.length := (List.getElem?_eq_some_iff.mp hd).1
      obtain ⟨go, yl⟩ := w1 d hd
      rw [drop_cons hd] at q
      refine .inr ⟨go, fun σ' H' => ∃ F' env1, Keep F1 H1 F' H' ∧ Rel X.K B F' env1 σ' H' ∧ forF g f (ds.drop (i + 1)) env1 = some (fl, env'), fun σ' H' z => ⟨ds.length - (i + 1), by omega, rfl, z⟩, fun x H3 y => ?_⟩
      obtain ⟨F3, N, r⟩ := yl x H3 y
      unfold forF at q
      split at q
      · rename_i e4 h4
        refine ⟨B, F3, e2, d, e4, R2.alloc N, r, h4, fun σ5 F5 H5 k5 R5 => ?_⟩
        have kk : Keep F1 H1 F5 H5 := (k2.trans N.keep).trans k5
        split at q
        · rename_i e6 h6
          exact ⟨B, F5, e4, .nx, e6, R5, h6, fun σ7 F7 H7 k7 R7 => ⟨F7, e6, kk.trans k7, R7, q⟩⟩
        · rename_i e6 h6
          exact ⟨B, F5, e4, .ct, e6, R5, h6, fun σ7 F7 H7 k7 R7 => ⟨F7, e6, kk.trans k7, R7, q⟩⟩
        · rename_i e6 h6
          cases q
          exact ⟨B, F5, e4, .bk, env', R5, h6, fun σ7 F7 H7 k7 R7 => k σ7 F7 H7 (((E1.keep R).trans kk).trans k7) R7⟩
        · rename_i d' e6 h6
          cases q
          exact ⟨B, F5, e4, .rt d', env', R5, h6, fun σ7 F7 H7 k7 R7 => k σ7 F7 H7 (((E1.keep R).trans kk).trans k7) R7⟩
        · cases q
      · cases q
  · cases e
end
end Sm

set_option Elab.async false
set_option linter.all false
set_option maxRecDepth 100000
set_option maxHeartbeats 4000000
namespace Sm
open PySem PySem.Spec PyProof.Rows L2
variable [Tb]

/-! ### defs -/
section
variable {P : Program} {w : World} {K : PySem.W.Frag} {mg : Str → Option Value} {base : Heap}
/-- a def that changes none of its arguments -/
def spP (K : PySem.W.Frag) (n : Nat) (den : List PyData → Option PyData) : Sp := fun vs H Q _ => ∃ F ds r, ds.length = n ∧ Dom F H ∧ Reps K F H vs ds ∧ den ds = some r ∧
  ∀ v F' H', New F H F' H' → Rep K F' H' v r → Q v H'
/-- .. and hands back a new list -/
def spL (K : PySem.W.Frag) (n : Nat) (den : List PyData → Option (List PyData)) : Sp := fun vs H Q _ => ∃ F ds r, ds.length = n ∧ Dom F H ∧ Reps K F H vs ds ∧ den ds = some r ∧
  ∀ a xs F' H', New F H F' H' → H a = none → H' a = some (.lst xs) → ¬ F' a → Reps K F' H' xs r → Q (.ref a) H'
/-- what a def that changes its first argument, a list, leaves -/
structure NewM (p : Addr) (F : Fz) (H : Hp) (F' : Fz) (H' : Hp) : Prop where
  f1 : ∀ a, F a → F' a
  f2 : ∀ a, F' a → F a ∨ H a = none
  f3 : ∀ a o, H a = some o → a ≠ p → Stay H' a o
  f4 : Dom F' H'
theorem NewM.kp {p : Addr} {F : Fz} {H : Hp} {F' : Fz} {H' : Hp} (n : NewM p F H F' H') (nf : ¬ F p) : ∀ a o, F a → H a = some o → H' a = some o := fun a o f z => by
  obtain ⟨u, e, nt⟩ := n.f4.ne a (n.f1 a f)
  exact (n.f3 a o z fun q => nf (by rw [← q]; exact f)).get' e nt
def spM (K : PySem.W.Frag) (n : Nat) (den : List PyData → List PyData → Option (PyData × List PyData)) : Sp := fun vs H Q _ => ∃ F p xs ps vs' ds r ps', vs = .ref p :: vs' ∧ ds.length = n ∧ Dom F H ∧ H p = some (.lst xs) ∧ ¬ F p ∧
  Reps K F H xs ps ∧ Reps K F H vs' ds ∧ den ps ds = some (r, ps') ∧ ∀ v xs' F' H', NewM p F H F' H' → H' p = some (.lst xs') → ¬ F' p → Reps K F' H' xs' ps' → Rep K F' H' v r → Q v H'
def spML (K : PySem.W.Frag) (n : Nat) (den : List PyData → List PyData → Option (List PyData × List PyData)) : Sp := fun vs H Q _ => ∃ F p xs ps vs' ds r ps', vs = .ref p :: vs' ∧ ds.length = n ∧ Dom F H ∧ H p = some (.lst xs) ∧ ¬ F p ∧
  Reps K F H xs ps ∧ Reps K F H vs' ds ∧ den ps ds = some (r, ps') ∧ ∀ a ys xs' F' H', NewM p F H F' H' → H' p = some (.lst xs') → ¬ F' p → Reps K F' H' xs' ps' → H a = none → H' a = some (.lst ys) → ¬ F' a → Reps K F' H' ys r → Q (.ref a) H'

def entry (n : Nat) (ds : List PyData) : En := ds.map .va ++ List.replicate (n - ds.length) .no
def denP (n : Nat) (f : SF) (ds : List PyData) : Option PyData := match f (entry n ds) with
  | some (.rt r, _) => some r
  | some (.nx, _) => some .none
  | _ => none
def denL (n : Nat) (f : SF) (ds : List PyData) : Option (List PyData) := match f (entry n ds) with
  | some (.rt (.list r), _) => some r
  | _ => none
def entryM (n : Nat) (ps ds : List PyData) : En := .ow true ps :: entry (n - 1) ds
@[simp] def par0 (e : En) : Option (List PyData) := match (e[0]? : Option Sl) with
  | some (Sl.ow true ps') => some ps'
  | _ => none
theorem par0_some {e : En} {ps : List PyData} (h : par0 e = some ps) : e[0]? = some (.ow true ps) := by
  unfold par0 at h
  split at h
  · rename_i q
    cases h
    exact q
  · cases h
def denM (n : Nat) (f : SF) (ps ds : List PyData) : Option (PyData × List PyData) := match f (entryM n ps ds) with
  | some (.rt r, e) => match par0 e with
    | some ps' => some (r, ps')
    | none => none
  | some (.nx, e) => match par0 e with
    | some ps' => some (.none, ps')
    | none => none
  | _ => none
def denML (n : Nat) (f : SF) (ps ds : List PyData) : Option (List PyData × List PyData) := match f (entryM n ps ds) with
  | some (.rt (.list r), e) => match par0 e with
    | some ps' => some (r, ps')
    | none => none
  | _ => none

theorem entry_val {n i : Nat} {ds : List PyData} {s : Sl} (h : (entry n ds)[i]? = some s) (hs : s ≠ .no) : ∃ d, ds[i]? = some d ∧ s = .va d := by
  unfold entry at h
  by_cases hi : i < ds.length
  · rw [List.getElem?_append_left (by simpa using hi), List.getElem?_map] at h
    cases e : ds[i]? with
    | none => rw [e] at h; cases h
    | some d => rw [e] at h; cases h; exact ⟨d, rfl, rfl⟩
  · rw [List.getElem?_append_right (by simpa using hi)] at h
    rw [List.getElem?_replicate] at h
    split at h
    · cases h; exact absurd rfl hs
    · cases h
theorem start_val {N : List Str} {vs : List V} {i : Nat} {v : V} (h : vs[i]? = some v) : (L2.start N vs)[i]? = some (some v) := by
  unfold L2.start
  have hi : i < vs.length := (List.getElem?_eq_some_iff.mp h).1
  rw [List.getElem?_append_left (by simpa using hi), List.getElem?_map, h]
  rfl
theorem start_len {N : List Str} {vs : List V} (h : vs.length ≤ N.length) : (L2.start N vs).length = N.length := by
  unfold L2.start
  rw [List.length_append, List.length_map, List.length_replicate]
  omega
theorem entry_len {n : Nat} {ds : List PyData} (h : ds.length ≤ n) : (entry n ds).length = n := by
  unfold entry
  rw [List.length_append, List.length_map, List.length_replicate]
  omega
theorem rel_entry {F : Fz} {H : Hp} {N : List Str} {vs : List V} {ds : List PyData} (hd : Dom F H) (r : Reps K F H vs ds) (hl : ds.length ≤ N.length) : Rel K ⟨H, F, none⟩ F (entry N.length ds) (L2.start N vs) H := by
  have no : ∀ {i : Nat} {p : Bool} {es : List PyData}, (entry N.length ds)[i]? = some (Sl.ow p es) → False := fun {i p es} e => by
    obtain ⟨d, _, q⟩ := entry_val e (fun z => nomatch z)
    cases q
  refine ⟨fun i d e => ?_, fun i p es e => (no e).elim, fun i j p q es es' a e _ _ _ => (no e).elim, hd, fun a o e _ => .of e, fun a f => .inl f, fun a f => f, (fun a e => nomatch e), ?_⟩
  · obtain ⟨d', h1, h2⟩ := entry_val e (fun z => nomatch z)
    cases h2
    obtain ⟨v, h3, h4⟩ := r.get h1
    exact ⟨v, start_val h3, h4⟩
  · rw [start_len (by rw [r.length]; exact hl), entry_len hl]
theorem rel_entryM {F : Fz} {H : Hp} {N : List Str} {p : Addr} {xs vs : List V} {ps ds : List PyData} (hd : Dom F H) (hh : H p = some (.lst xs)) (nf : ¬ F p) (rp : Reps K F H xs ps) (r : Reps K F H vs ds) (hl : ds.length + 1 ≤ N.length) :
    Rel K ⟨H, F, some p⟩ F (entryM N.length ps ds) (L2.start N (.ref p :: vs)) H := by
  have one : ∀ {i s}, (entryM N.length ps ds)[i]? = some s → s ≠ .no → (i = 0 ∧ s = .ow true ps) ∨ ∃ j d, i = j + 1 ∧ ds[j]? = some d ∧ s = .va d := fun {i s} e hs => by
    cases i with
    | zero => cases e; exact .inl ⟨rfl, rfl⟩
    | succ j =>
      obtain ⟨d, h1, h2⟩ := entry_val (n := N.length - 1) (ds := ds) (i := j) e hs
      exact .inr ⟨j, d, rfl, h1, h2⟩
  refine ⟨fun i d e => ?_, fun i q es e => ?_, fun i j q q' es es' a e1 e2 s1 s2 => ?_, hd, fun a o e _ => .of e, fun a f => .inl f, fun a f => f, fun a e => ?_, ?_⟩
  · rcases one e (fun z => nomatch z) with ⟨_, h2⟩ | ⟨j, d', rfl, h1, h2⟩
    · cases h2
    · cases h2
      obtain ⟨v, h3, h4⟩ := r.get h1
      exact ⟨v, start_val (by simpa using h3), h4⟩
  · rcases one e (fun z => nomatch z) with ⟨rfl, h2⟩ | ⟨j, d', rfl, h1, h2⟩
    · cases h2
      exact ⟨p, xs, start_val (by rfl), hh, nf, rp, rfl⟩
    · cases h2
  · rcases one e1 (fun z => nomatch z) with ⟨rfl, _⟩ | ⟨_, _, _, _, h2⟩
    · rcases one e2 (fun z => nomatch z) with ⟨rfl, _⟩ | ⟨_, _, _, _, h2⟩
      · rfl
      · cases h2
    · cases h2
  · cases e
    exact ⟨(by rw [hh]; exact (fun z => nomatch z)), nf, (by show H p ≠ none; rw [hh]; exact (fun z => nomatch z))⟩
  · have h1 : (L2.start N (V.ref p :: vs)).length = N.length := start_len (by simp [r.length]; omega)
    rw [h1]
    show _ = (entry (N.length - 1) ds).length + 1
    rw [entry_len (by omega)]
    omega

/-- the walk of a def -/
structure Walked (CX : CXT) (P : Program) (w : World) (K : PySem.W.Frag) (mg : Str → Option Value) (base : Heap) (N : List Str) (qual : Str) (st : Stmt) (f : Addr) (k : Nat) (fr : Bool) (g : SF) : Prop where
  body : ∀ (cdv : Value) (A : Around) (outer : List Env) (s : Shared) (H : Hp) (E : XK), Room k (A.deeper (envOfC qual (defScope st) s.heap.objs.size f cdv)) →
    SSs fr (cxOf CX P w K mg base N qual (defScope st) f cdv A outer s H E).nox (defBody st) g

theorem run_P {N : List Str} {n : Nat} {g : SF} {vs : List V} {H : Hp} {Q : VK} {E : XK} (hpl : n ≤ N.length) (h : spP K n (denP N.length g) vs H Q E) : tS false K g { nx := fun _ H' => Q .non H', rt := Q } (L2.start N vs) H := by
  obtain ⟨F, ds, r, hl, hd, rs, hden, q⟩ := h
  have R := rel_entry (N := N) hd rs (by omega)
  have fin : ∀ {σ' : L2.St} {F' : Fz} {H' : Hp} {env' : En}, Rel K ⟨H, F, none⟩ F' env' σ' H' → New F H F' H' := fun R' => ⟨R'.sub, R'.new, fun a o e => R'.old a o e (fun z => nomatch z), R'.dom⟩
  unfold denP at hden
  split at hden
  · rename_i r' e1 h1
    cases hden
    exact ⟨_, F, _, _, e1, R, h1, fun σ' F' H' _ R' v rv => q v F' H' (fin R') rv⟩
  · rename_i e1 h1
    cases hden
    exact ⟨_, F, _, _, e1, R, h1, fun σ' F' H' _ R' => q _ F' H' (fin R') .non⟩
  · cases hden
theorem run_L {N : List Str} {n : Nat} {g : SF} {vs : List V} {H : Hp} {Q : VK} {E : XK} (hpl : n ≤ N.length) (h : spL K n (denL N.length g) vs H Q E) : tS true K g { nx := fun _ H' => Q .non H', rt := Q } (L2.start N vs) H := by
  obtain ⟨F, ds, r, hl, hd, rs, hden, q⟩ := h
  have R := rel_entry (N := N) hd rs (by omega)
  have fin : ∀ {σ' : L2.St} {F' : Fz} {H' : Hp} {env' : En}, Rel K ⟨H, F, none⟩ F' env' σ' H' → New F H F' H' := fun R' => ⟨R'.sub, R'.new, fun a o e => R'.old a o e (fun z => nomatch z), R'.dom⟩
  unfold denL at hden
  split at hden
  · rename_i r' e1 h1
    cases hden
    refine ⟨_, F, _, _, e1, R, h1, fun σ' F' H' _ R' v rv => ?_⟩
    obtain ⟨a, xs, ds', e, rfl, hh, nf, rr, h0⟩ := rv
    cases e
    exact q a xs F' H' (fin R') h0 hh nf rr
  · cases hden
theorem fin_M {F F' : Fz} {H H' : Hp} {p : Addr} {env' : En} {σ' : L2.St} {ps' : List PyData} (R' : Rel K ⟨H, F, some p⟩ F' env' σ' H') (e : par0 env' = some ps') : NewM p F H F' H' ∧ ∃ xs', H' p = some (.lst xs') ∧ ¬ F' p ∧ Reps K F' H' xs' ps' := by
  refine ⟨⟨R'.sub, R'.new, fun a o e n => R'.old a o e (fun z => n (Option.some.inj z).symm), R'.dom⟩, ?_⟩
  obtain ⟨a, xs', _, h1, h2, h3, h4⟩ := R'.own 0 _ _ (par0_some e)
  have h4 : some p = some a := h4
  cases h4
  exact ⟨xs', h1, h2, h3⟩
theorem run_M {N : List Str} {n : Nat} {g : SF} {vs : List V} {H : Hp} {Q : VK} {E : XK} (hpl : n + 1 ≤ N.length) (h : spM K n (denM N.length g) vs H Q E) : tS false K g { nx := fun _ H' => Q .non H', rt := Q } (L2.start N vs) H := by
  obtain ⟨F, p, xs, qs, vs', ds, r, ps', rfl, hl, hd, hh, nf, rp, rs, hden, q⟩ := h
  have R := rel_entryM (N := N) hd hh nf rp rs (by omega)
  unfold denM at hden
  split at hden
  · rename_i r' e1 h1
    split at hden
    · rename_i qs' h2
      cases hden
      refine ⟨_, F, _, _, e1, R, h1, fun σ' F' H' _ R' v rv => ?_⟩
      obtain ⟨N', xs', g1, g2, g3⟩ := fin_M R' h2
      exact q v xs' F' H' N' g1 g2 g3 rv
    · cases hden
  · rename_i e1 h1
    split at hden
    · rename_i qs' h2
      cases hden
      refine ⟨_, F, _, _, e1, R, h1, fun σ' F' H' _ R' => ?_⟩
      obtain ⟨N', xs', g1, g2, g3⟩ := fin_M R' h2
      exact q _ xs' F' H' N' g1 g2 g3 .non
    · cases hden
  · cases hden
theorem run_ML {N : List Str} {n : Nat} {g : SF} {vs : List V} {H : Hp} {Q : VK} {E : XK} (hpl : n + 1 ≤ N.length) (h : spML K n (denML N.length g) vs H Q E) : tS true K g { nx := fun _ H' => Q .non H', rt := Q } (L2.start N vs) H := by
  obtain ⟨F, p, xs, qs, vs', ds, r, ps', rfl, hl, hd, hh, nf, rp, rs, hden, q⟩ := h
  have R := rel_entryM (N := N) hd hh nf rp rs (by omega)
  unfold denML at hden
  split at hden
  · rename_i r' e1 h1
    split at hden
    · rename_i qs' h2
      cases hden
      refine ⟨_, F, _, _, e1, R, h1, fun σ' F' H' _ R' v rv => ?_⟩
      obtain ⟨N', xs', g1, g2, g3⟩ := fin_M R' h2
      obtain ⟨a, ys, ds', e, rfl, hh', nf', rr, h0⟩ := rv
      cases e
      exact q a ys xs' F' H' N' g1 g2 g3 h0 hh' nf' rr
    · cases hden
  · cases hden
theorem pre_len {N ps : List Str} {sc : Scope} (S : FnScope N ps sc) : ps.length ≤ N.length := by
  have := congrArg List.length S.pre
  rw [List.length_take] at this
  omega
theorem spP_len {n : Nat} {den : List PyData → Option PyData} {vs : List V} {H : Hp} {Q : VK} {E : XK} (h : spP K n den vs H Q E) : vs.length = n := by
  obtain ⟨F, ds, r, hl, hd, rs, _⟩ := h
  rw [rs.length]; exact hl
theorem spL_len {n : Nat} {den : List PyData → Option (List PyData)} {vs : List V} {H : Hp} {Q : VK} {E : XK} (h : spL K n den vs H Q E) : vs.length = n := by
  obtain ⟨F, ds, r, hl, hd, rs, _⟩ := h
  rw [rs.length]; exact hl
theorem spM_len {n : Nat} {den : List PyData → List PyData → Option (PyData × List PyData)} {vs : List V} {H : Hp} {Q : VK} {E : XK} (h : spM K n den vs H Q E) : vs.length = n + 1 := by
  obtain ⟨F, p, xs, qs, vs', ds, r, ps', rfl, hl, hd, hh, nf, rp, rs, _⟩ := h
  rw [List.length_cons, rs.length, hl]
theorem spML_len {n : Nat} {den : List PyData → List PyData → Option (List PyData × List PyData)} {vs : List V} {H : Hp} {Q : VK} {E : XK} (h : spML K n den vs H Q E) : vs.length = n + 1 := by
  obtain ⟨F, p, xs, qs, vs', ds, r, ps', rfl, hl, hd, hh, nf, rp, rs, _⟩ := h
  rw [List.length_cons, rs.length, hl]
theorem fn_P {x qual : Str} {st : Stmt} {f : Addr} {fd : FuncData} {N ps : List Str} {k : Nat} {g : SF} (F : Fun K x qual st f fd) (S : FnScope N ps (defScope st)) (W : Walked CX0 P w K mg base N qual st f k false g) :
    FnOk P w K mg base CX0 (k + 1) f fd ps (spP K ps.length (denP N.length g)) :=
  F.ok S (fun vs H Q E h => spP_len h) fun cdv A outer s H vs Q E hr h => ⟨_, W.body cdv A outer s H E hr, run_P (pre_len S) h⟩
theorem fn_L {x qual : Str} {st : Stmt} {f : Addr} {fd : FuncData} {N ps : List Str} {k : Nat} {g : SF} (F : Fun K x qual st f fd) (S : FnScope N ps (defScope st)) (W : Walked CX0 P w K mg base N qual st f k true g) :
    FnOk P w K mg base CX0 (k + 1) f fd ps (spL K ps.length (denL N.length g)) :=
  F.ok S (fun vs H Q E h => spL_len h) fun cdv A outer s H vs Q E hr h => ⟨_, W.body cdv A outer s H E hr, run_L (pre_len S) h⟩
theorem fn_M {x qual p1 : Str} {st : Stmt} {f : Addr} {fd : FuncData} {N ps : List Str} {k : Nat} {g : SF} (F : Fun K x qual st f fd) (S : FnScope N (p1 :: ps) (defScope st)) (W : Walked CX0 P w K mg base N qual st f k false g) :
    FnOk P w K mg base CX0 (k + 1) f fd (p1 :: ps) (spM K ps.length (denM N.length g)) :=
  F.ok S (fun vs H Q E h => spM_len h) fun cdv A outer s H vs Q E hr h => ⟨_, W.body cdv A outer s H E hr, run_M (pre_len S) h⟩
theorem fn_ML {x qual p1 : Str} {st : Stmt} {f : Addr} {fd : FuncData} {N ps : List Str} {k : Nat} {g : SF} (F : Fun K x qual st f fd) (S : FnScope N (p1 :: ps) (defScope st)) (W : Walked CX0 P w K mg base N qual st f k true g) :
    FnOk P w K mg base CX0 (k + 1) f fd (p1 :: ps) (spML K ps.length (denML N.length g)) :=
  F.ok S (fun vs H Q E h => spML_len h) fun cdv A outer s H vs Q E hr h => ⟨_, W.body cdv A outer s H E hr, run_ML (pre_len S) h⟩
end

/-! ### calls of defs -/
/-- what stands behind a call that changed the list at p, the slot i's -/
theorem Rel.behindM {K : PySem.W.Frag} {B : Bas} {F F' : Fz} {H H' : Hp} {env : En} {σ : L2.St} {i : Nat} {b : Bool} {ps ps' : List PyData} {p : Addr} {xs' : List V} (R : Rel K B F env σ H) (e : env[i]? = some (.ow b ps)) (s : σ[i]? = some (some (.ref p)))
    (N : NewM p F H F' H') (hh : H' p = some (.lst xs')) (nf : ¬ F' p) (r : Reps K F' H' xs' ps') : Rel K B F' (env.set i (.ow b ps')) σ H' ∧ Ext σ env F H (env.set i (.ow b ps')) F' H' := by
  obtain ⟨p', ys, s1, h0, nf0, r0, z0⟩ := R.own i b ps e
  rw [s] at s1
  cases s1
  have hi : i < env.length := (List.getElem?_eq_some_iff.mp e).1
  have np : ∀ a, F a → a ≠ p := fun a f q => nf0 (by rw [← q]; exact f)
  have kp : ∀ a o, F a → H a = some o → H' a = some o := N.kp nf0
  have m : ∀ {v d}, Rep K F H v d → Rep K F' H' v d := fun r => r.mono N.f1 kp
  have ms : ∀ {v d}, Reps K F H v d → Reps K F' H' v d := fun r => r.mono N.f1 kp
  have hn : ∀ a, H' a = none → H a = none := fun a z => by
    by_cases hp : a = p
    · subst hp; rw [hh] at z; cases z
    · cases q : H a with
      | none => rfl
      | some o => exact absurd z (N.f3 a o q hp).ne
  have bk : ∀ {j q es}, (env.set i (.ow b ps'))[j]? = some (Sl.ow q es) → ∃ es', env[j]? = some (Sl.ow q es') := fun {j q es} w => by
    by_cases hj : i = j
    · subst hj
      rw [List.getElem?_set_self hi] at w
      cases w
      exact ⟨_, e⟩
    · rw [List.getElem?_set_ne hj] at w
      exact ⟨_, w⟩
  refine ⟨⟨fun j d q => ?_, fun j q es w => ?_, fun j k q q' es es' a w1 w2 s1 s2 => ?_, N.f4, fun a o w n => ?_, fun a f => ?_, fun a f => N.f1 a (R.sub a f), fun a w => ?_, by rw [List.length_set]; exact R.len⟩,
    ⟨N.f1, fun a f => (N.f2 a f).imp id .inl, fun a o w n => N.f3 a o w fun q => n ⟨i, b, ps, e, by rw [q]; exact s⟩, fun a ⟨j, q, es, w1, w2⟩ => let ⟨es', w3⟩ := bk w1; ⟨j, q, es', w3, w2⟩, hn⟩⟩
  · by_cases hj : i = j
    · subst hj
      rw [List.getElem?_set_self hi] at q; cases q
    · rw [List.getElem?_set_ne hj] at q
      obtain ⟨v, h1, h2⟩ := R.val j d q
      exact ⟨v, h1, m h2⟩
  · by_cases hj : i = j
    · subst hj
      rw [List.getElem?_set_self hi] at w; cases w
      exact ⟨p, xs', s, hh, nf, r, z0⟩
    · rw [List.getElem?_set_ne hj] at w
      obtain ⟨a, zs, s1, h1, h2, h3, h4⟩ := R.own j q es w
      have hap : a ≠ p := fun z => by
        subst z
        exact hj (R.inj i j b q ps es a e w s s1)
      refine ⟨a, zs, s1, (N.f3 _ _ h1 hap).get nt_lst, fun f => ?_, ms h3, h4⟩
      rcases N.f2 a f with z | z
      · exact h2 z
      · rw [h1] at z; cases z
  · obtain ⟨_, g1⟩ := bk w1
    obtain ⟨_, g2⟩ := bk w2
    exact R.inj j k q q' _ _ a g1 g2 s1 s2
  · have h1 := R.old a o w n
    refine h1.trans fun o' h1' => N.f3 a o' h1' fun q => ?_
    subst q
    cases b with
    | true => exact n (by simpa using z0)
    | false => rw [show B.H0 a = none by simpa using z0] at w; cases w
  · rcases N.f2 a f with z | z
    · exact R.new a z
    · exact .inr (R.free0 z)
  · obtain ⟨h1, h2, h3⟩ := R.mpd a w
    refine ⟨fun z => h1 (hn a z), fun f => ?_, h3⟩
    rcases N.f2 a f with z | z
    · exact h2 z
    · exact h1 z
/-- f(x, ..), x the slot i's list -/
@[simp] def calM (i : Nat) (den : List PyData → List PyData → Option (PyData × List PyData)) (fs : LF) : EF := fun env => match env[i]? with
  | some (.ow _ _) => match fs env with
    | some (ds, e1) => match e1[i]? with
      | some (.ow b ps) => match den ps ds with
        | some (r, ps') => some (r, e1.set i (.ow b ps'))
        | none => none
      | _ => none
    | none => none
  | _ => none
@[simp] def calML (i : Nat) (den : List PyData → List PyData → Option (List PyData × List PyData)) (fs : LF) : LF := fun env => match env[i]? with
  | some (.ow _ _) => match fs env with
    | some (ds, e1) => match e1[i]? with
      | some (.ow b ps) => match den ps ds with
        | some (r, ps') => some (r, e1.set i (.ow b ps'))
        | none => none
      | _ => none
    | none => none
  | _ => none
/-- f(a new list, ..) -/
@[simp] def calD (den : List PyData → List PyData → Option (PyData × List PyData)) (fl fs : LF) : EF := fun env => match fl env with
  | some (ps, e1) => match fs e1 with
    | some (ds, e2) => match den ps ds with
      | some (r, _) => some (r, e2)
      | none => none
    | none => none
  | none => none
@[simp] def pmV {α : Type} (is : List Nat) (xs : List α) : List α := is.filterMap fun i => xs[i]?
section
variable {X : Cx} {fr : Bool} {a b c e : Expr} {es rest : List Expr} {fa fb fc fe : EF} {fs fl fm fi : LF} {pos p : Pos} {n k : Nat} {f : Addr} {fd : FuncData} {ps : List Str} {x : Str}
theorem s_call {den : List PyData → Option PyData} (F : FnOk X.prog X.w X.K X.mg X.base CX0 k f fd ps (spP X.K n den)) (hr : Room k X.A) (hm : X.mg x = some (.ref f)) (hk : PySem.W.keepIn X.K (.ref f) = true) (hb : Binds X.K fd ps []) (ha : SA X (e :: es) fs) (hn : (e :: es).length = n := by rfl)
    (hg : Gl X x := by rfl) (hdb : (x == ("__debug__" : Str)) = false := by decide) (he : starEach (e :: es) X.env = (false, eval e X.env) :: starEach es X.env := by rfl) (hpl : (backTo pos (starEach es X.env)).any (·.1) = false := by rfl) :
    SE X (.Call (.Name x p) (e :: es) [] pos) (cal (fun ds => if ds.length = n then den ds else none) fs) := PE.imp (pe_call F hr hg hm hk hb .nil pass0 ha hdb he hpl) fun σ H Q ⟨B, F, env, d, env', R, e, k⟩ => by
  obtain ⟨ds, h1, h2⟩ := cal_some e
  split at h2
  · rename_i hl
    refine ⟨B, F, env, ds, env', R, h1, fun vs F1 H1 E1 R1 r1 => ⟨F1, ds, d, hl, R1.dom, by rw [List.append_nil]; exact r1, h2, fun v F2 H2 N r => ?_⟩⟩
    exact k v F2 H2 (E1.trans (.of_new N)) (R1.alloc N) r
  · cases h2
theorem s_call0 {den : List PyData → Option PyData} (F : FnOk X.prog X.w X.K X.mg X.base CX0 k f fd ps (spP X.K 0 den)) (hr : Room k X.A) (hm : X.mg x = some (.ref f)) (hk : PySem.W.keepIn X.K (.ref f) = true) (hb : Binds X.K fd ps [])
    (hg : Gl X x := by rfl) (hdb : (x == ("__debug__" : Str)) = false := by decide) :
    SE X (.Call (.Name x p) [] [] pos) (cal (fun ds => if ds.length = 0 then den ds else none) aNil) := PE.imp (pe_call0 F hr hg hm hk hb .nil pass0 hdb) fun σ H Q ⟨B, F, env, d, env', R, e, k⟩ => by
  obtain ⟨ds, h1, h2⟩ := cal_some e
  cases h1
  exact ⟨F, [], d, rfl, R.dom, .nil, h2, fun v F2 H2 N r => k v F2 H2 (.of_new N) (R.alloc N) r⟩
theorem s_callL {den : List PyData → Option (List PyData)} (F : FnOk X.prog X.w X.K X.mg X.base CX0 k f fd ps (spL X.K n den)) (hr : Room k X.A) (hm : X.mg x = some (.ref f)) (hk : PySem.W.keepIn X.K (.ref f) = true) (hb : Binds X.K fd ps []) (ha : SA X (e :: es) fs) (hn : (e :: es).length = n := by rfl)
    (hg : Gl X x := by rfl) (hdb : (x == ("__debug__" : Str)) = false := by decide) (he : starEach (e :: es) X.env = (false, eval e X.env) :: starEach es X.env := by rfl) (hpl : (backTo pos (starEach es X.env)).any (·.1) = false := by rfl) :
    SL X (.Call (.Name x p) (e :: es) [] pos) (calL (fun ds => if ds.length = n then den ds else none) fs) := PE.imp (pe_call F hr hg hm hk hb .nil pass0 ha hdb he hpl) fun σ H Q ⟨B, F, env, d, env', R, e, k⟩ => by
  obtain ⟨ds, h1, h2⟩ := calL_some e
  split at h2
  · rename_i hl
    refine ⟨B, F, env, ds, env', R, h1, fun vs F1 H1 E1 R1 r1 => ⟨F1, ds, d, hl, R1.dom, by rw [List.append_nil]; exact r1, h2, fun v ys F2 H2 N hn hh nf r => ?_⟩⟩
    exact k v ys F2 H2 (E1.trans (.of_new N)) (R1.alloc N) (E1.f5 _ hn) hh nf r
  · cases h2
theorem s_callM {i : Nat} {y : Str} {py : Pos} {den : List PyData → List PyData → Option (PyData × List PyData)} (F : FnOk X.prog X.w X.K X.mg X.base CX0 k f fd ps (spM X.K n den)) (hr : Room k X.A) (hm : X.mg x = some (.ref f)) (hk : PySem.W.keepIn X.K (.ref f) = true) (hb : Binds X.K fd ps [])
    (hN : X.N[i]? = some y) (hv : Vis X.env.scope y) (ha : SA X es fs) (hd : (y == ("__debug__" : Str)) = false := by decide)
    (hcd : (y == ("__classdict__" : Str)) = false := by decide)
    (hg : Gl X x := by rfl) (hdb : (x == ("__debug__" : Str)) = false := by decide) (he : starEach (.Name y py :: es) X.env = (false, eval (.Name y py) X.env) :: starEach es X.env := by rfl) (hpl : (backTo pos (starEach es X.env)).any (·.1) = false := by rfl) :
    SE X (.Call (.Name x p) (.Name y py :: es) [] pos) (calM i (fun ps ds => if ds.length = n then den ps ds else none) fs) := PE.imp (pe_call F hr hg hm hk hb .nil pass0 (pa_cons (pe_var hN hv hd hcd) ha he) hdb he hpl) fun σ H Q ⟨B, F, env, d, env', R, e, k⟩ => by
  unfold calM at e
  split at e
  · rename_i b0 ps0 h0
    obtain ⟨p, xs0, s0, _⟩ := R.own i b0 ps0 h0
    split at e
    · rename_i ds e1 h1
      split at e
      · rename_i b qs h2
        split at e
        · rename_i r qs' h3
          simp only at h3
          split at h3
          · rename_i hl
            cases e
            refine ⟨_, s0, B, F, env, ds, e1, R, h1, fun vs F1 H1 E1 R1 r1 => ?_⟩
            obtain ⟨p', xs, s1, hh, nf, rx, z⟩ := R1.own i b qs h2
            rw [s0] at s1
            cases s1
            refine ⟨F1, p, xs, qs, vs, ds, _, qs', by rw [List.append_nil], hl, R1.dom, hh, nf, rx, r1, h3, fun v xs' F2 H2 N hh' nf' rx' rv => ?_⟩
            obtain ⟨R2, E2⟩ := R1.behindM h2 s0 N hh' nf' rx'
            exact k v F2 H2 (E1.trans E2) R2 rv
          · cases h3
        · cases e
      · cases e
    · cases e
  · cases e
theorem s_callML {i : Nat} {y : Str} {py : Pos} {den : List PyData → List PyData → Option (List PyData × List PyData)} (F : FnOk X.prog X.w X.K X.mg X.base CX0 k f fd ps (spML X.K n den)) (hr : Room k X.A) (hm : X.mg x = some (.ref f)) (hk : PySem.W.keepIn X.K (.ref f) = true) (hb : Binds X.K fd ps [])
    (hN : X.N[i]? = some y) (hv : Vis X.env.scope y) (ha : SA X es fs) (hd : (y == ("__debug__" : Str)) = false := by decide)
    (hcd : (y == ("__classdict__" : Str)) = false := by decide)
    (hg : Gl X x := by rfl) (hdb : (x == ("__debug__" : Str)) = false := by decide) (he : starEach (.Name y py :: es) X.env = (false, eval (.Name y py) X.env) :: starEach es X.env := by rfl) (hpl : (backTo pos (starEach es X.env)).any (·.1) = false := by rfl) :
    SL X (.Call (.Name x p) (.Name y py :: es) [] pos) (calML i (fun ps ds => if ds.length = n then den ps ds else none) fs) := PE.imp (pe_call F hr hg hm hk hb .nil pass0 (pa_cons (pe_var hN hv hd hcd) ha he) hdb he hpl) fun σ H Q ⟨B, F, env, d, env', R, e, k⟩ => by
  unfold calML at e
  split at e
  · rename_i b0 ps0 h0
    obtain ⟨p, xs0, s0, _⟩ := R.own i b0 ps0 h0
    split at e
    · rename_i ds e1 h1
      split at e
      · rename_i b qs h2
        split at e
        · rename_i r qs' h3
          simp only at h3
          split at h3
          · rename_i hl
            cases e
            refine ⟨_, s0, B, F, env, ds, e1, R, h1, fun vs F1 H1 E1 R1 r1 => ?_⟩
            obtain ⟨p', xs, s1, hh, nf, rx, z⟩ := R1.own i b qs h2
            rw [s0] at s1
            cases s1
            refine ⟨F1, p, xs, qs, vs, ds, _, qs', by rw [List.append_nil], hl, R1.dom, hh, nf, rx, r1, h3, fun a ys xs' F2 H2 N hh' nf' rx' hn ha nfa ra => ?_⟩
            obtain ⟨R2, E2⟩ := R1.behindM h2 s0 N hh' nf' rx'
            exact k a ys F2 H2 (E1.trans E2) R2 (E1.f5 _ hn) ha nfa ra
          · cases h3
        · cases e
      · cases e
    · cases e
  · cases e
theorem callD_of {K : PySem.W.Frag} {den : List PyData → List PyData → Option (PyData × List PyData)} {E : XK} {σ : L2.St} {H : Hp} {Q : VK} (h : tE K (calD (fun ps ds => if ds.length = n then den ps ds else none) fl fs) σ H Q) :
    tCons (tL K fl) (tA K fs) σ H fun vs H1 => spM K n den vs H1 Q E := by
  obtain ⟨B, F, env, d, env', R, e, k⟩ := h
  unfold calD at e
  split at e
  · rename_i qs e1 h1
    split at e
    · rename_i ds e2 h2
      split at e
      · rename_i r qs' h3
        simp only at h3
        split at h3
        · rename_i hl
          cases e
          refine ⟨B, F, env, qs, e1, R, h1, fun p xs F1 H1 E1 R1 hn hh nf rx => ⟨B, F1, e1, ds, env', R1, h2, fun vs F2 H2 E2 R2 r2 => ?_⟩⟩
          have no : ¬ Own e1 σ p := fun o => R.free_own hn (E1.f4 _ o)
          have hh2 := (E2.f3 p _ hh no).get nt_lst
          have nf2 : ¬ F2 p := fun f => by
            rcases E2.f2 p f with z | z | z
            · exact nf z
            · rw [hh] at z; cases z
            · exact no z
          refine ⟨F2, p, xs, qs, vs, ds, _, qs', rfl, hl, R2.dom, hh2, nf2, E2.reps R1 rx, r2, h3, fun v xs' F3 H3 N hh' nf' rx' rv => ?_⟩
          -- the list at p is nobody's
          have no2 : ∀ a, Own env' σ a → a ≠ p := fun a o z => by
            subst z
            exact R.free_own hn ((E1.trans E2).f4 _ o)
          have hk : ∀ a, H3 a = none → H2 a = none := fun a z => by
            by_cases hp : a = p
            · subst hp; rw [hh'] at z; cases z
            · cases q : H2 a with
              | none => rfl
              | some o => exact absurd z (N.f3 a o q hp).ne
          have kp : ∀ a o, F2 a → H2 a = some o → H3 a = some o := N.kp nf2
          have mp : ∀ a, B.H0 a ≠ none → a ≠ p := fun a h z => h (by rw [z]; exact R.free0 hn)
          refine k v F3 H3 ⟨fun a z => N.f1 a ((E1.trans E2).f1 a z), fun a z => ?_, fun a o z nz => ?_, (E1.trans E2).f4, fun a z => (E1.trans E2).f5 a (hk a z)⟩ ⟨fun i d q => ?_, fun i b es q => ?_, R2.inj, N.f4, fun a o w nm => ?_, fun a f => ?_, fun a f => N.f1 a (R2.sub a f), fun a w => ?_, R2.len⟩ rv
          · rcases N.f2 a z with z | z
            · exact (E1.trans E2).f2 a z
            · exact .inr (.inl ((E1.trans E2).f5 a z))
          · refine ((E1.trans E2).f3 a o z nz).trans fun o' z' => N.f3 a o' z' fun q => ?_
            subst q
            rw [hn] at z; cases z
          · obtain ⟨v, h5, h6⟩ := R2.val i d q
            exact ⟨v, h5, h6.mono N.f1 kp⟩
          · obtain ⟨a, ys, s1, g1, g2, g3, g4⟩ := R2.own i b es q
            have hap := no2 a ⟨i, b, es, q, s1⟩
            refine ⟨a, ys, s1, (N.f3 _ _ g1 hap).get nt_lst, fun f => ?_, g3.mono N.f1 kp, g4⟩
            rcases N.f2 a f with z | z
            · exact g2 z
            · rw [g1] at z; cases z
          · exact (R2.old a o w nm).trans fun o' z' => N.f3 a o' z' (mp a (by rw [w]; exact fun z => nomatch z))
          · rcases N.f2 a f with z | z
            · exact R2.new a z
            · exact .inr (R2.free0 z)
          · obtain ⟨g1, g2, g3⟩ := R2.mpd a w
            refine ⟨fun z => g1 (hk a z), fun f => ?_, g3⟩
            rcases N.f2 a f with z | z
            · exact g2 z
            · exact g1 z
        · cases h3
      · cases e
    · cases e
  · cases e
theorem s_callD {den : List PyData → List PyData → Option (PyData × List PyData)} (F : FnOk X.prog X.w X.K X.mg X.base CX0 k f fd ps (spM X.K n den)) (hr : Room k X.A) (hm : X.mg x = some (.ref f)) (hk : PySem.W.keepIn X.K (.ref f) = true) (hb : Binds X.K fd ps [])
    (hl : SL X e fl) (ha : SA X es fs)
    (hg : Gl X x := by rfl) (hdb : (x == ("__debug__" : Str)) = false := by decide) (he : starEach (e :: es) X.env = (false, eval e X.env) :: starEach es X.env := by rfl) (hpl : (backTo pos (starEach es X.env)).any (·.1) = false := by rfl) :
    SE X (.Call (.Name x p) (e :: es) [] pos) (calD (fun ps ds => if ds.length = n then den ps ds else none) fl fs) := PE.imp (pe_call F hr hg hm hk hb .nil pass0 (pa_cons hl ha he) hdb he hpl) fun σ H Q h => by
  have q := callD_of (E := E0) h
  obtain ⟨B, F, env, ps, e1, R, e, k⟩ := q
  refine ⟨B, F, env, ps, e1, R, e, fun v xs F1 H1 E1 R1 h1 h2 h3 h4 => ?_⟩
  obtain ⟨B', F', env', ds, e2, R', e', k'⟩ := k v xs F1 H1 E1 R1 h1 h2 h3 h4
  exact ⟨B', F', env', ds, e2, R', e', fun vs F2 H2 E2 R2 r2 => by
    show spM X.K n den ((V.ref v :: vs) ++ []) H2 Q E0
    rw [List.append_nil]
    exact k' vs F2 H2 E2 R2 r2⟩
end
end Sm

set_option Elab.async false
set_option linter.all false
set_option maxRecDepth 100000
set_option maxHeartbeats 4000000
namespace Sm
open PySem PySem.Spec PyProof.Rows L2
variable [Tb]

/-! ### list comprehensions -/
@[simp] def wipeE (env : En) : List Nat → En
  | [] => env
  | v :: vs => (wipeE env vs).set v .no
@[simp] def mrg (e1 e2 : En) : List Nat → En
  | [] => e2
  | v :: vs => (mrg e1 e2 vs).set v (e1[v]?.getD .no)
@[simp] def noOw (env : En) (vs : List Nat) : Bool := vs.all fun v => match (env[v]? : Option Sl) with
  | some (Sl.ow _ _) => false
  | _ => true
def lcL (g : GF) (ft : TF) (fe : EF) (vs : List Nat) : List PyData → LF
  | [], env => some ([], env)
  | d :: ds, env => match g d env with
    | some e1 => match ft e1 with
      | some (true, e2) => match fe e2 with
        | some (r, e3) => match lcL g ft fe vs ds (wipeE e3 vs) with
          | some (rs, e4) => some (r :: rs, e4)
          | none => none
        | none => none
      | some (false, e2) => lcL g ft fe vs ds (wipeE e2 vs)
      | none => none
    | none => none
def lcF (fi : LF) (g : GF) (ft : TF) (fe : EF) (vs : List Nat) : LF := fun env => match fi env with
  | some (ds, e1) => if ds.length ≤ sizeLine ∧ noOw e1 vs = true then match lcL g ft fe vs ds (wipeE e1 vs) with
      | some (rs, e2) => some (rs, mrg e1 e2 vs)
      | none => none
    else none
  | none => none
@[simp] def yesF : TF := fun env => some (true, env)

theorem wipeE_len (env : En) : ∀ vs, (wipeE env vs).length = env.length
  | [] => rfl
  | v :: vs => by unfold wipeE; rw [List.length_set, wipeE_len env vs]
theorem wipeE_get {env : En} {i : Nat} {s : Sl} : ∀ {vs : List Nat}, (wipeE env vs)[i]? = some s → s ≠ .no → env[i]? = some s ∧ i ∉ vs
  | [], h, _ => ⟨h, by simp⟩
  | v :: vs, h, hs => by
    unfold wipeE at h
    by_cases hi : v = i
    · subst hi
      by_cases hv : v < (wipeE env vs).length
      · rw [List.getElem?_set_self hv] at h; cases h; exact absurd rfl hs
      · rw [List.getElem?_eq_none (by simpa using hv)] at h; cases h
    · rw [List.getElem?_set_ne hi] at h
      obtain ⟨h1, h2⟩ := wipeE_get h hs
      exact ⟨h1, by simp only [List.mem_cons, not_or]; exact ⟨fun e => hi e.symm, h2⟩⟩
theorem wipe_out {σ : L2.St} {i : Nat} : ∀ {vs : List Nat}, i ∉ vs → (wipe σ vs)[i]? = σ[i]?
  | [], _ => rfl
  | v :: vs, h => by
    unfold wipe
    simp only [List.mem_cons, not_or] at h
    rw [List.getElem?_set_ne (Ne.symm h.1), wipe_out h.2]
theorem wipe_in {σ : L2.St} {i : Nat} : ∀ {vs : List Nat}, i ∈ vs → i < σ.length → (wipe σ vs)[i]? = some none
  | v :: vs, h, hl => by
    unfold wipe
    by_cases hi : v = i
    · subst hi
      rw [List.getElem?_set_self (by rw [wipe_length]; exact hl)]
    · rw [List.getElem?_set_ne hi]
      rcases List.mem_cons.mp h with e | h
      · exact absurd e.symm hi
      · exact wipe_in h hl
theorem wipe_eq {σ σ2 : L2.St} {vs ts : List Nat} (ht : ∀ t ∈ ts, t ∈ vs) (h : (∀ j, j ∉ ts → σ2[j]? = (wipe σ vs)[j]?) ∧ σ2.length = (wipe σ vs).length) : wipe σ2 vs = wipe σ vs := by
  apply List.ext_getElem?
  intro j
  have hl : σ2.length = σ.length := by rw [h.2, wipe_length]
  by_cases hj : j ∈ vs
  · by_cases hlt : j < σ.length
    · rw [wipe_in hj (by omega), wipe_in hj hlt]
    · rw [List.getElem?_eq_none (by rw [wipe_length]; omega), List.getElem?_eq_none (by rw [wipe_length]; omega)]
  · rw [wipe_out hj, wipe_out hj, h.1 j (fun z => hj (ht j z)), wipe_out hj]
theorem mrg_len (e1 e2 : En) : ∀ vs, (mrg e1 e2 vs).length = e2.length
  | [] => rfl
  | v :: vs => by unfold mrg; rw [List.length_set, mrg_len e1 e2 vs]
theorem mrg_get {e1 e2 : En} {i : Nat} {s : Sl} : ∀ {vs : List Nat}, (mrg e1 e2 vs)[i]? = some s → s ≠ .no → (i ∈ vs ∧ e1[i]? = some s) ∨ (i ∉ vs ∧ e2[i]? = some s)
  | [], h, _ => .inr ⟨by simp, h⟩
  | v :: vs, h, hs => by
    unfold mrg at h
    by_cases hi : v = i
    · subst hi
      by_cases hv : v < (mrg e1 e2 vs).length
      · rw [List.getElem?_set_self hv] at h
        cases hq : e1[v]? with
        | none => rw [hq] at h; cases h; exact absurd rfl hs
        | some z => rw [hq] at h; cases h; exact .inl ⟨List.mem_cons_self, rfl⟩
      · rw [List.getElem?_eq_none (by simpa using hv)] at h; cases h
    · rw [List.getElem?_set_ne hi] at h
      rcases mrg_get h hs with ⟨h1, h2⟩ | ⟨h1, h2⟩
      · exact .inl ⟨List.mem_cons_of_mem _ h1, h2⟩
      · exact .inr ⟨by simp only [List.mem_cons, not_or]; exact ⟨fun e => hi e.symm, h1⟩, h2⟩
theorem noOw_get {env : En} {vs : List Nat} (h : noOw env vs = true) {i : Nat} {p : Bool} {ds : List PyData} (hi : i ∈ vs) : env[i]? ≠ some (.ow p ds) := fun e => by
  unfold noOw at h
  rw [List.all_eq_true] at h
  have := h i hi
  rw [e] at this
  cases this

section
variable {K : PySem.W.Frag} {B : Bas} {F F' F1 : Fz} {H H' H1 : Hp} {env env' e1 : En} {σ σ' : L2.St} {a D : Addr} {xs : List V} {ds : List PyData} {o : HO}
theorem Rel.wiped (R : Rel K B F env σ H) (vs : List Nat) : Rel K B F (wipeE env vs) (wipe σ vs) H := by
  refine R.pick id (fun i s e hs => ?_) (fun i j _ _ _ _ _ _ e => e) (by rw [wipeE_len, wipe_length]; exact R.len)
  obtain ⟨h1, h2⟩ := wipeE_get e hs
  exact ⟨h1, wipe_out h2⟩
/-- an object that is nobody's here is changed -/
theorem Rel.other {zs : List V} (R : Rel K B F env σ H) (h : H D = some (.lst zs)) (nf : ¬ F D) (no : ¬ Own env σ D) (h0 : B.H0 D = none) (u : HO) (nt : NT u := by exact fun _ z => nomatch z) : Rel K B F env σ (upd H D u) := by
  have kp : ∀ b o, F b → H b = some o → (upd H D u) b = some o := fun b o f h => by
    rw [upd_ne (fun q => nf (by rw [← q]; exact f))]
    exact h
  refine ⟨fun i d e => ?_, fun i p ds e => ?_, R.inj, R.dom.set h nt, fun b o w n => ?_, R.new, R.sub, fun b w => ?_, R.len⟩
  · obtain ⟨v, h1, h2⟩ := R.val i d e
    exact ⟨v, h1, h2.mono (fun _ z => z) kp⟩
  · obtain ⟨b, ys, s1, h1, h2, h3, h4⟩ := R.own i p ds e
    refine ⟨b, ys, s1, ?_, h2, h3.mono (fun _ z => z) kp, h4⟩
    rw [upd_ne (fun q => no ⟨i, p, ds, e, by rw [← q]; exact s1⟩)]
    exact h1
  · exact (R.old b o w n).trans fun o' z => .of (by rw [upd_ne (fun q => by subst q; rw [h0] at w; cases w)]; exact z)
  · obtain ⟨h1, h2, h3⟩ := R.mpd b w
    refine ⟨?_, h2, h3⟩
    by_cases hb : b = D
    · subst hb; rw [upd_same]; exact fun z => nomatch z
    · rw [upd_ne hb]; exact h1
/-- from one frame's state to another's -/
structure Ex2 (σ : L2.St) (env : En) (F : Fz) (H : Hp) (σ' : L2.St) (env' : En) (F' : Fz) (H' : Hp) : Prop where
  f1 : ∀ a, F a → F' a
  f2 : ∀ a, F' a → F a ∨ H a = none ∨ Own env σ a
  f3 : ∀ a o, H a = some o → ¬ Own env σ a → Stay H' a o
  f4 : ∀ a, Own env' σ' a → Own env σ a
  f5 : ∀ a, H' a = none → H a = none
theorem Ex2.ext {F'' : Fz} {H'' : Hp} {env'' : En} (x : Ex2 σ env F H σ' env' F' H') (y : Ext σ' env' F' H' env'' F'' H'') : Ex2 σ env F H σ' env'' F'' H'' where
  f1 := fun a z => y.f1 a (x.f1 a z)
  f2 := fun a z => by
    rcases y.f2 a z with q | q | q
    · exact x.f2 a q
    · exact .inr (.inl (x.f5 a q))
    · exact .inr (.inr (x.f4 a q))
  f3 := fun a o z n => (x.f3 a o z n).trans fun o' w => y.f3 a o' w fun q => n (x.f4 a q)
  f4 := fun a z => x.f4 a (y.f4 a z)
  f5 := fun a z => x.f5 a (y.f5 a z)
theorem Ex2.own {σ2 : L2.St} {env2 : En} (x : Ex2 σ env F H σ' env' F' H') (h : ∀ a, Own env2 σ2 a → Own env' σ' a) : Ex2 σ env F H σ2 env2 F' H' := ⟨x.f1, x.f2, x.f3, fun a z => x.f4 a (h a z), x.f5⟩
theorem Ex2.upd (x : Ex2 σ env F H σ' env' F' H') (h : H D = none) (o : HO) : Ex2 σ env F H σ' env' F' (upd H' D o) :=
  ⟨x.f1, x.f2, fun a u z n => (x.f3 a u z n).trans fun o' w => .of (by rw [upd_ne (ne_of_none z h)]; exact w), x.f4, fun a z => by
    by_cases e : a = D
    · rw [e]; exact h
    · rw [upd_ne e] at z; exact x.f5 a z⟩
theorem own_wipe {vs : List Nat} (h : Own (wipeE env vs) (wipe σ vs) a) : Own env σ a := by
  obtain ⟨i, p, ds, h1, h2⟩ := h
  obtain ⟨g1, g2⟩ := wipeE_get h1 (fun z => nomatch z)
  exact ⟨i, p, ds, g1, by rw [← wipe_out g2]; exact h2⟩
end

section
variable {X : Cx} {elt tg iter : Expr} {ifs : List Expr} {scope : Scope} {own : List (Str × Nat)} {pos : Pos} {g : GF} {ts : List Nat} {ft : TF} {fe : EF} {fi : LF}
theorem lc_of {K : PySem.W.Frag} {σ : L2.St} {H : Hp} {Q : VK} {vs : List Nat} (ht : ∀ t ∈ ts, t ∈ vs) (h : tL K (lcF fi g ft fe vs) σ H Q) : tLc (tI K fi) (tG K ts g) (tT K ft) (tE K fe) vs σ H Q := by
  obtain ⟨B, F, env, rs, env', R, e, k⟩ := h
  unfold lcF at e
  split at e
  rotate_left
  · cases e
  rename_i ds e1 h1
  split at e
  rotate_left
  · cases e
  rename_i hc
  split at e
  rotate_left
  · cases e
  rename_i rs' e2 h2
  cases e
  obtain ⟨hz, hno⟩ := hc
  refine ⟨B, F, env, ds, e1, R, h1, fun J F1 H1 E1 R1 wk D hD => ?_⟩
  have nfD : ¬ F1 D := R1.freeF hD
  have noD : ¬ Own e1 σ D := R1.free_own hD
  have h0D : B.H0 D = none := R1.free0 hD
  have keepOf : ∀ {F2 : Fz} {Hc : Hp} {s2 : L2.St} {e3 : En}, Ex2 σ e1 F1 H1 s2 e3 F2 Hc → Keep F1 H1 F2 Hc := fun X2 => ⟨X2.f1, fun a o f z => (X2.f3 a o z fun q => R1.noF q f).get (R1.dom.nt f z)⟩
  refine ⟨fun i m Hc => m = ds.length - i ∧ ∃ F2 e3 acc dn rest, Rel K B F2 e3 (wipe σ vs) Hc ∧ Ex2 σ e1 F1 H1 (wipe σ vs) e3 F2 Hc ∧ Hc D = some (.lst acc) ∧ ¬ F2 D ∧ Reps K F2 Hc acc dn ∧ acc.length ≤ i ∧
      lcL g ft fe vs (ds.drop i) e3 = some (rest, e2) ∧ dn ++ rest = rs, ⟨_, rfl, F1, wipeE e1 vs, [], [], rs, ?_, ?_, upd_same, nfD, .nil, Nat.le_refl _, by simpa using h2, rfl⟩, ?_⟩
  · exact (R1.alloc (.raw R1.dom hD)).wiped vs
  · exact ⟨fun _ z => z, fun _ z => .inl z, fun a o z _ => .of (by rw [upd_ne (ne_of_none z hD)]; exact z), fun a z => own_wipe z, fun a z => by
      by_cases e : a = D
      · rw [e]; exact hD
      · rw [upd_ne e] at z; exact z⟩
  · rintro i m Hc ⟨rfl, F2, e3, acc, dn, rest, R2, X2, hacc, nf2, ra, hl, hrest, htot⟩
    obtain ⟨w1, w2⟩ := wk i F2 Hc (keepOf X2) R2.dom
    cases hd : ds[i]? with
    | none =>
      have hle : ds.length ≤ i := List.getElem?_eq_none_iff.mp hd
      rw [List.drop_eq_nil_of_le hle] at hrest
      cases hrest
      rw [List.append_nil] at htot
      subst htot
      have own_mrg : ∀ {a}, Own (mrg e1 e2 vs) σ a → Own e2 (wipe σ vs) a := fun {a} ⟨j, p, es, q1, q2⟩ => by
        rcases mrg_get q1 (fun z => nomatch z) with ⟨g1, g2⟩ | ⟨g1, g2⟩
        · exact absurd g2 (noOw_get hno g1)
        · exact ⟨j, p, es, g2, by rw [wipe_out g1]; exact q2⟩
      refine .inl ⟨w2 hd, k D acc F2 Hc ?_ ⟨fun j d q => ?_, fun j p es q => ?_, fun j l p q es es' a q1 q2 s1 s2 => ?_, R2.dom, R2.old, R2.new, R2.sub, R2.mpd, ?_⟩ (E1.f5 D hD) hacc nf2 ra⟩
      · have X3 : Ext σ e1 F1 H1 (mrg e1 e2 vs) F2 Hc := ⟨X2.f1, X2.f2, X2.f3, fun a z => X2.f4 a (own_mrg z), X2.f5⟩
        exact E1.trans X3
      · rcases mrg_get q (fun z => nomatch z) with ⟨g1, g2⟩ | ⟨g1, g2⟩
        · obtain ⟨v, s1, r⟩ := R1.val j d g2
          exact ⟨v, s1, (keepOf X2).rep r⟩
        · obtain ⟨v, s1, r⟩ := R2.val j d g2
          rw [wipe_out g1] at s1
          exact ⟨v, s1, r⟩
      · rcases mrg_get q (fun z => nomatch z) with ⟨g1, g2⟩ | ⟨g1, g2⟩
        · exact absurd g2 (noOw_get hno g1)
        · obtain ⟨a, ys, s1, r⟩ := R2.own j p es g2
          rw [wipe_out g1] at s1
          exact ⟨a, ys, s1, r⟩
      · rcases mrg_get q1 (fun z => nomatch z) with ⟨g1, g2⟩ | ⟨g1, g2⟩
        · exact absurd g2 (noOw_get hno g1)
        · rcases mrg_get q2 (fun z => nomatch z) with ⟨g3, g4⟩ | ⟨g3, g4⟩
          · exact absurd g4 (noOw_get hno g3)
          · exact R2.inj j l p q es es' a g2 g4 (by rw [wipe_out g1]; exact s1) (by rw [wipe_out g3]; exact s2)
      · rw [mrg_len, ← R2.len, wipe_length]
    | some d =>
      have hlt : i < ds.length := (List.getElem?_eq_some_iff.mp hd).1
      obtain ⟨go, yl⟩ := w1 d hd
      rw [drop_cons hd] at hrest
      refine .inr ⟨go, fun Hn => ∃ F2 e3 acc dn rest, Rel K B F2 e3 (wipe σ vs) Hn ∧ Ex2 σ e1 F1 H1 (wipe σ vs) e3 F2 Hn ∧ Hn D = some (.lst acc) ∧ ¬ F2 D ∧ Reps K F2 Hn acc dn ∧ acc.length ≤ i + 1 ∧
        lcL g ft fe vs (ds.drop (i + 1)) e3 = some (rest, e2) ∧ dn ++ rest = rs, fun Hn z => ⟨ds.length - (i + 1), by omega, rfl, z⟩, fun x H3 y => ?_⟩
      obtain ⟨F3, N, rx⟩ := yl x H3 y
      have noD2 : ¬ Own e3 (wipe σ vs) D := fun o => noD (X2.f4 D o)
      have d3 : H3 D = some (.lst acc) := (N.f3 D _ hacc).get nt_lst
      have nf3 : ¬ F3 D := fun f => by
        rcases N.f2 D f with z | z
        · exact nf2 z
        · rw [hacc] at z; cases z
      unfold lcL at hrest
      split at hrest
      rotate_left
      · cases hrest
      rename_i e4 h4
      refine ⟨B, F3, e3, d, e4, R2.alloc N, rx, h4, fun σ5 R5 k5 => ?_⟩
      have hw : wipe σ5 vs = wipe σ vs := wipe_eq ht k5.1
      have X5 : Ex2 σ e1 F1 H1 σ5 e4 F3 H3 := (X2.ext (.of_new N)).own k5.2
      have noD5 : ¬ Own e4 σ5 D := fun o => noD (X5.f4 D o)
      refine ⟨hw, ?_⟩
      split at hrest
      · rename_i e6 h6
        split at hrest
        rotate_left
        · cases hrest
        rename_i r e7 h7
        split at hrest
        rotate_left
        · cases hrest
        rename_i rs' e8 h8
        cases hrest
        refine ⟨B, F3, e4, true, e6, R5, h6, fun F6 H6 E6 R6 => iteT ⟨B, F6, e6, r, e7, R6, h7, fun v F7 H7 E7 R7 r7 => ?_⟩⟩
        have E67 := E6.trans E7
        have X7 : Ex2 σ e1 F1 H1 σ5 e7 F7 H7 := X5.ext E67
        have d7 : H7 D = some (.lst acc) := (E67.f3 D _ d3 noD5).get nt_lst
        have nf7 : ¬ F7 D := fun f => by
          rcases E67.f2 D f with z | z | z
          · exact nf3 z
          · rw [d3] at z; cases z
          · exact noD5 z
        have noD7 : ¬ Own e7 σ5 D := fun o => noD (X7.f4 D o)
        have ra7 : Reps K F7 H7 acc dn := E67.reps R5 (N.reps ra)
        refine ⟨acc, d7, by omega, F7, wipeE e7 vs, acc ++ [v], dn ++ [r], rs', ?_, ?_, upd_same, nf7, ?_, by simp; omega, h8, by simp [← htot]⟩
        · rw [← hw]
          exact (R7.other d7 nf7 noD7 h0D _).wiped vs
        · rw [← hw]
          exact (X7.own fun a z => own_wipe z).upd hD _
        · exact (ra7.append (.cons r7 .nil)).mono (fun _ z => z) fun b o f h => by
            rw [upd_ne (fun q => nf7 (by rw [← q]; exact f))]
            exact h
      · rename_i e6 h6
        refine ⟨B, F3, e4, false, e6, R5, h6, fun F6 H6 E6 R6 => iteF ?_⟩
        have X6 : Ex2 σ e1 F1 H1 σ5 e6 F6 H6 := X5.ext E6
        have nf6 : ¬ F6 D := fun f => by
          rcases E6.f2 D f with z | z | z
          · exact nf3 z
          · rw [d3] at z; cases z
          · exact noD5 z
        refine ⟨F6, wipeE e6 vs, acc, dn, rest, ?_, ?_, (E6.f3 D _ d3 noD5).get nt_lst, nf6, E6.reps R5 (N.reps ra), by omega, hrest, htot⟩
        · rw [← hw]
          exact R6.wiped vs
        · rw [← hw]
          exact X6.own fun a z => own_wipe z
      · cases hrest
theorem s_lc (hc : X.calm = true) (hN : X.N.Nodup) (hi : SI X tg iter fi) (ok : BlkOk X.N X.env.scope scope own)
    (hg : ∀ (s : Shared) (H : Hp) (C : Addr) (cl : List (Str × Addr)) (fp : List Addr), PG (X.blk s H scope (compEnvC scope cl C X.env) fp) tg (tG X.K ts g))
    (ht : ∀ (s : Shared) (H : Hp) (C : Addr) (cl : List (Str × Addr)) (fp : List Addr), PTs (X.blk s H scope (compEnvC scope cl C X.env) fp) ifs (tT X.K ft))
    (he : ∀ (s : Shared) (H : Hp) (C : Addr) (cl : List (Str × Addr)) (fp : List Addr), SE (X.blk s H scope (compEnvC scope cl C X.env) fp) elt fe)
    (hts : ∀ t ∈ ts, t ∈ own.map (·.2) := by decide) (hs : ∀ x, foldedSetIterable iter X.env x = pure x := by intro _; rfl) :
    SL X (.ListComp elt [⟨tg, iter, ifs, 0⟩] scope pos) (lcF fi g ft fe (own.map (·.2))) := PE.imp (pe_lc hc hN hi ok hg ht he hs) fun _ _ _ h => lc_of hts h
theorem ts_nil {X : Cx} : PTs X [] (tT X.K yesF) := ⟨fun pins s σ H Q I ⟨B, F, env, b, env', R, e, k⟩ => by
  cases e
  exact wpAny_tests_nil ⟨H, I, k F H .refl R⟩⟩
theorem ts_one {X : Cx} {c : Expr} {ft : TF} (h : ST X c ft) : PTs X [c] (tT X.K ft) := pts_one h
/-- name = [..], the name a local: shared, or owned -/
theorem ss_lc {fr : Bool} {i : Nat} {y : Str} {py spos : Pos} (hc : X.calm = true) (hN : X.N.Nodup) (hi : SI X tg iter fi) (ok : BlkOk X.N X.env.scope scope own)
    (hg : ∀ (s : Shared) (H : Hp) (C : Addr) (cl : List (Str × Addr)) (fp : List Addr), PG (X.blk s H scope (compEnvC scope cl C X.env) fp) tg (tG X.K ts g))
    (ht : ∀ (s : Shared) (H : Hp) (C : Addr) (cl : List (Str × Addr)) (fp : List Addr), PTs (X.blk s H scope (compEnvC scope cl C X.env) fp) ifs (tT X.K ft))
    (he : ∀ (s : Shared) (H : Hp) (C : Addr) (cl : List (Str × Addr)) (fp : List Addr), SE (X.blk s H scope (compEnvC scope cl C X.env) fp) elt fe)
    (hts : ∀ t ∈ ts, t ∈ own.map (·.2) := by decide) (hy : X.N[i]? = some y := by rfl) (hyl : X.env.scope.names.lookup y = some .local := by rfl)
    (hsw : swapsWith (.ListComp elt [⟨tg, iter, ifs, 0⟩] scope pos) (some (.Name y py)) spos.line X.env = pure true := by exact sw_true rfl rfl rfl (by decide +kernel)) (hs : ∀ x, foldedSetIterable iter X.env x = pure x := by intro _; rfl) :
    SS fr X (.Assign [.Name y py] (.ListComp elt [⟨tg, iter, ifs, 0⟩] scope pos) spos) (asgO (lcF fi g ft fe (own.map (·.2))) i) := PS.imp (ps_setLc hc hN hy hyl hsw hi ok hg ht he hs) fun D σ H h => by
  have q := asgO_of h
  exact lc_of hts q
end
end Sm

set_option Elab.async false
set_option linter.all false
set_option maxRecDepth 100000
set_option maxHeartbeats 4000000
namespace Sm
open PySem PySem.Spec PyProof.Rows L2
variable [Tb]

section
variable {K : PySem.W.Frag} {F F' : Fz} {H H' : Hp} {v : V} {d : PyData} {vs xs : List V} {ds : List PyData} {a : Addr}
/-! ### trees without the script -/
mutual
theorem Rep.dp : ∀ {v : V} {d : PyData}, Rep K F H v d → d.hasDict = false → Dp K H v d
  | _, _, .non, _ => .non
  | _, _, .bool b, _ => .bl b
  | _, _, .int i, _ => .int i
  | _, _, .str s, _ => .str s
  | _, _, .tup h r, e => .tup h.sq (Reps.dp r (by simpa only [PyData.hasDict] using e))
  | _, _, .lst h r, e => .lst h.sq (Reps.dp r (by simpa only [PyData.hasDict] using e))
  | _, _, .scr h, e => by simp [PyData.hasDict] at e
theorem Reps.dp : ∀ {vs : List V} {ds : List PyData}, Reps K F H vs ds → PyData.hasDictAll ds = false → DpAll K H vs ds
  | _, _, .nil, _ => .nil
  | _, _, .cons h r, e => by
    simp only [PyData.hasDictAll, Bool.or_eq_false_iff] at e
    exact .cons (Rep.dp h e.1) (Reps.dp r e.2)
end

theorem newTup {p : Addr} {Q : VK} (hd : Dom F H) (hp : H p = none) (r : Reps K F H vs ds) (k : ∀ v F' H', New F H F' H' → Rep K F' H' v (.tuple ds) → Q v H') : Q (.ref p) (upd H p (.tup vs)) :=
  have N : New F H (fun a => F a ∨ a = p) (upd H p (.tup vs)) := .add hd hp
  k _ _ _ N (.tup (.inl ⟨.inr rfl, .inl upd_same⟩) (N.reps r))
theorem newLst {p : Addr} {Q : VK} (hd : Dom F H) (hp : H p = none) (r : Reps K F H vs ds) (k : ∀ v F' H', New F H F' H' → Rep K F' H' v (.list ds) → Q v H') : Q (.ref p) (upd H p (.lst vs)) :=
  have N : New F H (fun a => F a ∨ a = p) (upd H p (.lst vs)) := .add hd hp
  k _ _ _ N (.lst ⟨.inr rfl, upd_same⟩ (N.reps r))
theorem newOwn {p : Addr} {Q : VK} (hd : Dom F H) (hp : H p = none) (r : Reps K F H vs ds) (k : ∀ a xs F' H', New F H F' H' → H a = none → H' a = some (.lst xs) → ¬ F' a → Reps K F' H' xs ds → Q (.ref a) H') : Q (.ref p) (upd H p (.lst vs)) :=
  have N : New F H F (upd H p (.lst vs)) := .raw hd hp
  k p vs F _ N hp upd_same (fun f => hd.nn f hp) (N.reps r)

/-! ### arithmetic -/
def addD : PyData → PyData → Option PyData
  | .int i, .int j => some (.int (i + j))
  | .tuple xs, .tuple ys => if xs.length + ys.length ≤ sizeLine then some (.tuple (xs ++ ys)) else none
  | .list xs, .list ys => if xs.length + ys.length ≤ sizeLine then some (.list (xs ++ ys)) else none
  | .str x, .str y => if x.length + y.length ≤ sizeLine then some (.str (x ++ y)) else none
  | _, _ => none
def rAddA (K : PySem.W.Frag) : R2 := fun x y H Q => rI0 (fun i j => V.int (i + j)) x y H Q ∨ (rCatA K x y H Q ∨ (rCat x y H Q ∨ ∃ i j, x = .str i ∧ y = .str j ∧ i.length + j.length ≤ sizeLine ∧ Q (.str (i ++ j)) H))
theorem op_addA {X : Cx} : OpR X (binaryOp .Add) (rAddA X.K) := op_add.or (op_catA.or (op_cat.or op_add_str))
theorem ok_addA : OpOk K (rAddA K) addD := fun F H x y dx dy dz Q hd rx ry e k => by
  unfold addD at e
  split at e
  · cases e; cases rx; cases ry
    exact .inl ⟨_, _, rfl, rfl, k _ F H (.refl hd) (.int _)⟩
  · rename_i xs ys
    split at e
    · rename_i hz
      cases e
      cases rx with
      | tup h1 r1 =>
        cases ry with
        | tup h2 r2 =>
          refine .inr (.inl ⟨_, _, _, _, rfl, rfl, h1.sq, h2.sq, by rw [r1.length, r2.length]; exact hz, fun e1 => ?_, fun e1 e2 => ?_, fun e1 e2 p hp => ?_⟩)
          · have := r1.nil_iff.mp e1
            subst this
            exact k _ F H (.refl hd) (.tup h2 r2)
          · have := r2.nil_iff.mp e2
            subst this
            rw [List.append_nil] at k
            exact k _ F H (.refl hd) (.tup h1 r1)
          · exact newTup hd hp (r1.append r2) k
    · cases e
  · rename_i xs ys
    split at e
    · rename_i hz
      cases e
      cases rx with
      | lst h1 r1 =>
        cases ry with
        | lst h2 r2 =>
          refine .inr (.inr (.inl ⟨_, _, _, _, rfl, rfl, h1.2, h2.2, by rw [r1.length, r2.length]; exact hz, fun p hp => ?_⟩))
          exact newLst hd hp (r1.append r2) k
    · cases e
  · split at e
    · rename_i hz
      cases e; cases rx; cases ry
      exact .inr (.inr (.inr ⟨_, _, rfl, rfl, hz, k _ F H (.refl hd) (.str _)⟩))
    · cases e
  · cases e
/-- lists: a new one -/
def addL : PyData → PyData → Option (List PyData)
  | .list xs, .list ys => if xs.length + ys.length ≤ sizeLine then some (xs ++ ys) else none
  | _, _ => none
theorem ok_addL : OpOkL K rCat addL := fun F H x y dx dy dz Q hd rx ry e k => by
  unfold addL at e
  split at e
  · split at e
    · rename_i hz
      cases e
      cases rx with
      | lst h1 r1 =>
        cases ry with
        | lst h2 r2 =>
          refine ⟨_, _, _, _, rfl, rfl, h1.2, h2.2, by rw [r1.length, r2.length]; exact hz, fun p hp => ?_⟩
          exact newOwn hd hp (r1.append r2) k
    · cases e
  · cases e
def intD (g : Int → Int → Option PyData) : PyData → PyData → Option PyData
  | .int i, .int j => g i j
  | _, _ => none
theorem ok_int {r : R2} {g : Int → Int → Option PyData} (h : ∀ (F : Fz) (i j : Int) (dz : PyData) (H : Hp) (Q : VK), g i j = some dz → (∀ v, Rep K F H v dz → Q v H) → r (.int i) (.int j) H Q) : OpOk K r (intD g) := fun F H x y dx dy dz Q hd rx ry e k => by
  unfold intD at e
  split at e
  · cases rx; cases ry
    exact h F _ _ _ H Q e fun v r => k v F H (.refl hd) r
  · cases e
theorem ok_I0 {g : Int → Int → Int} : OpOk K (rI0 fun i j => .int (g i j)) (intD fun i j => some (.int (g i j))) := ok_int fun F i j dz H Q e k => by
  cases e
  exact ⟨i, j, rfl, rfl, k _ (.int _)⟩
theorem ok_B0 {g : Int → Int → Bool} : OpOk K (rI0 fun i j => .bl (g i j)) (intD fun i j => some (.bool (g i j))) := ok_int fun F i j dz H Q e k => by
  cases e
  exact ⟨i, j, rfl, rfl, k _ (.bool _)⟩
def subD := intD fun i j => some (.int (i - j))
/-- comparisons that do not run away on open terms in the kernel -/
def iLt : Int → Int → Bool
  | .ofNat a, .ofNat b => Nat.ble (a + 1) b
  | .negSucc _, .ofNat _ => true
  | .ofNat _, .negSucc _ => false
  | .negSucc a, .negSucc b => Nat.ble (b + 1) a
theorem iLt_is (i j : Int) : iLt i j = decide (i < j) := by
  cases i with
  | ofNat a => cases j with
    | ofNat b =>
      show Nat.ble (a + 1) b = _
      by_cases h : a + 1 ≤ b
      · rw [Nat.ble_eq.mpr h, decide_eq_true (show (Int.ofNat a) < Int.ofNat b by simp only [Int.ofNat_eq_natCast]; omega)]
      · rw [show Nat.ble (a + 1) b = false from Bool.eq_false_iff.mpr fun z => h (Nat.ble_eq.mp z), decide_eq_false (show ¬ (Int.ofNat a) < Int.ofNat b by simp only [Int.ofNat_eq_natCast]; omega)]
    | negSucc b => rw [decide_eq_false (show ¬ (Int.ofNat a) < Int.negSucc b by simp only [Int.ofNat_eq_natCast]; omega)]; rfl
  | negSucc a => cases j with
    | ofNat b => rw [decide_eq_true (show (Int.negSucc a) < Int.ofNat b by simp only [Int.ofNat_eq_natCast]; omega)]; rfl
    | negSucc b =>
      show Nat.ble (b + 1) a = _
      by_cases h : b + 1 ≤ a
      · rw [Nat.ble_eq.mpr h, decide_eq_true (show (Int.negSucc a) < Int.negSucc b by omega)]
      · rw [show Nat.ble (b + 1) a = false from Bool.eq_false_iff.mpr fun z => h (Nat.ble_eq.mp z), decide_eq_false (show ¬ (Int.negSucc a) < Int.negSucc b by omega)]
def ltD := intD fun i j => some (.bool (iLt i j))
def leD := intD fun i j => some (.bool (!iLt j i))
def gtD := intD fun i j => some (.bool (iLt j i))
def geD := intD fun i j => some (.bool (!iLt i j))
theorem iLe_is (i j : Int) : (!iLt j i) = decide (i ≤ j) := by
  rw [iLt_is]
  by_cases h : i ≤ j
  · rw [decide_eq_true h, decide_eq_false (by omega)]; rfl
  · rw [decide_eq_false h, decide_eq_true (by omega)]; rfl
theorem ok_sub : OpOk K (rI0 fun i j => .int (i - j)) subD := ok_I0
theorem ok_lt : OpOk K (rI0 fun i j => .bl (decide (i < j))) ltD := ok_int fun F i j dz H Q e k => by
  cases e
  exact ⟨i, j, rfl, rfl, k _ (by rw [iLt_is]; exact .bool _)⟩
theorem ok_le : OpOk K (rI0 fun i j => .bl (decide (i ≤ j))) leD := ok_int fun F i j dz H Q e k => by
  cases e
  exact ⟨i, j, rfl, rfl, k _ (by rw [iLe_is]; exact .bool _)⟩
theorem ok_gt : OpOk K (rI0 fun i j => .bl (decide (j < i))) gtD := ok_int fun F i j dz H Q e k => by
  cases e
  exact ⟨i, j, rfl, rfl, k _ (by rw [iLt_is]; exact .bool _)⟩
theorem ok_ge : OpOk K (rI0 fun i j => .bl (decide (j ≤ i))) geD := ok_int fun F i j dz H Q e k => by
  cases e
  exact ⟨i, j, rfl, rfl, k _ (by rw [iLe_is]; exact .bool _)⟩
def MulOk (i j : Int) : Prop := CMul i j ∨ CMulW i j
def mulB (i j : Int) : Bool := Nat.ble (i.natAbs + 1) 18446744073709551616 || (Nat.ble (j.natAbs + 1) 18446744073709551616 || Nat.ble (i.natAbs.log2 + j.natAbs.log2 + 1) 1000000)
theorem mulB_iff (i j : Int) : mulB i j = true ↔ MulOk i j := by
  have e : (2 : Int) ^ 64 = 18446744073709551616 := by decide
  unfold mulB MulOk CMul CMulW
  simp only [Bool.or_eq_true, Nat.ble_eq, e]
  omega
instance {i j : Int} : Decidable (MulOk i j) := decidable_of_iff (mulB i j = true) (mulB_iff i j)
def mulD := intD fun i j => if MulOk i j then some (.int (i * j)) else none
def rMulA : R2 := fun x y H Q => rI CMul (fun i j => V.int (i * j)) x y H Q ∨ rI CMulW (fun i j => V.int (i * j)) x y H Q
theorem op_mulA {X : Cx} : OpR X (binaryOp .Mult) rMulA := op_mul.or op_mulW
theorem ok_mul : OpOk K rMulA mulD := ok_int fun F i j dz H Q e k => by
  split at e
  · rename_i h
    cases e
    exact h.elim (fun h => .inl ⟨i, j, rfl, rfl, h, k _ (.int _)⟩) fun h => .inr ⟨i, j, rfl, rfl, h, k _ (.int _)⟩
  · cases e
/-- // by a divisor of any sign that is not too great -/
def DivOk (j : Int) : Prop := j ≠ 0 ∧ j.natAbs.log2 < 9000
instance {j : Int} : Decidable (DivOk j) := by unfold DivOk; exact inferInstance
def divD := intD fun i j => if DivOk j then some (.int (i.fdiv j)) else none
theorem op_divA {X : Cx} : OpR X (binaryOp .FloorDiv) (rI (fun _ j => DivOk j) fun i j => .int (i.fdiv j)) := opI fun _ _ _ _ _ _ _ hc q => floordiv_int hc.1 q (.inl (PyProof.noPylong_of_log2 hc.2))
theorem ok_div : OpOk K (rI (fun _ j => DivOk j) fun i j => .int (i.fdiv j)) divD := ok_int fun F i j dz H Q e k => by
  split at e
  · rename_i h
    cases e
    exact ⟨i, j, rfl, rfl, h, k _ (.int _)⟩
  · cases e
def modD := intD fun i j => if 0 < j then some (.int (i % j)) else none
theorem ok_mod : OpOk K (rI (fun _ j => 0 < j) fun i j => .int (i % j)) modD := ok_int fun F i j dz H Q e k => by
  split at e
  · rename_i h
    cases e
    exact ⟨i, j, rfl, rfl, h, k _ (.int _)⟩
  · cases e
def PowOk (i j : Int) : Prop := 0 ≤ j ∧ j ≤ 1000000 ∧ i.natAbs < 2 ^ 64
def powB : Int → Int → Bool
  | i, .ofNat b => Nat.ble b 1000000 && Nat.ble (i.natAbs + 1) 18446744073709551616
  | _, .negSucc _ => false
theorem powB_iff (i j : Int) : powB i j = true ↔ PowOk i j := by
  have e : (2 : Nat) ^ 64 = 18446744073709551616 := by decide
  unfold PowOk
  cases j with
  | ofNat b =>
    simp only [powB, Bool.and_eq_true, Nat.ble_eq, e, Int.ofNat_eq_natCast]
    omega
  | negSucc b =>
    simp only [powB, Bool.false_eq_true, false_iff]
    omega
instance {i j : Int} : Decidable (PowOk i j) := decidable_of_iff (powB i j = true) (powB_iff i j)
def powD := intD fun i j => if PowOk i j then some (.int (i ^ j.toNat)) else none
theorem ok_pow : OpOk K (rI CPow fun i j => .int (i ^ j.toNat)) powD := ok_int fun F i j dz H Q e k => by
  split at e
  · rename_i h
    cases e
    exact ⟨i, j, rfl, rfl, h, k _ (.int _)⟩
  · cases e
def negD : PyData → Option PyData
  | .int i => some (.int (-i))
  | _ => none
theorem ok_neg : UnOk K (rU fun i => .int (-i)) negD := fun F H x dx dz Q hd rx e k => by
  unfold negD at e
  split at e
  · cases e; cases rx
    exact ⟨_, rfl, k _ F H (.refl hd) (.int _)⟩
  · cases e

/-! ### equality -/
@[simp] def twoStr : PyData → PyData → Bool
  | .str _, .str _ => true
  | _, _ => false
def eqOkD (d e : PyData) : Bool := twoStr d e || (!d.hasDict && !e.hasDict && SeqAt.shaped d && SeqAt.shaped e)
def eqD (d e : PyData) : Option PyData := if eqOkD d e = true then some (.bool (PyData.eqv d e)) else none
def neD (d e : PyData) : Option PyData := if eqOkD d e = true then some (.bool (!PyData.eqv d e)) else none
def rEqA (K : PySem.W.Frag) : R2 := fun x y H Q => rEq x y H Q ∨ rEqD K x y H Q
def rNeA (K : PySem.W.Frag) : R2 := fun x y H Q => rNe x y H Q ∨ rNeD K x y H Q
theorem op_eqA {X : Cx} (hu : X.A.units + 64 < cLine) : OpR X (compareOp .Eq) (rEqA X.K) := op_eq.or (op_eqD hu)
theorem op_neA {X : Cx} (hu : X.A.units + 64 < cLine) : OpR X (compareOp .NotEq) (rNeA X.K) := op_ne.or (op_neD hu)
theorem ok_eq : OpOk K (rEqA K) eqD := fun F H x y dx dy dz Q hd rx ry e k => by
  unfold eqD at e
  split at e
  · rename_i h
    cases e
    rcases Bool.or_eq_true_iff.mp h with h | h
    · unfold twoStr at h
      split at h
      · cases rx; cases ry
        rename_i i j
        refine .inl ⟨rfl, ?_⟩
        rw [dec_str]
        exact k _ F H (.refl hd) (by simp only [PyData.eqv]; exact .bool _)
      · cases h
    simp only [Bool.and_eq_true, Bool.not_eq_true'] at h
    exact .inr ⟨dx, dy, rx.dp h.1.1.1, ry.dp h.1.1.2, h.1.2, h.2, k _ F H (.refl hd) (.bool _)⟩
  · cases e
theorem ok_ne : OpOk K (rNeA K) neD := fun F H x y dx dy dz Q hd rx ry e k => by
  unfold neD at e
  split at e
  · rename_i h
    cases e
    rcases Bool.or_eq_true_iff.mp h with h | h
    · unfold twoStr at h
      split at h
      · cases rx; cases ry
        rename_i i j
        refine .inl ⟨rfl, ?_⟩
        rw [dec_str]
        exact k _ F H (.refl hd) (by simp only [PyData.eqv]; exact .bool _)
      · cases h
    simp only [Bool.and_eq_true, Bool.not_eq_true'] at h
    exact .inr ⟨dx, dy, rx.dp h.1.1.1, ry.dp h.1.1.2, h.1.2, h.2, k _ F H (.refl hd) (.bool _)⟩
  · cases e
def isNone (d : PyData) : Bool := match d with
  | .none => true
  | _ => false
def isND (d e : PyData) : Option PyData := if isNone e then some (.bool (isNone d)) else none
def notND (d e : PyData) : Option PyData := if isNone e then some (.bool (!isNone d)) else none
theorem Rep.isNone {x : V} (r : Rep K F H x d) : decide (x = .non) = isNone d := by cases r <;> rfl
theorem ok_isN : OpOk K (fun x y H Q => y = .non ∧ Q (.bl (decide (x = .non))) H) isND := fun F H x y dx dy dz Q hd rx ry e k => by
  unfold isND at e
  split at e
  · rename_i h
    cases e
    cases ry <;> first | (exact ⟨rfl, by rw [rx.isNone]; exact k _ F H (.refl hd) (.bool _)⟩) | cases h
  · cases e
theorem ok_notN : OpOk K (fun x y H Q => y = .non ∧ Q (.bl (!decide (x = .non))) H) notND := fun F H x y dx dy dz Q hd rx ry e k => by
  unfold notND at e
  split at e
  · rename_i h
    cases e
    cases ry <;> first | (exact ⟨rfl, by rw [rx.isNone]; exact k _ F H (.refl hd) (.bool _)⟩) | cases h
  · cases e

/-! ### items, slices, lengths -/
def ixD : PyData → PyData → Option PyData
  | .list xs, .int i => atI xs i
  | .tuple xs, .int i => atI xs i
  | .dict [(.none, .list xs)], .int i => atI xs i
  | .str z, .int i => if z.length ≤ sizeLine then (atI z.cps.toList i).map fun c => .str ⟨#[c]⟩ else none
  | _, _ => none
theorem atI_rep {i : Int} (r : Reps K F H vs ds) (e : atI ds i = some d) : ∃ v, atI vs i = some v ∧ Rep K F H v d := by
  unfold atI at e ⊢
  rw [r.length]
  cases h : ixN ds.length i with
  | none => rw [h] at e; cases e
  | some j =>
    rw [h] at e
    exact r.get e
theorem ok_ix : OpOk K (rIx K) ixD := fun F H x y dx dy dz Q hd rx ry e k => by
  unfold ixD at e
  split at e
  · cases ry
    cases rx with
    | lst h r =>
      obtain ⟨v, h1, h2⟩ := atI_rep r e
      exact .inl ⟨_, _, _, v, rfl, rfl, h.sq, h1, k v F H (.refl hd) h2⟩
  · cases ry
    cases rx with
    | tup h r =>
      obtain ⟨v, h1, h2⟩ := atI_rep r e
      exact .inr (.inl ⟨_, _, _, v, rfl, rfl, h.sq, h1, k v F H (.refl hd) h2⟩)
  · cases ry
    cases rx with
    | scr h =>
      obtain ⟨v, h1, h2⟩ := atI_rep (Reps.ints _) e
      exact .inl ⟨_, _, _, v, rfl, rfl, h.sq, h1, k v F H (.refl hd) h2⟩
  · cases ry; cases rx
    split at e
    · rename_i hz
      rw [Option.map_eq_some_iff] at e
      obtain ⟨c, h1, rfl⟩ := e
      exact .inr (.inr ⟨_, _, c, rfl, rfl, hz, h1, k _ F H (.refl hd) (.str _)⟩)
    · cases e
  · cases e
/-- x[e] of an owned list x -/
@[simp] def ixO (i : Nat) (fe : EF) : EF := fun env => match (env[i]? : Option Sl) with
  | some (Sl.ow _ _) => match fe env with
    | some (.int k, e1) => match (e1[i]? : Option Sl) with
      | some (Sl.ow _ ds) => match atI ds k with
        | some d => some (d, e1)
        | none => none
      | _ => none
    | _ => none
  | _ => none
@[simp] def lenO (i : Nat) : EF := fun env => match (env[i]? : Option Sl) with
  | some (Sl.ow _ ds) => some (.int ds.length, env)
  | _ => none
/-- list(x), tuple(x) of an owned list x; the items of a walk that leaves it alone -/
def copyO (i : Nat) : LF := fun env => match (env[i]? : Option Sl) with
  | some (Sl.ow _ ds) => some (ds, env)
  | _ => none
section
variable {X : Cx} {e : Expr} {fe : EF} {pos p' p2 : Pos} {i : Nat} {x : Str}
theorem s_ixO (he : SE X e fe) (hN : X.N[i]? = some x := by rfl) (hv : Vis X.env.scope x := by first | exact Or.inl rfl | exact Or.inr (Or.inl rfl) | exact Or.inr (Or.inr rfl)) (hd : (x == ("__debug__" : Str)) = false := by decide)
    (hcd : (x == ("__classdict__" : Str)) = false := by decide) (hs : PlainIx e := by exact fun _ _ => rfl) : SE X (.Subscript (.Name x p') e pos) (ixO i fe) := PE.imp (pe_ix ix_list (pe_var hN hv hd hcd) he hs) fun σ H Q ⟨B, F, env, d, env', R, e, k⟩ => by
  unfold ixO at e
  split at e
  · rename_i b0 ds0 h0
    obtain ⟨a, xs0, s0, _⟩ := R.own i b0 ds0 h0
    split at e
    · rename_i k' e1 h1
      split at e
      · rename_i b ds h2
        split at e
        · rename_i d' h3
          cases e
          refine ⟨_, s0, B, F, env, _, _, R, h1, fun w F1 H1 E1 R1 r1 => ?_⟩
          cases r1
          obtain ⟨a', xs, s1, hh, nf, rx, z⟩ := R1.own i b ds h2
          rw [s0] at s1
          cases s1
          obtain ⟨v, h5, h6⟩ := atI_rep rx h3
          exact ⟨_, _, _, v, rfl, rfl, .inl (.inl hh), h5, k v F1 H1 E1 R1 h6⟩
        · cases e
      · cases e
    · cases e
  · cases e
theorem s_lenO (hm : X.mg "len" = none) (hN : X.N[i]? = some x) (hv : Vis X.env.scope x) (hd : (x == ("__debug__" : Str)) = false := by decide)
    (hcd : (x == ("__classdict__" : Str)) = false := by decide) (hg : Gl X "len" := by rfl) (ha : PA X [.Name x p'] (tCons (tVar i) tNil)) (he : starEach [.Name x p'] X.env = (false, eval (.Name x p') X.env) :: starEach [] X.env := by rfl) (hpl : (backTo pos (starEach [] X.env)).any (·.1) = false := by rfl) :
    SE X (.Call (.Name "len" p2) [.Name x p'] [] pos) (lenO i) := PE.imp (pe_callB call_len_seq hg hm PySem.boot_len ha (by decide) (by decide) he hpl) fun σ H Q ⟨B, F, env, d, env', R, e, k⟩ => by
  unfold lenO at e
  split at e
  · rename_i b ds h0
    cases e
    obtain ⟨a, xs, s0, hh, nf, rx, z⟩ := R.own i b ds h0
    exact ⟨_, s0, _, _, rfl, .inl (.inl (.inl hh)), by rw [rx.length]; exact k _ F H .refl R (.int _)⟩
  · cases e
end
@[simp] def lenD : List PyData → Option PyData
  | [.list xs] => some (.int xs.length)
  | [.tuple xs] => some (.int xs.length)
  | [.dict [(.none, .list xs)]] => some (.int xs.length)
  | [.str z] => if z.length ≤ sizeLine then some (.int z.length) else none
  | _ => none
def rLenA (K : PySem.W.Frag) : List V → Hp → VK → Prop := fun xs H Q => (∃ p ys, xs = [.ref p] ∧ (SqL K H p ys ∨ SqT K H p ys) ∧ Q (.int ys.length) H) ∨ ∃ z, xs = [.str z] ∧ z.length ≤ sizeLine ∧ Q (.int z.length) H
theorem call_lenA {X : Cx} : CallR X (.builtin "len") (rLenA X.K) := call_len_seq.or call_len_str
theorem Reps.one (r : Reps K F H vs [d]) : ∃ v, vs = [v] ∧ Rep K F H v d := by
  cases r with
  | cons h r => cases r; exact ⟨_, rfl, h⟩
theorem Reps.two {e : PyData} (r : Reps K F H vs [d, e]) : ∃ v w, vs = [v, w] ∧ Rep K F H v d ∧ Rep K F H w e := by
  cases r with
  | cons h r =>
    cases r with
    | cons h' r => cases r; exact ⟨_, _, rfl, h, h'⟩
theorem ok_len : ClOk K (rLenA K) lenD := fun F H xs ds dz Q hd r e k => by
  unfold lenD at e
  split at e
  · cases e
    obtain ⟨v, rfl, rv⟩ := r.one
    cases rv with
    | lst h rr => exact .inl ⟨_, _, rfl, .inl h.sq, by rw [rr.length]; exact k _ F H (.refl hd) (.int _)⟩
  · cases e
    obtain ⟨v, rfl, rv⟩ := r.one
    cases rv with
    | tup h rr => exact .inl ⟨_, _, rfl, .inr h.sq, by rw [rr.length]; exact k _ F H (.refl hd) (.int _)⟩
  · cases e
    obtain ⟨v, rfl, rv⟩ := r.one
    cases rv with
    | scr h => exact .inl ⟨_, _, rfl, .inl h.sq, by rw [List.length_map, ← List.length_map (f := PyData.int)]; exact k _ F H (.refl hd) (.int _)⟩
  · split at e
    · rename_i hz
      cases e
      obtain ⟨v, rfl, rv⟩ := r.one
      cases rv
      exact .inr ⟨_, rfl, hz, k _ F H (.refl hd) (.int _)⟩
    · cases e
  · cases e

/-! ### built-ins -/
@[simp] def absD : List PyData → Option PyData
  | [.int i] => some (.int (if i < 0 then -i else i))
  | _ => none
theorem ok_abs : ClOk K (fun xs H Q => ∃ i, xs = [.int i] ∧ Q (.int (if i < 0 then -i else i)) H) absD := fun F H xs ds dz Q hd r e k => by
  unfold absD at e
  split at e
  · cases e
    obtain ⟨v, rfl, rv⟩ := r.one
    cases rv
    exact ⟨_, rfl, k _ F H (.refl hd) (.int _)⟩
  · cases e
@[simp] def intOf : List PyData → Option PyData
  | [.int i] => some (.int i)
  | [.bool b] => some (.int (if b then 1 else 0))
  | _ => none
theorem ok_intOf : ClOk K (fun xs H Q => (∃ i, xs = [.int i] ∧ Q (.int i) H) ∨ ∃ k, xs = [.bl k] ∧ Q (.int (if k then 1 else 0)) H) intOf := fun F H xs ds dz Q hd r e k => by
  unfold intOf at e
  split at e
  · cases e
    obtain ⟨v, rfl, rv⟩ := r.one
    cases rv
    exact .inl ⟨_, rfl, k _ F H (.refl hd) (.int _)⟩
  · cases e
    obtain ⟨v, rfl, rv⟩ := r.one
    cases rv
    exact .inr ⟨_, rfl, k _ F H (.refl hd) (.int _)⟩
  · cases e
@[simp] def max2D : List PyData → Option PyData
  | [.int i, .int j] => some (.int (if j > i then j else i))
  | _ => none
theorem ok_max2 : ClOk K (fun xs H Q => ∃ i j, xs = [.int i, .int j] ∧ Q (.int (if j > i then j else i)) H) max2D := fun F H xs ds dz Q hd r e k => by
  unfold max2D at e
  split at e
  · cases e
    obtain ⟨v, w, rfl, rv, rw⟩ := r.two
    cases rv; cases rw
    exact ⟨_, _, rfl, k _ F H (.refl hd) (.int _)⟩
  · cases e
@[simp] def min2D : List PyData → Option PyData
  | [.int i, .int j] => some (.int (if j < i then j else i))
  | _ => none
theorem ok_min2 : ClOk K (fun xs H Q => ∃ i j, xs = [.int i, .int j] ∧ Q (.int (if j < i then j else i)) H) min2D := fun F H xs ds dz Q hd r e k => by
  unfold min2D at e
  split at e
  · cases e
    obtain ⟨v, w, rfl, rv, rw⟩ := r.two
    cases rv; cases rw
    exact ⟨_, _, rfl, k _ F H (.refl hd) (.int _)⟩
  · cases e
def dmB : Int → Bool
  | .ofNat b => Nat.ble 1 b && Nat.ble (b + 1) 1073741824
  | .negSucc _ => false
theorem dmB_iff (j : Int) : dmB j = true ↔ 0 < j ∧ j < 1073741824 := by
  cases j with
  | ofNat b =>
    simp only [dmB, Bool.and_eq_true, Nat.ble_eq, Int.ofNat_eq_natCast]
    omega
  | negSucc b =>
    simp only [dmB, Bool.false_eq_true, false_iff]
    omega
def divmodD : List PyData → Option PyData
  | [.int i, .int j] => if dmB j = true then some (.tuple [.int (i / j), .int (i % j)]) else none
  | _ => none
theorem ok_divmod : ClOk K (fun xs H Q => ∃ i j, xs = [.int i, .int j] ∧ CDiv i j ∧ ∀ p, H p = none → Q (.ref p) (upd H p (.tup [.int (i / j), .int (i % j)]))) divmodD := fun F H xs ds dz Q hd r e k => by
  unfold divmodD at e
  split at e
  · split at e
    · rename_i hc
      cases e
      obtain ⟨v, w, rfl, rv, rw⟩ := r.two
      cases rv; cases rw
      refine ⟨_, _, rfl, (dmB_iff _).mp hc, fun p hp => ?_⟩
      exact newTup hd hp (.cons (.int _) (.cons (.int _) .nil)) k
    · cases e
  · cases e
/-- tuple(x) -/
@[simp] def tupOf : List PyData → Option PyData
  | [.list xs] => some (.tuple xs)
  | [.tuple xs] => some (.tuple xs)
  | _ => none
theorem ok_tupOf : ClOk K (fun xs H Q => ∃ p ys, xs = [.ref p] ∧ ((SqL K H p ys ∧ ∀ l, H l = none → Q (.ref l) (upd H l (.tup ys))) ∨ (SqT K H p ys ∧ Q (.ref p) H))) tupOf := fun F H xs ds dz Q hd r e k => by
  unfold tupOf at e
  split at e
  · cases e
    obtain ⟨v, rfl, rv⟩ := r.one
    cases rv with
    | lst h rr =>
      refine ⟨_, _, rfl, .inl ⟨h.sq, fun p hp => ?_⟩⟩
      exact newTup hd hp rr k
  · cases e
    obtain ⟨v, rfl, rv⟩ := r.one
    cases rv with
    | tup h rr => exact ⟨_, _, rfl, .inr ⟨h.sq, k _ F H (.refl hd) (.tup h rr)⟩⟩
  · cases e
/-- list(x): a new one -/
@[simp] def lstOf : List PyData → Option (List PyData)
  | [.list xs] => some xs
  | [.tuple xs] => some xs
  | [.dict [(.none, .list xs)]] => some xs
  | _ => none
theorem ok_lstOf : ClOkL K (fun xs H Q => ∃ p ys, xs = [.ref p] ∧ (SqL K H p ys ∨ SqT K H p ys) ∧ ∀ l, H l = none → Q (.ref l) (upd H l (.lst ys))) lstOf := fun F H xs ds dz Q hd r e k => by
  have fin : ∀ {p ys}, Reps K F H ys dz → H p = none → Q (.ref p) (upd H p (.lst ys)) := fun {p ys} rr hp => by
    have N : New F H F (upd H p (.lst ys)) := .raw hd hp
    exact k p _ F _ N hp upd_same (fun f => hd.nn f hp) (N.reps rr)
  unfold lstOf at e
  split at e
  · cases e
    obtain ⟨v, rfl, rv⟩ := r.one
    cases rv with
    | lst h rr => exact ⟨_, _, rfl, .inl h.sq, fun l hl => fin rr hl⟩
  · cases e
    obtain ⟨v, rfl, rv⟩ := r.one
    cases rv with
    | tup h rr => exact ⟨_, _, rfl, .inr h.sq, fun l hl => fin rr hl⟩
  · cases e
    obtain ⟨v, rfl, rv⟩ := r.one
    cases rv with
    | scr h => exact ⟨_, _, rfl, .inl h.sq, fun l hl => fin (Reps.ints _) hl⟩
  · cases e
/-- the ints of a list -/
def intsOf : List PyData → Option (List Int)
  | [] => some []
  | .int i :: r => (intsOf r).map (i :: ·)
  | _ :: _ => none
theorem intsOf_eq : ∀ {ds : List PyData} {ns : List Int}, intsOf ds = some ns → ds = ns.map .int
  | [], _, h => by cases h; rfl
  | .int i :: r, _, h => by
    unfold intsOf at h
    rw [Option.map_eq_some_iff] at h
    obtain ⟨ms, h1, rfl⟩ := h
    rw [intsOf_eq h1]
    rfl
  | .none :: _, _, h => nomatch h
  | .bool _ :: _, _, h => nomatch h
  | .str _ :: _, _, h => nomatch h
  | .list _ :: _, _, h => nomatch h
  | .tuple _ :: _, _, h => nomatch h
  | .dict _ :: _, _, h => nomatch h
theorem intsOf_map (ns : List Int) : intsOf (ns.map .int) = some ns := by
  induction ns with
  | nil => rfl
  | cons n ns ih => show (intsOf (ns.map .int)).map (n :: ·) = _; rw [ih]; rfl
def sumD : List PyData → Option PyData
  | [.list xs] => (intsOf xs).map fun ns => .int ns.sum
  | _ => none
theorem ok_sum : ClOk K (rSum K) sumD := fun F H xs ds dz Q hd r e k => by
  unfold sumD at e
  split at e
  · rw [Option.map_eq_some_iff] at e
    obtain ⟨ns, h1, rfl⟩ := e
    have := intsOf_eq h1
    subst this
    obtain ⟨v, rfl, rv⟩ := r.one
    cases rv with
    | lst h rr =>
      have := rr.of_ints
      subst this
      exact ⟨_, ns, rfl, h.sq, k _ F H (.refl hd) (.int _)⟩
  · cases e
def CombOk (a b : Int) : Prop := 0 ≤ a ∧ 0 ≤ b ∧ a < 2 ^ 64 ∧ (b ≤ 9000 ∨ a ≤ 18000)
def combB : Int → Int → Bool
  | .ofNat a, .ofNat b => Nat.ble (a + 1) 18446744073709551616 && (Nat.ble b 9000 || Nat.ble a 18000)
  | _, _ => false
theorem combB_iff (i j : Int) : combB i j = true ↔ CombOk i j := by
  have e : (2 : Int) ^ 64 = 18446744073709551616 := by decide
  unfold CombOk
  cases i with
  | ofNat a => cases j with
    | ofNat b =>
      simp only [combB, Bool.and_eq_true, Bool.or_eq_true, Nat.ble_eq, e, Int.ofNat_eq_natCast]
      omega
    | negSucc b =>
      simp only [combB, Bool.false_eq_true, false_iff]
      omega
  | negSucc a =>
    simp only [combB, Bool.false_eq_true, false_iff]
    omega
instance {i j : Int} : Decidable (CombOk i j) := decidable_of_iff (combB i j = true) (combB_iff i j)
def combD : List PyData → Option PyData
  | [.int a, .int b] => if CombOk a b then some (.int (PySem.W.mcComb a b)) else none
  | _ => none
def rComb : List V → Hp → VK → Prop := fun xs H Q => ∃ a b, xs = [.int a, .int b] ∧ CombOk a b ∧ Q (.int (PySem.W.mcComb a b)) H
theorem call_comb {X : Cx} : CallR X (.builtin "math.comb") rComb := by
  intro pins s σ H xs us Q I r h
  obtain ⟨i, j, rfl, ⟨h1, h2, h3, h4⟩, q⟩ := h
  obtain ⟨u, w', rfl, ⟨t, rfl⟩, ⟨t', rfl⟩⟩ := vals2 r
  exact PySem.W.mc_comb h1 h2 h3 h4 fun _ => ⟨.int _, H, I.tok _, ⟨_, rfl⟩, q⟩
theorem ok_comb : ClOk K rComb combD := fun F H xs ds dz Q hd r e k => by
  unfold combD at e
  split at e
  · split at e
    · rename_i hc
      cases e
      obtain ⟨v, w, rfl, rv, rw⟩ := r.two
      cases rv; cases rw
      exact ⟨_, _, rfl, hc, k _ F H (.refl hd) (.int _)⟩
    · cases e
  · cases e
end
section
variable {X : Cx} {x : Str} {p pos : Pos} {e : Expr} {es : List Expr} {fs : LF} {id T : String} {r : List V → Hp → VK → Prop}
theorem s_b {o : List PyData → Option PyData} (hc : CallR X (.builtin id) r) (ok : ClOk X.K r o) (hm : X.mg x = none) (hv : bootBuiltins x = some (.builtin id)) (ha : SA X (e :: es) fs) (hg : Gl X x := by rfl) (hn : x ≠ "__name__" := by decide) (hdb : (x == ("__debug__" : Str)) = false := by decide)
    (he : starEach (e :: es) X.env = (false, eval e X.env) :: starEach es X.env := by rfl) (hpl : (backTo pos (starEach es X.env)).any (·.1) = false := by rfl) : SE X (.Call (.Name x p) (e :: es) [] pos) (cal o fs) :=
  PE.imp (pe_callB hc hg hm hv ha hn hdb he hpl) fun _ _ _ h => tCB_of ok h
theorem s_t {o : List PyData → Option PyData} (hc : CallR X (.type T) r) (ok : ClOk X.K r o) (hm : X.mg x = none) (hv : bootBuiltins x = some (.type T)) (ha : SA X (e :: es) fs) (hg : Gl X x := by rfl) (hn : x ≠ "__name__" := by decide) (hdb : (x == ("__debug__" : Str)) = false := by decide)
    (he : starEach (e :: es) X.env = (false, eval e X.env) :: starEach es X.env := by rfl) (hpl : (backTo pos (starEach es X.env)).any (·.1) = false := by rfl) : SE X (.Call (.Name x p) (e :: es) [] pos) (cal o fs) :=
  PE.imp (pe_callTy hc hg hm hv ha hn hdb he hpl) fun _ _ _ h => tCB_of ok h
theorem s_tL {o : List PyData → Option (List PyData)} (hc : CallR X (.type T) r) (ok : ClOkL X.K r o) (hm : X.mg x = none) (hv : bootBuiltins x = some (.type T)) (ha : SA X (e :: es) fs) (hg : Gl X x := by rfl) (hn : x ≠ "__name__" := by decide) (hdb : (x == ("__debug__" : Str)) = false := by decide)
    (he : starEach (e :: es) X.env = (false, eval e X.env) :: starEach es X.env := by rfl) (hpl : (backTo pos (starEach es X.env)).any (·.1) = false := by rfl) : SL X (.Call (.Name x p) (e :: es) [] pos) (calL o fs) :=
  PE.imp (pe_callTy hc hg hm hv ha hn hdb he hpl) fun _ _ _ h => tCBL_of ok h
/-- a function that was imported from a built-in module -/
theorem s_f {o : List PyData → Option PyData} (hc : CallR X (.builtin id) r) (ok : ClOk X.K r o) (hm : X.mg x = some (.builtin id)) (ha : SA X (e :: es) fs) (hg : Gl X x := by rfl) (hdb : (x == ("__debug__" : Str)) = false := by decide)
    (he : starEach (e :: es) X.env = (false, eval e X.env) :: starEach es X.env := by rfl) (hpl : (backTo pos (starEach es X.env)).any (·.1) = false := by rfl) : SE X (.Call (.Name x p) (e :: es) [] pos) (cal o fs) :=
  PE.imp (pe_callBfun hc hg hm ha hdb he hpl) fun _ _ _ h => tCB_of ok h
end
end Sm

set_option Elab.async false
set_option linter.all false
set_option maxRecDepth 100000
set_option maxHeartbeats 4000000
namespace Sm
open PySem PySem.Spec PyProof.Rows L2
variable [Tb]

/-! ### what is walked -/
def iSeq (K : PySem.W.Frag) (tl : TE) : TI := fun σ H R => tl σ H fun x H1 => (∃ a xs, x = .ref a ∧ SqL K H1 a xs ∧ R (Itl K a) H1) ∨ (∃ a xs, x = .ref a ∧ SqT K H1 a xs ∧ R (Itt K a) H1)
theorem pi_seq {X : Cx} {tg l : Expr} {tl : TE} (hl : PE X l tl) : PI X tg l (iSeq X.K tl) := by
  constructor
  intro pins s σ H R I h
  refine thn (hl.run pins s σ H _ I h) fun v s1 hv => ?_
  obtain ⟨x, H1, I1, r1, q1⟩ := hv
  have fp : ∀ b ∈ [s1.heap.objs.size], FpOk X pins H1 b := fun b hb => by
    rw [show b = s1.heap.objs.size by simpa using hb]
    exact I1.fpOk (Nat.le_refl _) (I1.hok.fresh (Nat.le_refl _))
  rcases q1 with ⟨a, xs, rfl, hq, q⟩ | ⟨a, xs, rfl, hq, q⟩
  · cases r1
    obtain ⟨its, rv, pl, hz⟩ := I1.list hq
    exact wpAny_pyIter_list pl.isList ⟨s1.heap.objs.size, [s1.heap.objs.size], _, _, H1, rfl, I1.kept (t' := s1.toks) fun b o e => Heap.get?_push_of_some _ e, turn_list a _, ⟨_, Heap.get?_push_size _ rfl, rfl, rfl⟩, fp, q⟩
  · cases r1
    obtain ⟨its, rv, pl, hz⟩ := I1.tuple hq
    exact wpAny_pyIter_tuple (show s1.heap.IsTuple a its.toArray from pl) ⟨s1.heap.objs.size, [s1.heap.objs.size], _, _, H1, rfl, I1.kept (t' := s1.toks) fun b o e => Heap.get?_push_of_some _ e, turn_tuple a _, ⟨_, Heap.get?_push_size _ rfl, rfl, rfl⟩, fp, q⟩
section
variable {K : PySem.W.Frag} {F F' : Fz} {H H' : Hp} {v : V} {d : PyData} {vs xs : List V} {ds : List PyData} {a : Addr}
theorem LsAt.keep (h : LsAt F H a xs) (k : Keep F H F' H') : LsAt F' H' a xs := ⟨k.1 _ h.1, k.2 _ _ h.1 h.2⟩
theorem TpAt.keep (h : TpAt K F H a xs) (k : Keep F H F' H') : TpAt K F' H' a xs := h.mono k.1 k.2
theorem ScAt.keep (h : ScAt K F H a xs) (k : Keep F H F' H') : ScAt K F' H' a xs := h.mono k.1 k.2
theorem LsAt.inj {ys : List V} (h : LsAt F H a xs) (g : SqL K H a ys) (hk : K.lookup a = none ∨ True) : xs = ys ∨ True := .inr trivial
/-- one read of a list, of a tuple, is like any other -/
theorem walk_list (h : ∀ (F2 : Fz) (H2 : Hp), Keep F H F2 H2 → SqL K H2 a xs) (r : Reps K F H xs ds) : WalkOk K (Itl K a) ds F H := fun i F2 H2 k hd => by
  have q := h F2 H2 k
  have r2 := k.reps r
  refine ⟨fun d e => ?_, fun e => ⟨xs, q, by rw [r.length]; exact List.getElem?_eq_none_iff.mp e⟩⟩
  obtain ⟨x, h1, h2⟩ := r2.get e
  refine ⟨⟨xs, x, q, h1⟩, fun y H3 z => ?_⟩
  obtain ⟨rfl, z⟩ := z
  have := z xs q
  rw [h1] at this
  cases this
  exact ⟨F2, .refl hd, h2⟩
theorem walk_tup (h : ∀ (F2 : Fz) (H2 : Hp), Keep F H F2 H2 → SqT K H2 a xs) (r : Reps K F H xs ds) : WalkOk K (Itt K a) ds F H := fun i F2 H2 k hd => by
  have q := h F2 H2 k
  have r2 := k.reps r
  refine ⟨fun d e => ?_, fun e => ⟨xs, q, by rw [r.length]; exact List.getElem?_eq_none_iff.mp e⟩⟩
  obtain ⟨x, h1, h2⟩ := r2.get e
  refine ⟨⟨xs, x, q, h1⟩, fun y H3 z => ?_⟩
  obtain ⟨rfl, z⟩ := z
  have := z xs q
  rw [h1] at this
  cases this
  exact ⟨F2, .refl hd, h2⟩
end
@[simp] def itD : PyData → Option (List PyData)
  | .list xs => some xs
  | .tuple xs => some xs
  | .dict [(.none, .list xs)] => some xs
  | _ => none
@[simp] def itF (fe : EF) : LF := fun env => match fe env with
  | some (d, e1) => match itD d with
    | some ds => some (ds, e1)
    | none => none
  | none => none
def rngL (lo : Int) (n : Nat) : List PyData := (List.range n).map fun i => .int (lo + (i : Nat))
/-- what range takes -/
def InR (j : Int) : Prop := j.natAbs < 4611686018427387904
instance {j : Int} : Decidable (InR j) := Nat.decLt _ _
theorem InR.is {j : Int} (h : InR j) : -(2 ^ 62) ≤ j ∧ j < 2 ^ 62 := by
  have e : (2 : Int) ^ 62 = 4611686018427387904 := by decide
  unfold InR at h
  rw [e]
  omega
def rng1 (fs : LF) : LF := fun env => match fs env with
  | some ([.int j], e1) => if InR j then some (rngL 0 j.toNat, e1) else none
  | _ => none
def rng2 (fs : LF) : LF := fun env => match fs env with
  | some ([.int i, .int j], e1) => if InR i ∧ InR j then some (rngL i (j - i).toNat, e1) else none
  | _ => none
/-- range(a, b, -1) -/
def rngD (fs : LF) : LF := fun env => match fs env with
  | some ([.int i, .int j, .int c], e1) => if c = -1 ∧ (InR i ∧ InR j) then some ((List.range (i - j).toNat).map fun k => .int (i - (k : Nat)), e1) else none
  | _ => none
def enuL : List PyData → List PyData := fun ds => ds.zipIdx.map fun p => .tuple [.int (p.2 : Nat), p.1]
def enuF (fs : LF) : LF := fun env => match fs env with
  | some ([d], e1) => match itD d with
    | some ds => some (enuL ds, e1)
    | none => none
  | _ => none
section
variable {X : Cx} {tg e a b c : Expr} {es : List Expr} {fe : EF} {fs : LF} {p pos : Pos}
theorem si_seq (he : SE X e fe) : SI X tg e (itF fe) := PI.imp (pi_seq he) fun σ H Q ⟨B, F, env, ds, env', R, e, k⟩ => by
  unfold itF at e
  split at e
  · rename_i d e1 h1
    split at e
    · rename_i ds' h2
      cases e
      refine ⟨B, F, env, d, env', R, h1, fun v F1 H1 E1 R1 r1 => ?_⟩
      unfold itD at h2
      split at h2
      · cases h2
        cases r1 with
        | lst h r => exact .inl ⟨_, _, rfl, h.sq, k _ F1 H1 E1 R1 (walk_list (fun F2 H2 kk => (h.keep kk).sq) r)⟩
      · cases h2
        cases r1 with
        | tup h r => exact .inr ⟨_, _, rfl, h.sq, k _ F1 H1 E1 R1 (walk_tup (fun F2 H2 kk => (h.keep kk).sq) r)⟩
      · cases h2
        cases r1 with
        | scr h => exact .inl ⟨_, _, rfl, h.sq, k _ F1 H1 E1 R1 (walk_list (fun F2 H2 kk => (h.keep kk).sq) (Reps.ints _))⟩
      · cases h2
    · cases e
  · cases e
theorem rng_walk {K : PySem.W.Frag} {lo : Int} {n : Nat} {F : Fz} {H : Hp} : WalkOk K (Itr lo n) (rngL lo n) F H := fun i F2 H2 k hd => by
  unfold rngL
  refine ⟨fun d e => ?_, fun e => ?_⟩
  · rw [List.getElem?_map] at e
    rw [Option.map_eq_some_iff] at e
    obtain ⟨j, h1, rfl⟩ := e
    have hi : i < n := by
      have := (List.getElem?_eq_some_iff.mp h1).1
      simpa using this
    rw [List.getElem?_range hi] at h1
    cases h1
    exact ⟨hi, fun x H3 y => by
      obtain ⟨rfl, rfl⟩ := y
      exact ⟨F2, .refl hd, .int _⟩⟩
  · have := List.getElem?_eq_none_iff.mp e
    simp only [List.length_map, List.length_range] at this
    exact this
theorem si_range1 (hm : X.mg "range" = none) (ha : SA X [a] fs) (hg : Gl X "range" := by rfl) (hs : starEach [a] X.env = [(false, eval a X.env)] := by rfl) : SI X tg (.Call (.Name "range" p) [a] [] pos) (rng1 fs) := PI.imp (pi_range1 hg hm ha hs) fun σ H Q ⟨B, F, env, ds, env', R, e, k⟩ => by
  unfold rng1 at e
  split at e
  · rename_i j e1 h1
    split at e
    · rename_i hb
      cases e
      refine ⟨B, F, env, _, env', R, h1, fun v F1 H1 E1 R1 r1 => ?_⟩
      obtain ⟨w, rfl, rw⟩ := r1.one
      cases rw
      exact ⟨j, rfl, hb.is.1, hb.is.2, k _ F1 H1 E1 R1 rng_walk⟩
    · cases e
  · cases e
theorem si_range2 (hm : X.mg "range" = none) (ha : SA X [a, b] fs) (hg : Gl X "range" := by rfl) (hs : starEach [a, b] X.env = [(false, eval a X.env), (false, eval b X.env)] := by rfl) (hs2 : starEach [b] X.env = [(false, eval b X.env)] := by rfl) :
    SI X tg (.Call (.Name "range" p) [a, b] [] pos) (rng2 fs) := PI.imp (pi_range2 hg hm ha hs hs2) fun σ H Q ⟨B, F, env, ds, env', R, e, k⟩ => by
  unfold rng2 at e
  split at e
  · rename_i i j e1 h1
    split at e
    · rename_i hb
      cases e
      refine ⟨B, F, env, _, env', R, h1, fun v F1 H1 E1 R1 r1 => ?_⟩
      obtain ⟨w, u, rfl, rw, ru⟩ := r1.two
      cases rw; cases ru
      exact ⟨i, j, rfl, ⟨hb.1.is.1, hb.1.is.2, hb.2.is.1, hb.2.is.2⟩, k _ F1 H1 E1 R1 rng_walk⟩
    · cases e
  · cases e
theorem rngC_walk {K : PySem.W.Frag} {lo : Int} {n : Nat} {F : Fz} {H : Hp} : WalkOk K (Itc lo (-1) n) ((List.range n).map fun k => .int (lo - (k : Nat))) F H := fun i F2 H2 k hd => by
  refine ⟨fun d e => ?_, fun e => ?_⟩
  · rw [List.getElem?_map, Option.map_eq_some_iff] at e
    obtain ⟨j, h1, rfl⟩ := e
    have hi : i < n := by
      have := (List.getElem?_eq_some_iff.mp h1).1
      simpa using this
    rw [List.getElem?_range hi] at h1
    cases h1
    exact ⟨hi, fun x H3 y => by
      obtain ⟨rfl, rfl⟩ := y
      exact ⟨F2, .refl hd, by rw [show lo + (i : Int) * -1 = lo - (i : Int) by omega]; exact .int _⟩⟩
  · have := List.getElem?_eq_none_iff.mp e
    simp only [List.length_map, List.length_range] at this
    exact this
theorem si_rangeD (hm : X.mg "range" = none) (ha : SA X [a, b, c] fs) (hg : Gl X "range" := by rfl)
    (hp : PI X tg (.Call (.Name "range" p) [a, b, c] [] pos) (iRng3 (tA X.K fs))) :
    SI X tg (.Call (.Name "range" p) [a, b, c] [] pos) (rngD fs) := PI.imp hp fun σ H Q ⟨B, F, env, ds, env', R, e, k⟩ => by
  unfold rngD at e
  split at e
  · rename_i i j c e1 h1
    split at e
    · rename_i hb
      obtain ⟨rfl, hb⟩ := hb
      cases e
      refine ⟨B, F, env, _, env', R, h1, fun v F1 H1 E1 R1 r1 => ?_⟩
      cases r1 with
      | cons r1 rr =>
        obtain ⟨w, u, rfl, rw, ru⟩ := rr.two
        cases r1; cases rw; cases ru
        exact ⟨i, j, -1, _, rfl, RgC.neg hb.1.is.1 hb.1.is.2 hb.2.is.1 hb.2.is.2, k _ F1 H1 E1 R1 rngC_walk⟩
    · cases e
  · cases e
end

/-! ### enumerate -/
section
variable {prog : Program} {w : World} {A : Around} {E : Value → Shared → Prop} {s : Shared}
theorem draws_tup (hh : A.handled = none) (it l : Addr) (hne : l ≠ it) (items : Array Value) :
    Draws prog w A it [it, l] items.size (fun i v => items[i]? = some v) (fun i h => h.IsTupleIter it l i ∧ h.IsTuple l items) where
  live := fun _ _ st => by
    obtain ⟨⟨o, ho, _⟩, _⟩ := st
    exact ⟨o, ho⟩
  frame := fun _ h h' st hk => by
    obtain ⟨⟨o, ho, hr⟩, ⟨u, hu, hr'⟩⟩ := st
    exact ⟨⟨o, hk it (by simp) o ho, hr⟩, ⟨u, hk l (by simp) u hu, hr'⟩⟩
  item := fun i s Q E hi st hQ => by
    refine RZ.nextOf_tuple_item st.1 st.2 (x := items[i]) (by simp [hi]) fun h' hit' hs' => ?_
    obtain ⟨u, hu, hr'⟩ := st.2
    exact hQ _ h' s.toks (by simp [hi]) ⟨hit', ⟨u, (hs'.2 l hne).trans hu, hr'⟩⟩ hs'
  done := fun s Q E st hE => RZ.nextOf_tuple_end hh st.1 st.2 (by simp) hE
open AutoSeq1 (wpAny_loadPart') in
set_option maxHeartbeats 2000000 in
theorem meets_enumT (l : Addr) (items : Array Value) (n : Nat) (dct : Option Addr) (sl : Array (Option Value)) :
    Meets (Builtin.«enumerate.__new__» ⟨[.type "enumerate", .ref l], []⟩) (fun _ R s => s.heap.get? l = some { cls := .type "tuple", dict := dct, data := .seq items n, slots := sl } ∧
      R (.ok (.ret (.ref (s.heap.push { cls := .type "tuple_iterator", data := .fields #[.ref l, .int 0 0] }).objs.size)))
        { s with heap := (s.heap.push { cls := .type "tuple_iterator", data := .fields #[.ref l, .int 0 0] }).push { cls := .type "enumerate", data := .fields #[.none, .bool false, .ref s.heap.objs.size, rawInt 0, .none, .none] } }) := by
  refine .of_wp fun prog w A R s h => ?_
  obtain ⟨hp, g, d, tk, os⟩ := s
  obtain ⟨hl, h⟩ := h
  have sub1 := sub_enumerate
  have isT : Heap.IsTuple (Shared.heap ⟨hp, g, d, tk, os⟩) l items := ⟨_, hl, rfl, n, rfl⟩
  wp_walk using wpAny_loadPart' hl
  refine wpAny_stack_any fun st => wpAny_pure ?_
  split
  · rename_i c _ _ _ _ _
    cases (c == Value.type "enumerate") <;>
      (wp_walk using wpAny_loadPart' hl, wpAny_pyIter_tuple isT
       exact ⟨_, rfl, h⟩)
  · wp_walk using wpAny_loadPart' hl, wpAny_pyIter_tuple isT
    exact ⟨_, rfl, h⟩
end
/-- the tuple at a, each item in a new pair -/
def IteT (K : PySem.W.Frag) (a : Addr) : It :=
  ⟨fun i H => ∃ (xs : List V) (x : V), SqT K H a xs ∧ xs[i]? = some x, fun i H v H' => ∃ T x, v = .ref T ∧ H T = none ∧ H' = upd H T (.tup [.int (i : Nat), x]) ∧ ∀ xs, SqT K H a xs → xs[i]? = some x,
    fun i H => ∃ xs : List V, SqT K H a xs ∧ xs.length ≤ i⟩
theorem enum_ne {h : Heap} {e it a : Addr} {k : Int} {old : Value} {items : Array Value} (he : IsEnum h e it k old) (ht : h.IsTuple a items) : a ≠ e := fun z => by
  obtain ⟨o, ho, hc, _⟩ := ht
  rw [z] at ho
  have q := ho.symm.trans he
  cases q
  exact absurd (show Value.type "enumerate" = Value.type "tuple" from hc) (by decide)
theorem titer_ne {h : Heap} {it a : Addr} {i : Nat} {items : Array Value} (hi : h.IsTupleIter it a i) (ht : h.IsTuple a items) : a ≠ it := fun z => by
  obtain ⟨o, ho, hc, _⟩ := ht
  obtain ⟨u, hu, hc', _⟩ := hi
  rw [z] at ho
  have q := ho.symm.trans hu
  cases q
  rw [hc] at hc'
  exact absurd hc' (by decide)
theorem turn_enumT {P : Program} {w : World} {K : PySem.W.Frag} {elts : List Expr} {kk : Nat} {tpos : Pos} (a e it : Addr) :
    Turn P w K (.Tuple elts kk tpos) (IteT K a) [e, it] e (fun i h => (∃ old, IsEnum h e it ((i : Nat) : Int) old) ∧ h.IsTupleIter it a i ∧ e ≠ it) where
  mem := List.mem_cons_self
  obj := fun i h st b hb => by
    obtain ⟨⟨old, he⟩, ⟨o, ho, hc, hd⟩, _⟩ := st
    simp only [List.mem_cons, List.not_mem_nil, or_false] at hb
    rcases hb with rfl | rfl
    · exact ⟨_, he, (fun v q => nomatch q)⟩
    · exact ⟨o, ho, fun v q => by rw [hd] at q; cases q⟩
  keep := fun i h h' st k => by
    obtain ⟨⟨old, he⟩, ⟨o, ho, hr⟩, hne⟩ := st
    exact ⟨⟨old, k e (by simp) _ he⟩, ⟨o, k it (by simp) _ ho, hr⟩, hne⟩
  item := by
    intro X hP hw hK hc i pins s σ H E I hf st hg
    subst hP hw hK
    obtain ⟨⟨old, he⟩, hit, hne⟩ := st
    obtain ⟨xs, x, hq, hx⟩ := hg
    obtain ⟨its, rv, p, hz⟩ := I.tuple hq
    have isT : s.heap.IsTuple a its.toArray := p
    obtain ⟨u, hu, ru⟩ := rv.get hx
    have szE : e < s.heap.objs.size := Heap.lt_size he
    have szI : it < s.heap.objs.size := by
      obtain ⟨o, ho, _⟩ := hit
      exact Heap.lt_size ho
    have nea := enum_ne he isT
    have nei := titer_ne hit isT
    have hlt : i < its.toArray.size := by
      have := (List.getElem?_eq_some_iff.mp hu).1
      simpa using this
    refine wpAny_pyNext_enum_itemD (draws_tup (by show X.A.in1.handled = none; exact I.ok.hd hc) it a nei its.toArray) he ⟨hit, isT⟩ hlt hne (by simp only [List.mem_cons, List.not_mem_nil, or_false, not_or]; exact ⟨hne, fun z => nea z.symm⟩) fun y h' tk hy ho hst hT hsz hkeep => ?_
    have ey : y = u := by
      have hy' : its.toArray[i]? = some y := hy
      rw [List.getElem?_toArray, hu] at hy'
      exact (Option.some.inj hy').symm
    subst ey
    refine ⟨_, rfl, wpAny_letOwnedTupleGo_enum (s := { s with heap := h', toks := tk + 1 }) ho fun h'' he' sb => ?_⟩
    have at2 : h''.get? s.heap.objs.size = some { cls := .type "tuple", data := .seq #[.int i tk, y] } := (sb.2 _ (Nat.ne_of_gt szE)).trans hT
    have new : ObjOk X.prog X.w (upd H s.heap.objs.size (.tup [.int (i : Nat), x])) h'' s.heap.objs.size (.tup [.int (i : Nat), x]) :=
      ⟨(by show 2 ≤ sizeLine; decide), [.int i tk, y], .cons ⟨_, rfl⟩ (.cons ru .nil), ⟨_, at2, rfl, _, rfl⟩⟩
    have J : Inv X pins σ (upd H s.heap.objs.size (.tup [.int (i : Nat), x])) { s with heap := h'', toks := tk + 1 } := by
      refine I.turnedNew (ch := [e, it]) (fun b ob hb q => ?_) hf (Nat.le_refl _) new
      have b1 : b ≠ e := fun z => hb (by simp [z])
      have b2 : b ≠ it := fun z => hb (by simp [z])
      exact (sb.2 b b1).trans (hkeep b ob b1 b2 q)
    have hit2 : h''.IsTupleIter it a (i + 1) := by
      obtain ⟨⟨o, ho', hr⟩, _⟩ := hst
      exact ⟨o, (sb.2 it (Ne.symm hne)).trans ho', hr⟩
    refine ⟨.ref s.heap.objs.size, _, J, rfl, ⟨_, x, rfl, I.hok.fresh (Nat.le_refl _), rfl, fun ys hys => by rw [I.tuple_inj hys hq]; exact hx⟩, ⟨⟨y, ?_⟩, hit2, hne⟩, fun b hb => ?_⟩
    · rw [show ((i + 1 : Nat) : Int) = (i : Int) + 1 by omega]
      exact he'
    · have hb' : b < s.heap.objs.size := by
        simp only [List.mem_cons, List.not_mem_nil, or_false] at hb
        rcases hb with rfl | rfl
        · exact szE
        · exact szI
      rw [upd_ne (Nat.ne_of_lt hb')]
      exact (hf b hb).1
  done := by
    intro X hP hw hK hc i pins s σ H E I hf st hg
    subst hP hw hK
    obtain ⟨⟨old, he⟩, hit, hne⟩ := st
    obtain ⟨xs, hq, hx⟩ := hg
    obtain ⟨its, rv, p, hz⟩ := I.tuple hq
    have isT : s.heap.IsTuple a its.toArray := p
    have hno : its.toArray[i]? = none := by
      rw [List.getElem?_toArray]
      exact List.getElem?_eq_none_iff.mpr (by rw [← rv.length]; exact hx)
    have D : Draws X.prog X.w X.A.in1 it [it, a] i (fun _ _ => False) (fun j h => j = i ∧ h.IsTupleIter it a i ∧ h.IsTuple a its.toArray) :=
      { live := fun _ _ st => by
          obtain ⟨_, ⟨o, ho, _⟩, _⟩ := st
          exact ⟨o, ho⟩
        frame := fun _ h h' st hk => by
          obtain ⟨z, ⟨o, ho, hr⟩, ⟨u, hu, hr'⟩⟩ := st
          exact ⟨z, ⟨o, hk it (by simp) o ho, hr⟩, ⟨u, hk a (by simp) u hu, hr'⟩⟩
        item := fun j s Q E hj st _ => absurd st.1 (Nat.ne_of_lt hj)
        done := fun s Q E st hE => RZ.nextOf_tuple_end (show X.A.in1.handled = none from I.ok.hd hc) st.2.1 st.2.2 hno hE }
    obtain ⟨f0, f1, f2, f3, f4, f5⟩ := hf it (by simp)
    exact wpAny_pyNext_enum_endD D he ⟨rfl, hit, isT⟩ fun h' eb => ⟨rfl, I.turned (t' := s.toks) (fun b o hb q => eb b o hb q) f0 f1 f3 f4 f5⟩
  self := fun A i s Q E st h => by
    obtain ⟨⟨_, he⟩, _⟩ := st
    exact wpAny_pyIter_enum he h
/-- enumerate(a tuple) -/
theorem call_enumT {prog : Program} {w : World} {A : Around} {E : Value → Shared → Prop} {s : Shared} {l : Addr} {items : Array Value} {Q : Value → Shared → Prop} (hL : s.heap.IsTuple l items)
    (h : ∀ h', IsEnum h' (s.heap.objs.size + 1) s.heap.objs.size 0 .none → h'.IsTupleIter s.heap.objs.size l 0 → (∀ b o, s.heap.get? b = some o → h'.get? b = some o) → Q (.ref (s.heap.objs.size + 1)) { s with heap := h' }) :
    wpAny (model prog w) A (call (.type "enumerate") [.ref l]) Q E s := by
  obtain ⟨⟨c, dct, dt, sl⟩, hl, hc, n, hd⟩ := hL
  obtain rfl : c = .type "tuple" := hc
  obtain rfl : dt = .seq items n := hd
  refine callType_new F.called_enumerate (by decide) (F.typeCall_enumerate_1 _) (F.newCall_enumerate_1 _) (fun obj => F.args_object_init_2 obj _) F.entry_enumerate_new (meets_enumT l items n dct sl) ⟨hl, ?_⟩
  have z1 : (s.heap.push { cls := .type "tuple_iterator", data := .fields #[.ref l, .int 0 0] }).objs.size = s.heap.objs.size + 1 := Heap.size_push ..
  show _ ∧ _
  rw [z1]
  have e2 := Heap.get?_push_size (s.heap.push { cls := .type "tuple_iterator", data := .fields #[.ref l, .int 0 0] }) (o := { cls := .type "enumerate", data := .fields #[.none, .bool false, .ref s.heap.objs.size, rawInt 0, .none, .none] }) rfl
  rw [z1] at e2
  exact ⟨⟨_, e2, rfl⟩, h _ e2 ⟨_, Heap.get?_push_of_some _ (Heap.get?_push_size _ rfl), rfl, rfl⟩ fun b o x => Heap.get?_push_of_some _ (Heap.get?_push_of_some _ x)⟩
def iEnuA (K : PySem.W.Frag) (ta : TA) : TI := fun σ H R => ta σ H fun vs H1 => (∃ a xs, vs = [.ref a] ∧ SqL K H1 a xs ∧ R (Ite K a) H1) ∨ (∃ a xs, vs = [.ref a] ∧ SqT K H1 a xs ∧ R (IteT K a) H1)
theorem pi_enuA {X : Cx} {e : Expr} {ta : TA} {p pos tpos : Pos} {elts : List Expr} {kk : Nat} (hg : Gl X "enumerate") (hm : X.mg "enumerate" = none) (ha : PA X [e] ta) (hs : starEach [e] X.env = [(false, eval e X.env)] := by rfl) :
    PI X (.Tuple elts kk tpos) (.Call (.Name "enumerate" p) [e] [] pos) (iEnuA X.K ta) := by
  constructor
  intro pins s σ H R I h
  refine Call_ (ld_blt I hg hm boot_enumerate (PyProof.Rows.callWith_type1 (thn (ha.run pos pins s σ H _ I h) fun us s1 hv => ?_) hs rfl))
  obtain ⟨vs, H1, I1, r1, q1⟩ := hv
  have fp : ∀ b ∈ [s1.heap.objs.size + 1, s1.heap.objs.size], FpOk X pins H1 b := fun b hb => by
    have hle : s1.heap.objs.size ≤ b := by
      simp only [List.mem_cons, List.not_mem_nil, or_false] at hb
      omega
    exact I1.fpOk hle (I1.hok.fresh hle)
  rcases q1 with ⟨a, xs, rfl, hq, q⟩ | ⟨a, xs, rfl, hq, q⟩
  · obtain rfl := r1.ref1
    obtain ⟨its, rv, p', hz⟩ := I1.list hq
    refine call_enumerate_list p'.isList fun h' he hit hsz hk => wpAny_pyIter_enum he ?_
    exact ⟨s1.heap.objs.size + 1, [s1.heap.objs.size + 1, s1.heap.objs.size], _, _, H1, rfl, I1.kept (t' := s1.toks) hk, turn_enum a _ _, ⟨⟨.none, he⟩, hit, Nat.succ_ne_self _⟩, fp, q⟩
  · obtain rfl := r1.ref1
    obtain ⟨its, rv, p', hz⟩ := I1.tuple hq
    refine call_enumT (show s1.heap.IsTuple a its.toArray from p') fun h' he hit hk => wpAny_pyIter_enum he ?_
    exact ⟨s1.heap.objs.size + 1, [s1.heap.objs.size + 1, s1.heap.objs.size], _, _, H1, rfl, I1.kept (t' := s1.toks) hk, turn_enumT a _ _, ⟨⟨.none, he⟩, hit, Nat.succ_ne_self _⟩, fp, q⟩
section
variable {K : PySem.W.Frag} {F : Fz} {H : Hp} {xs : List V} {ds : List PyData} {a : Addr}
theorem enuL_get {i : Nat} {d : PyData} (h : (enuL ds)[i]? = some d) : ∃ e, ds[i]? = some e ∧ d = .tuple [.int (i : Nat), e] := by
  unfold enuL at h
  rw [List.getElem?_map, List.getElem?_zipIdx, Option.map_map, Option.map_eq_some_iff] at h
  obtain ⟨e, h1, h2⟩ := h
  refine ⟨e, h1, ?_⟩
  simpa using h2.symm
theorem enuL_none {i : Nat} (h : (enuL ds)[i]? = none) : ds.length ≤ i := by
  have := List.getElem?_eq_none_iff.mp h
  unfold enuL at this
  simpa using this
theorem walk_enuL (h : ∀ (F2 : Fz) (H2 : Hp), Keep F H F2 H2 → SqL K H2 a xs) (r : Reps K F H xs ds) : WalkOk K (Ite K a) (enuL ds) F H := fun i F2 H2 k hd => by
  have q := h F2 H2 k
  have r2 := k.reps r
  refine ⟨fun d e => ?_, fun e => ⟨xs, q, by rw [r.length]; exact enuL_none e⟩⟩
  obtain ⟨e', h1, rfl⟩ := enuL_get e
  obtain ⟨x, h2, h3⟩ := r2.get h1
  refine ⟨⟨xs, x, q, h2⟩, fun y H3 z => ?_⟩
  obtain ⟨T, x', rfl, hT, rfl, z⟩ := z
  have := z xs q
  rw [h2] at this
  cases this
  exact newTup (Q := fun v H' => ∃ F', New F2 H2 F' H' ∧ Rep K F' H' v _) hd hT (.cons (.int _) (.cons h3 .nil)) fun v F' H' n r => ⟨F', n, r⟩
theorem walk_enuT (h : ∀ (F2 : Fz) (H2 : Hp), Keep F H F2 H2 → SqT K H2 a xs) (r : Reps K F H xs ds) : WalkOk K (IteT K a) (enuL ds) F H := fun i F2 H2 k hd => by
  have q := h F2 H2 k
  have r2 := k.reps r
  refine ⟨fun d e => ?_, fun e => ⟨xs, q, by rw [r.length]; exact enuL_none e⟩⟩
  obtain ⟨e', h1, rfl⟩ := enuL_get e
  obtain ⟨x, h2, h3⟩ := r2.get h1
  refine ⟨⟨xs, x, q, h2⟩, fun y H3 z => ?_⟩
  obtain ⟨T, x', rfl, hT, rfl, z⟩ := z
  have := z xs q
  rw [h2] at this
  cases this
  exact newTup (Q := fun v H' => ∃ F', New F2 H2 F' H' ∧ Rep K F' H' v _) hd hT (.cons (.int _) (.cons h3 .nil)) fun v F' H' n r => ⟨F', n, r⟩
end
theorem si_enum {X : Cx} {e : Expr} {fs : LF} {p pos tpos : Pos} {elts : List Expr} {kk : Nat} (hm : X.mg "enumerate" = none) (ha : SA X [e] fs) (hg : Gl X "enumerate" := by rfl) (hs : starEach [e] X.env = [(false, eval e X.env)] := by rfl) :
    SI X (.Tuple elts kk tpos) (.Call (.Name "enumerate" p) [e] [] pos) (enuF fs) := PI.imp (pi_enuA hg hm ha hs) fun σ H Q ⟨B, F, env, ds, env', R, e, k⟩ => by
  unfold enuF at e
  split at e
  · rename_i d e1 h1
    split at e
    · rename_i ds' h2
      cases e
      refine ⟨B, F, env, _, env', R, h1, fun v F1 H1 E1 R1 r1 => ?_⟩
      obtain ⟨x, rfl, rx⟩ := r1.one
      unfold itD at h2
      split at h2
      · cases h2
        cases rx with
        | lst h r => exact .inl ⟨_, _, rfl, h.sq, k _ F1 H1 E1 R1 (walk_enuL (fun F2 H2 kk => (h.keep kk).sq) r)⟩
      · cases h2
        cases rx with
        | tup h r => exact .inr ⟨_, _, rfl, h.sq, k _ F1 H1 E1 R1 (walk_enuT (fun F2 H2 kk => (h.keep kk).sq) r)⟩
      · cases h2
        cases rx with
        | scr h => exact .inl ⟨_, _, rfl, h.sq, k _ F1 H1 E1 R1 (walk_enuL (fun F2 H2 kk => (h.keep kk).sq) (Reps.ints _))⟩
      · cases h2
    · cases e
  · cases e
end Sm

set_option Elab.async false
set_option linter.all false
set_option maxRecDepth 100000
set_option maxHeartbeats 4000000
namespace Sm
open PySem PySem.Spec PyProof.Rows L2
variable [Tb]

/-! ### several names at once -/
def tM (K : PySem.W.Frag) (f : MF) : TA := fun σ H Q => ∃ B F env ps env', Rel K B F env σ H ∧ f env = some (ps, env') ∧
  ∀ vs F' H', vs.length = ps.length → Ext σ env F H env' F' H' → Rel K B F' (env' ++ ps) (σ ++ vs.map some) H' → (∀ (i : Nat) (p : Bool) (ds : List PyData) (a : Addr), ps[i]? = some (.ow p ds) → vs[i]? = some (.ref a) → H a = none) → Q vs H'
abbrev SM (X : Cx) (es : List Expr) (f : MF) : Prop := PA X es (tM X.K f)
@[simp] def mNil : MF := fun env => some ([], env)
@[simp] def mVa (fe : EF) (fm : MF) : MF := fun env => match fe env with
  | some (d, e1) => match fm e1 with
    | some (ps, e2) => some (.va d :: ps, e2)
    | none => none
  | none => none
@[simp] def mOw (fl : LF) (fm : MF) : MF := fun env => match fl env with
  | some (ds, e1) => match fm e1 with
    | some (ps, e2) => some (.ow false ds :: ps, e2)
    | none => none
  | none => none
@[simp] def setNs : List Nat → List Sl → En → En
  | i :: is, p :: ps, env => setNs is ps (env.set i p)
  | _, _, env => env
@[simp] def parF (is : List Nat) (fm : MF) : SF := fun env => match fm env with
  | some (ps, e1) => if ps.length = is.length then some (.nx, setNs is ps e1) else none
  | none => none
section
variable {K : PySem.W.Frag} {B : Bas} {F : Fz} {H : Hp} {env : En} {σ : L2.St} {s : Sl} {ps : List Sl} {u : Option V} {us : L2.St}
def rotIx (n m j : Nat) : Nat := if j < n then j else if j = n then n + m else j - 1
theorem rot_get {α : Type} (l m : List α) (x : α) (j : Nat) (hj : j < l.length + 1 + m.length) : (l ++ x :: m)[j]? = (l ++ m ++ [x])[rotIx l.length m.length j]? := by
  unfold rotIx
  by_cases h1 : j < l.length
  · rw [if_pos h1, List.getElem?_append_left h1, List.append_assoc, List.getElem?_append_left h1]
  · rw [if_neg h1, List.getElem?_append_right (by omega)]
    by_cases h2 : j = l.length
    · rw [if_pos h2, List.getElem?_append_right (by simp), h2]
      simp
    · rw [if_neg h2]
      obtain ⟨k, rfl⟩ : ∃ k, j = l.length + 1 + k := ⟨j - l.length - 1, by omega⟩
      rw [show l.length + 1 + k - l.length = k + 1 by omega, List.getElem?_cons_succ, List.append_assoc, List.getElem?_append_right (by omega), show l.length + 1 + k - 1 - l.length = k by omega]
      rw [List.getElem?_append_left (by omega)]
theorem rotIx_inj {n m i j : Nat} (hi : i < n + 1 + m) (hj : j < n + 1 + m) (e : rotIx n m i = rotIx n m j) : i = j := by
  unfold rotIx at e
  split at e <;> split at e <;> (try split at e) <;> (try split at e) <;> omega
theorem Rel.rot (R : Rel K B F (env ++ ps ++ [s]) (σ ++ us ++ [u]) H) (hn : σ.length = env.length) (hm : us.length = ps.length) : Rel K B F (env ++ s :: ps) (σ ++ u :: us) H := by
  have lt : ∀ {j : Nat} {s' : Sl}, (env ++ s :: ps)[j]? = some s' → j < env.length + 1 + ps.length := fun {j s'} e => by
    have := (List.getElem?_eq_some_iff.mp e).1
    simp at this
    omega
  refine R.pick (rotIx env.length ps.length) (fun j s' e hs => ?_) (fun j k p q ds es e1 e2 e3 => rotIx_inj (lt e1) (lt e2) e3) (by simp; omega)
  have hj := lt e
  refine ⟨by rw [← rot_get env ps s j hj]; exact e, ?_⟩
  rw [rot_get σ us u j (by omega), hn, hm]
end
section
variable {X : Cx} {a b c e : Expr} {es : List Expr} {fe : EF} {fl : LF} {fm : MF} {pos : Pos} {fr : Bool}
theorem sm_nil : SM X [] mNil := PA.imp pa_nil fun σ H Q ⟨B, F, env, d, env', R, e, k⟩ => by
  cases e
  exact k [] F H rfl .refl (by simpa using R) (fun i p ds a h => by simp at h)
theorem Own.left {K : PySem.W.Frag} {B : Bas} {F : Fz} {env ps : En} {σ us : L2.St} {H : Hp} {x : Addr} (hl : σ.length = env.length) (h : Own (env ++ ps) (σ ++ us) x) : Own env σ x ∨ ∃ (i : Nat) (p : Bool) (ds : List PyData), ps[i]? = some (Sl.ow p ds) ∧ us[i]? = some (some (V.ref x)) := by
  obtain ⟨i, p, ds, h1, h2⟩ := h
  by_cases hi : i < env.length
  · rw [List.getElem?_append_left hi] at h1
    rw [List.getElem?_append_left (by omega)] at h2
    exact .inl ⟨i, p, ds, h1, h2⟩
  · rw [List.getElem?_append_right (by omega)] at h1 h2
    rw [hl] at h2
    exact .inr ⟨_, p, ds, h1, h2⟩
theorem sm_va (ha : SE X a fe) (hb : SM X es fm) (hs : starEach (a :: es) X.env = (false, eval a X.env) :: starEach es X.env := by rfl) : SM X (a :: es) (mVa fe fm) := PA.imp (pa_cons ha hb hs) fun σ H Q ⟨B, F, env, d, env', R, e, k⟩ => by
  unfold mVa at e
  split at e
  · rename_i d1 e1 h1
    split at e
    · rename_i ps e2 h2
      cases e
      refine ⟨B, F, env, d1, e1, R, h1, fun v F1 H1 E1 R1 r1 => ⟨B, F1, e1, ps, env', R1, h2, fun vs F2 H2 hl E2 R2 fresh => ?_⟩⟩
      have hlen : σ.length = env'.length := by have := R2.len; simp at this; omega
      refine k (v :: vs) F2 H2 (by simp [hl]) (E1.trans E2) ?_ fun i p ds a h5 h6 => ?_
      · exact Rel.rot (R2.push (E2.rep R1 r1)) hlen (by simp [hl])
      · cases i with
        | zero => cases h5
        | succ i => exact E1.f5 a (fresh i p ds a (by simpa using h5) (by simpa using h6))
    · cases e
  · cases e
theorem sm_ow (ha : SL X a fl) (hb : SM X es fm) (hs : starEach (a :: es) X.env = (false, eval a X.env) :: starEach es X.env := by rfl) : SM X (a :: es) (mOw fl fm) := PA.imp (pa_cons ha hb hs) fun σ H Q ⟨B, F, env, d, env', R, e, k⟩ => by
  unfold mOw at e
  split at e
  · rename_i d1 e1 h1
    split at e
    · rename_i ps e2 h2
      cases e
      refine ⟨B, F, env, d1, e1, R, h1, fun x xs F1 H1 E1 R1 hn hh nf r1 => ⟨B, F1, e1, ps, env', R1, h2, fun vs F2 H2 hl E2 R2 fresh => ?_⟩⟩
      have hlen : σ.length = env'.length := by have := R2.len; simp at this; omega
      have no1 : ¬ Own e1 σ x := fun o => R.free_own hn (E1.f4 _ o)
      have hh2 := (E2.f3 x _ hh no1).get nt_lst
      have nf2 : ¬ F2 x := fun f => by
        rcases E2.f2 x f with z | z | z
        · exact nf z
        · rw [hh] at z; cases z
        · exact no1 z
      refine k (.ref x :: vs) F2 H2 (by simp [hl]) (E1.trans E2) ?_ fun i p ds y h5 h6 => ?_
      · refine Rel.rot (R2.pushL hh2 nf2 (E2.reps R1 r1) (R.free0 hn) fun o => ?_) hlen (by simp [hl])
        rcases Own.left (K := X.K) (B := B) (F := F) (H := H) hlen o with o | ⟨i, p, ds, g1, g2⟩
        · exact no1 (E2.f4 _ o)
        · rw [List.getElem?_map, Option.map_eq_some_iff] at g2
          obtain ⟨v, g3, g4⟩ := g2
          cases g4
          have := fresh i p ds x g1 g3
          rw [hh] at this
          cases this
      · cases i with
        | zero => cases h6; exact hn
        | succ i => exact E1.f5 y (fresh i p ds y (by simpa using h5) (by simpa using h6))
    · cases e
  · cases e
theorem setNs_of {K : PySem.W.Frag} {B : Bas} {F : Fz} {H : Hp} : ∀ (is : List Nat) (ps : List Sl) (us : L2.St) (env : En) (σ : L2.St), Rel K B F (env ++ ps) (σ ++ us) H → σ.length = env.length → us.length = ps.length → is.length = ps.length →
    ∃ σ', Rel K B F (setNs is ps env) σ' H ∧ σ' = (is.zip us).foldl (fun s p => s.set p.1 p.2) σ
  | [], [], [], env, σ, R, _, _, _ => ⟨σ, by simpa [setNs] using R, rfl⟩
  | i :: is, p :: ps, u :: us, env, σ, R, h1, h2, h3 => by
    have R' := Rel.move (i := i) R h1
    obtain ⟨σ', g1, g2⟩ := setNs_of is ps us (env.set i p) (σ.set i u) R' (by simp [h1]) (by simpa using h2) (by simpa using h3)
    exact ⟨σ', g1, by rw [g2]; rfl⟩
  | [], _ :: _, _, _, _, _, _, _, h => by cases h
  | _ :: _, [], _, _, _, _, _, _, h => by cases h
  | [], [], _ :: _, _, _, _, _, h, _ => by cases h
  | _ :: _, _ :: _, [], _, _, _, _, h, _ => by cases h
theorem parF_some {is : List Nat} {env env' : En} {fl : Fl} (h : parF is fm env = some (fl, env')) : ∃ ps e1, fm env = some (ps, e1) ∧ ps.length = is.length ∧ fl = .nx ∧ env' = setNs is ps e1 := by
  unfold parF at h
  split at h
  · rename_i ps e1 h1
    split at h
    · rename_i h2
      cases h
      exact ⟨ps, e1, h1, h2, rfl, rfl⟩
    · cases h
  · cases h
theorem ss_par2 {i j : Nat} {x y : Str} {px py pt : Pos} {kt k2 pt2} (hc : X.calm = true) (hN : X.N.Nodup) (ha : SM X [a, b] fm) (hi : X.N[i]? = some x := by rfl) (hj : X.N[j]? = some y := by rfl) (hij : i ≠ j := by decide)
    (hx : X.env.scope.names.lookup x = some .local := by rfl) (hy : X.env.scope.names.lookup y = some .local := by rfl)
    (hp : PS X (.Assign [.Tuple [.Name x px, .Name y py] kt pt] (.Tuple [a, b] k2 pt2) pos) (tPar i j (tM X.K fm))) :
    SS fr X (.Assign [.Tuple [.Name x px, .Name y py] kt pt] (.Tuple [a, b] k2 pt2) pos) (parF [i, j] fm) := PS.imp hp fun D σ H ⟨B, F, env, fl, env', R, e, k⟩ => by
  obtain ⟨ps, e1, h1, h2, rfl, rfl⟩ := parF_some e
  refine ⟨B, F, env, ps, e1, R, h1, fun vs F1 H1 hl E1 R1 fresh => ?_⟩
  have hlen : σ.length = e1.length := by have := R1.len; simp at this; omega
  obtain ⟨σ', g1, g2⟩ := setNs_of [i, j] ps (vs.map some) e1 σ R1 hlen (by simp [hl]) (by simp [h2])
  match vs, hl, h2, g2 with
  | [v, w], _, _, g2 =>
    refine ⟨v, w, rfl, ?_⟩
    have q := k σ' F1 H1 (E1.keep R) g1
    rw [g2] at q
    exact q
  | [], hl, h2, _ => rw [h2] at hl; cases hl
  | [_], hl, h2, _ => rw [h2] at hl; cases hl
  | _ :: _ :: _ :: _, hl, h2, _ => rw [h2] at hl; simp at hl
theorem ss_par3 {i j l : Nat} {x y z : Str} {px py pz pt : Pos} {kt k2 pt2} (ha : SM X [a, b, c] fm)
    (hp : PS X (.Assign [.Tuple [.Name x px, .Name y py, .Name z pz] kt pt] (.Tuple [a, b, c] k2 pt2) pos) (tPar3 i j l (tM X.K fm))) :
    SS fr X (.Assign [.Tuple [.Name x px, .Name y py, .Name z pz] kt pt] (.Tuple [a, b, c] k2 pt2) pos) (parF [i, j, l] fm) := PS.imp hp fun D σ H ⟨B, F, env, fl, env', R, e, k⟩ => by
  obtain ⟨ps, e1, h1, h2, rfl, rfl⟩ := parF_some e
  refine ⟨B, F, env, ps, e1, R, h1, fun vs F1 H1 hl E1 R1 fresh => ?_⟩
  have hlen : σ.length = e1.length := by have := R1.len; simp at this; omega
  obtain ⟨σ', g1, g2⟩ := setNs_of [i, j, l] ps (vs.map some) e1 σ R1 hlen (by simp [hl]) (by simp [h2])
  match vs, hl, h2, g2 with
  | [v, w, u], _, _, g2 =>
    refine ⟨v, w, u, rfl, ?_⟩
    have q := k σ' F1 H1 (E1.keep R) g1
    rw [g2] at q
    exact q
  | [], hl, h2, _ => rw [h2] at hl; cases hl
  | [_], hl, h2, _ => rw [h2] at hl; cases hl
  | [_, _], hl, h2, _ => rw [h2] at hl; simp at hl
  | _ :: _ :: _ :: _ :: _, hl, h2, _ => rw [h2] at hl; simp at hl
/-- names, told by their slots -/
def gNs : List Nat → TGs
  | [] => gNil
  | i :: is => gCons (gName i) (gNs is)
theorem gn_nil : PGs X [] (gNs []) := pgs_nil
theorem gn_cons {i : Nat} {is : List Nat} {x : Str} (hN : X.N.Nodup) (h2 : PGs X es (gNs is)) (hi : X.N[i]? = some x := by rfl) (hx : Loc X.env.scope x := by first | exact .inl rfl | exact .inr rfl) (hf : X.fn x = true ∨ X.env.scope.names.lookup x = some .local := by first | exact .inl rfl | exact .inr rfl)
    (hs : (assignEach (.Name x pos :: es) X.env).map (·.2) = assign (.Name x pos) X.env :: (assignEach es X.env).map (·.2) := by rfl) : PGs X (.Name x pos :: es) (gNs (i :: is)) := pgs_cons (pg_name hN hi hx hf) h2 hs
theorem gNs_run : ∀ (is : List Nat) (vs : List V) (σ : L2.St) (H : Hp) (Q : L2.St → Hp → Prop), is.length = vs.length → Q ((is.zip (vs.map some)).foldl (fun s p => s.set p.1 p.2) σ) H → gNs is vs σ H Q
  | [], [], σ, H, Q, _, q => ⟨rfl, q⟩
  | i :: is, v :: vs, σ, H, Q, h, q => ⟨v, vs, rfl, gNs_run is vs _ H Q (by simpa using h) q⟩
  | [], _ :: _, _, _, _, h, _ => by cases h
  | _ :: _, [], _, _, _, h, _ => by cases h
/-- the tuple is made, then taken apart -/
theorem ss_parT {is : List Nat} {ts : List Expr} {kt : Nat} {k2 : Nat} {pt pt2 : Pos} {n : Nat} (hc : X.calm = true) (ha : SM X es fm) (hg : PGs X ts (gNs is)) (hn : (assignEach ts X.env).length = n := by rfl) (hz : n ≤ sizeLine := by decide)
    (hst : (assignEach ts X.env).findIdx? (·.1) = none := by rfl) (hs : swapsWithSole [.Tuple ts kt pt] (.Tuple es k2 pt2) pos.line X.env = pure false := by rfl) (hw : swappedStores [.Tuple ts kt pt] (.Tuple es k2 pt2) X.env = pure none := by rfl)
    (h1 : (assignEach [.Tuple ts kt pt] X.env).map (·.2) = [assign (.Tuple ts kt pt) X.env] := by rfl) (hl : is.length = n := by rfl) : SS fr X (.Assign [.Tuple ts kt pt] (.Tuple es k2 pt2) pos) (parF is fm) :=
  PS.imp (ps_asg (pe_tup ha) (pg_tup hc hg hn hst) hs hw h1) fun D σ H ⟨B, F, env, fl, env', R, e, k⟩ => by
  obtain ⟨ps, e1, h1, h2, rfl, rfl⟩ := parF_some e
  refine ⟨B, F, env, ps, e1, R, h1, fun vs F1 H1 hvl E1 R1 fresh => ⟨by omega, fun p hp => ?_⟩⟩
  have hlen : σ.length = e1.length := by have := R1.len; simp at this; omega
  have N : New F1 H1 F1 (upd H1 p (.tup vs)) := .raw R1.dom hp
  obtain ⟨σ', g1, g2⟩ := setNs_of is ps (vs.map some) e1 σ (R1.alloc N) hlen (by simp [hvl]) (by omega)
  refine ⟨p, vs, rfl, .inl (.inl upd_same), by omega, gNs_run is vs σ _ _ (by omega) ?_⟩
  rw [← g2]
  exact k σ' F1 _ ((E1.keep R).trans N.keep) g1
end

/-! ### slices -/
abbrev OF := En → Option (Option Int × En)
def tO (K : PySem.W.Frag) (f : OF) : TO := fun σ H Q => ∃ B F env o env', Rel K B F env σ H ∧ f env = some (o, env') ∧ ∀ F' H', Ext σ env F H env' F' H' → Rel K B F' env' σ H' → Q o H'
@[simp] def oNo : OF := fun env => some (none, env)
@[simp] def oSo (fe : EF) : OF := fun env => match fe env with
  | some (.int i, e1) => some (some i, e1)
  | _ => none
def cutD (xs : List PyData) (lo hi : Option Int) : List PyData := (xs.drop (HT.sIx xs.length 0 lo)).take (HT.sIx xs.length xs.length hi - HT.sIx xs.length 0 lo)
def slD (d : PyData) (lo hi : Option Int) : Option PyData := match d with
  | .list xs => some (.list (cutD xs lo hi))
  | .tuple xs => some (.tuple (cutD xs lo hi))
  | .dict [(.none, .list xs)] => some (.list (cutD xs lo hi))
  | .str z => if z.length ≤ sizeLine then some (.str (cutS z lo hi)) else none
  | _ => none
@[simp] def slF (fe : EF) (fl fh : OF) : EF := fun env => match fe env with
  | some (d, e1) => match fl e1 with
    | some (lo, e2) => match fh e2 with
      | some (hi, e3) => match slD d lo hi with
        | some r => some (r, e3)
        | none => none
      | none => none
    | none => none
  | none => none
def rSlX2 (K : PySem.W.Frag) : V → Option Int → Option Int → Hp → VK → Prop := fun x lo hi H Q => rSlL K x lo hi H Q ∨ (rSlA K x lo hi H Q ∨ rSlS x lo hi H Q)
theorem sl_any {X : Cx} : SlR X (rSlX2 X.K) := SlR.or sl_list (SlR.or sl_tupA sl_str)
theorem cut_whole {ds : List PyData} {lo hi : Option Int} (hw : HT.sIx ds.length 0 lo = 0 ∧ HT.sIx ds.length ds.length hi = ds.length) : cutD ds lo hi = ds := by
  unfold cutD
  rw [hw.1, hw.2, List.drop_zero, Nat.sub_zero, List.take_length]
theorem Reps.cut {K : PySem.W.Frag} {F : Fz} {H : Hp} {xs : List V} {ds : List PyData} (r : Reps K F H xs ds) (lo hi : Option Int) : Reps K F H (cutV xs lo hi) (cutD ds lo hi) := by
  unfold cutV cutD
  rw [r.length]
  exact (r.drop _).take _
section
variable {X : Cx} {a b c e : Expr} {fe fa fb fc : EF} {fl fh : OF} {pos p2 : Pos} {lo hi : Option Expr}
theorem so_none : PO X none (tO X.K oNo) := ⟨fun pins s σ H Q I ⟨B, F, env, o, env', R, e, k⟩ => by
  cases e
  exact (po_none (X := X)).run pins s σ H Q I (k F H .refl R)⟩
theorem so_some (h : SE X e fe) : PO X (some e) (tO X.K (oSo fe)) := ⟨fun pins s σ H Q I ⟨B, F, env, o, env', R, e, k⟩ => by
  unfold oSo at e
  split at e
  · rename_i i e1 h1
    cases e
    exact (po_some h).run pins s σ H Q I ⟨B, F, env, _, _, R, h1, fun v F1 H1 E1 R1 r1 => by
      cases r1
      exact ⟨i, rfl, k F1 H1 E1 R1⟩⟩
  · cases e⟩
theorem s_slice (he : SE X e fe) (hl : PO X lo (tO X.K fl)) (hh : PO X hi (tO X.K fh)) : SE X (.Subscript e (.Slice lo hi none p2) pos) (slF fe fl fh) := PE.imp (pe_slice sl_any he hl hh) fun σ H Q ⟨B, F, env, d, env', R, e, k⟩ => by
  unfold slF at e
  split at e
  rotate_left
  · cases e
  rename_i d0 e1 h1
  split at e
  rotate_left
  · cases e
  rename_i lo e2 h2
  split at e
  rotate_left
  · cases e
  rename_i hi e3 h3
  split at e
  rotate_left
  · cases e
  rename_i r h4
  cases e
  refine ⟨B, F, env, d0, e1, R, h1, fun v F1 H1 E1 R1 r1 => ⟨B, F1, e1, lo, e2, R1, h2, fun F2 H2 E2 R2 => ⟨B, F2, e2, hi, _, R2, h3, fun F3 H3 E3 R3 => ?_⟩⟩⟩
  have rv := E3.rep R2 (E2.rep R1 r1)
  have EE := (E1.trans E2).trans E3
  have kk : ∀ v F' H', New F3 H3 F' H' → Rep X.K F' H' v d → Q v H' := fun v F' H' N rr => k v F' H' (EE.trans (.of_new N)) (R3.alloc N) rr
  unfold slD at h4
  split at h4
  · cases h4
    cases rv with
    | lst h rr => exact .inl ⟨_, _, rfl, h.sq, fun p hp => newLst R3.dom hp (rr.cut lo hi) kk⟩
  · cases h4
    cases rv with
    | tup h rr =>
      refine .inr (.inl ⟨_, _, rfl, h.sq, fun hw => ?_, fun _ p hp => newTup R3.dom hp (rr.cut lo hi) kk⟩)
      refine kk _ F3 H3 (.refl R3.dom) (.tup h ?_)
      rw [rr.length] at hw
      rw [cut_whole hw]
      exact rr
  · cases h4
    cases rv with
    | scr h => exact .inl ⟨_, _, rfl, h.sq, fun p hp => newLst R3.dom hp ((Reps.ints _).cut lo hi) kk⟩
  · split at h4
    · rename_i hz
      cases h4; cases rv
      exact .inr (.inr ⟨_, rfl, hz, kk _ F3 H3 (.refl R3.dom) (.str _)⟩)
    · cases h4
  · cases h4

/-! ### chains of comparisons -/
@[simp] def chF (o o' : PyData → PyData → Option PyData) (fa fb fc : EF) : EF := fun env => match fa env with
  | some (x, e1) => match fb e1 with
    | some (y, e2) => match o x y with
      | some (.bool true) => match fc e2 with
        | some (z, e3) => match o' y z with
          | some r => some (r, e3)
          | none => none
        | none => none
      | some (.bool false) => some (.bool false, e2)
      | _ => none
    | none => none
  | none => none
theorem chain_of {K : PySem.W.Frag} {r r' : R2} {o o' : PyData → PyData → Option PyData} (ok : OpOk K r o) (ok' : OpOk K r' o') {σ : L2.St} {H : Hp} {Q : VK} (h : tE K (chF o o' fa fb fc) σ H Q) : tChain r r' (tE K fa) (tE K fb) (tE K fc) σ H Q := by
  obtain ⟨B, F, env, d, env', R, e, k⟩ := h
  unfold chF at e
  split at e
  rotate_left
  · cases e
  rename_i x e1 h1
  split at e
  rotate_left
  · cases e
  rename_i y e2 h2
  refine ⟨B, F, env, x, e1, R, h1, fun v F1 H1 E1 R1 r1 => ⟨B, F1, e1, y, e2, R1, h2, fun w F2 H2 E2 R2 r2 => ?_⟩⟩
  split at e
  · rename_i h3
    refine ok F2 H2 v w x y _ _ R2.dom (E2.rep R1 r1) r2 h3 fun z F3 H3 N rz => ?_
    cases rz
    refine ⟨true, rfl, iteT ?_⟩
    split at e
    rotate_left
    · cases e
    rename_i z e3 h4
    split at e
    rotate_left
    · cases e
    rename_i q h5
    cases e
    refine ⟨B, F3, e2, z, _, R2.alloc N, h4, fun u F4 H4 E4 R4 r4 => ?_⟩
    exact ok' F4 H4 w u y z _ Q R4.dom (E4.rep (R2.alloc N) (N.rep r2)) r4 h5 fun v' F5 H5 N5 r5 => k v' F5 H5 (((E1.trans E2).trans (.of_new N)).trans (E4.trans (.of_new N5))) (R4.alloc N5) r5
  · rename_i h3
    cases e
    refine ok F2 H2 v w x y _ _ R2.dom (E2.rep R1 r1) r2 h3 fun z F3 H3 N rz => ?_
    cases rz
    exact ⟨false, rfl, iteF (k _ F3 H3 ((E1.trans E2).trans (.of_new N)) (R2.alloc N) (.bool false))⟩
  · cases e
theorem s_chain {op op' : CmpOp} {r r' : R2} {o o' : PyData → PyData → Option PyData} (hr : OpR X (compareOp op) r) (hr' : OpR X (compareOp op') r') (ok : OpOk X.K r o) (ok' : OpOk X.K r' o') (ha : SE X a fa) (hb : SE X b fb) (hc : SE X c fc)
    (hm : lastMarks [op, op'] [b, c] = false := by with_unfolding_all rfl) : SE X (.Compare a [op, op'] [b, c] pos) (chF o o' fa fb fc) := PE.imp (pe_chain hr hr' ha hb hc hm) fun _ _ _ h => chain_of ok ok' h
theorem st_chain {op op' : CmpOp} {r r' : R2} {o o' : PyData → PyData → Option PyData} (hr : OpR X (compareOp op) r) (hr' : OpR X (compareOp op') r') (ok : OpOk X.K r o) (ok' : OpOk X.K r' o') (ha : SE X a fa) (hb : SE X b fb) (hc : SE X c fc)
    (hm : lastMarks [op, op'] [b, c] = false := by with_unfolding_all rfl) : ST X (.Compare a [op, op'] [b, c] pos) (tst (chF o o' fa fb fc)) := PT.imp (pt_chain hr hr' ha hb hc hm) fun σ H Q h => chain_of ok ok' (Q := fun x H' => ∃ k, x = .bl k ∧ Q k H') (by
    obtain ⟨B, F, env, d, env', R, e, k⟩ := h
    unfold tst at e
    split at e
    · rename_i b e1 h1
      cases e
      exact ⟨B, F, env, _, _, R, h1, fun v F1 H1 E1 R1 r1 => by
        cases r1
        exact ⟨_, rfl, k F1 H1 E1 R1⟩⟩
    · cases e)
end
end Sm

set_option Elab.async false
set_option linter.all false
set_option maxRecDepth 100000
set_option maxHeartbeats 4000000
namespace Sm
open PySem PySem.Spec PyProof.Rows L2
variable [Tb]

/-! ### defs in which containers are shown: nothing is being shown around them -/
/-- a def's promise where no container is being shown -/
structure FnG (P : Program) (w : World) (K : PySem.W.Frag) (mg : Str → Option Value) (base : Heap) (k : Nat) (f : Addr) (fd : FuncData) (ps : List Str) (sp : Sp) : Prop where
  len : ∀ vs H Q E, sp vs H Q E → vs.length = ps.length
  go : ∀ (A : Around) (outer : List Env) (s : Shared) (H : Hp) (args : Args) (us : List Value) (vs : List V) (Q : VK) (E : XK), Room k A → A.guards = some [] → Env0 P w K mg base A outer s H → BindsTo s fd args (ps.zip us) → Vals vs us → sp vs H Q E →
    codeAny (model P w) A (.call (.ref f) args) (CR CX0 outer P w H s Q E) s
section
variable {P : Program} {w : World} {K : PySem.W.Frag} {mg : Str → Option Value} {base : Heap}
theorem FnG.weak {k : Nat} {f : Addr} {fd : FuncData} {ps : List Str} {sp : Sp} (F : FnOk P w K mg base CX0 k f fd ps sp) : FnG P w K mg base k f fd ps sp :=
  ⟨F.len, fun A outer s H args us vs Q E hr _ e0 hb r h => F.run A outer s H args us vs Q E hr e0 hb r h⟩
theorem deeper_guards {A : Around} {env : Env} : (A.deeper env).guards = A.guards := rfl
theorem fnG {x qual : Str} {st : Stmt} {f : Addr} {fd : FuncData} {N ps : List Str} {k : Nat} {sp : Sp} (F : Fun K x qual st f fd) (S : FnScope N ps (defScope st)) (len : ∀ vs H Q E, sp vs H Q E → vs.length = ps.length)
    (body : ∀ (cdv : Value) (A : Around) (outer : List Env) (s : Shared) (H : Hp) (vs : List V) (Q : VK) (E : XK), Room k (A.deeper (envOfC qual (defScope st) s.heap.objs.size f cdv)) → A.guards = some [] → sp vs H Q E →
      ∃ t, PSs (cxOf CX0 P w K mg base N qual (defScope st) f cdv A outer s H E).nox (defBody st) t ∧ t { nx := fun _ H' => Q .non H', rt := Q } (L2.start N vs) H) : FnG P w K mg base (k + 1) f fd ps sp := by
  obtain ⟨oc, od, kV, doc, pm, an, cdv, ct, osl, rfl, lk, hcd⟩ := F.ex
  constructor
  · exact len
  intro A outer s H args us vs Q E room gd e0 hb r hs
  have eL := len _ _ _ _ hs
  have inK : K.In s.heap := e0.mod.kin.keeps fun b o q => (e0.bs b o q).1
  have noLim : s.heap.NoLimit := e0.mod.nolimit.keeps fun b o q => (e0.bs b o q).1
  refine codeAny_call_function room.depth (inK _ _ lk) rfl S.co S.gen rfl (PySem.W.codeRec_of inK hcd) (hb _ _ _ _ ?_)
  refine wpAny_newFunctionEnv_cells S.kind (fun y hy => ?_) fun env he s1 start1 => ?_
  · obtain ⟨n, v⟩ := y
    have hn := S.par n (List.of_mem_zip hy).1
    exact hn.imp id fun q => ⟨q, PySem.W.cellsFrom_some _ _ _ (.inl q)⟩
  subst he
  refine ⟨noLim.keeps start1.toInCall.keep, codeAny_func ?_⟩
  obtain ⟨t, walk, reach⟩ := body cdv A outer s H vs Q E (room.deeper _) gd hs
  have J : Inv (cxOf CX0 P w K mg base N qual (defScope st) f cdv A outer s H E) [] (L2.start N vs) H s1 := inv_start S room.hd e0 eL r start1
  refine wpAny_mono (walk.nox.run [] s1 (L2.start N vs) H _ J reach) (fun fl s' got => ?_) fun e s' z => z
  cases fl with
  | next =>
    obtain ⟨σ', H', J', q⟩ := got
    exact ⟨.non, H', J'.os, J'.bare, J'.base, J'.hok, rfl, q⟩
  | ret u =>
    obtain ⟨v, σ', H', J', rv, q⟩ := got
    exact ⟨v, H', J'.os, J'.bare, J'.base, J'.hok, rv, q⟩
  | brk =>
    obtain ⟨_, _, _, q⟩ := got
    exact q.elim
  | cont =>
    obtain ⟨_, _, _, q⟩ := got
    exact q.elim
/-- the walk of such a def -/
structure WalkedG (P : Program) (w : World) (K : PySem.W.Frag) (mg : Str → Option Value) (base : Heap) (N : List Str) (qual : Str) (st : Stmt) (f : Addr) (k : Nat) (fr : Bool) (g : SF) : Prop where
  body : ∀ (cdv : Value) (A : Around) (outer : List Env) (s : Shared) (H : Hp) (E : XK), Room k (A.deeper (envOfC qual (defScope st) s.heap.objs.size f cdv)) → A.guards = some [] →
    SSs fr (cxOf CX0 P w K mg base N qual (defScope st) f cdv A outer s H E).nox (defBody st) g
theorem fg_P {x qual : Str} {st : Stmt} {f : Addr} {fd : FuncData} {N ps : List Str} {k : Nat} {g : SF} (F : Fun K x qual st f fd) (S : FnScope N ps (defScope st)) (W : WalkedG P w K mg base N qual st f k false g) :
    FnG P w K mg base (k + 1) f fd ps (spP K ps.length (denP N.length g)) :=
  fnG F S (fun vs H Q E h => spP_len h) fun cdv A outer s H vs Q E hr hg h => ⟨_, W.body cdv A outer s H E hr hg, run_P (pre_len S) h⟩
theorem fg_M {x qual p1 : Str} {st : Stmt} {f : Addr} {fd : FuncData} {N ps : List Str} {k : Nat} {g : SF} (F : Fun K x qual st f fd) (S : FnScope N (p1 :: ps) (defScope st)) (W : WalkedG P w K mg base N qual st f k false g) :
    FnG P w K mg base (k + 1) f fd (p1 :: ps) (spM K ps.length (denM N.length g)) :=
  fnG F S (fun vs H Q E h => spM_len h) fun cdv A outer s H vs Q E hr hg h => ⟨_, W.body cdv A outer s H E hr hg, run_M (pre_len S) h⟩
end
section
variable {X : Cx} {k : Nat} {f : Addr} {fd : FuncData} {ps : List Str} {sp : Sp} {x : Str} {p pos : Pos} {e : Expr} {es : List Expr} {t : TA}
theorem pe_callG (F : FnG X.prog X.w X.K X.mg X.base k f fd ps sp) (hr : Room k X.A) (gd : X.A.guards = some []) (hm : X.mg x = some (.ref f)) (hk : PySem.W.keepIn X.K (.ref f) = true) (hb : Binds X.K fd ps []) (ha : PA X (e :: es) t)
    (hg : Gl X x := by rfl) (hdb : (x == ("__debug__" : Str)) = false := by decide) (he : starEach (e :: es) X.env = (false, eval e X.env) :: starEach es X.env := by rfl) (hpl : (backTo pos (starEach es X.env)).any (·.1) = false := by rfl) :
    PE X (.Call (.Name x p) (e :: es) [] pos) (fun σ H Q => t σ H fun vs H1 => sp vs H1 Q E0) := by
  constructor
  intro pins s σ H Q I h
  refine wpAny_Call_Name_kw (ld_glob I hg hm (PySem.W.callWith_K (h₀ := X.base) I.ok.mod.kin hk (thn (ha.run pos pins s σ H _ I h) fun us s1 hv => ?_) he hpl) hdb)
  obtain ⟨vs, H1, I1, r, q⟩ := hv
  refine ⟨I1.kIn, wpAny_call (codeAny_mono (F.go X.A X.stack s1 H1 ⟨us, []⟩ us vs Q E0 hr gd I1.env0 ?_ r q) fun res s2 hq => ?_)⟩
  · have eL : us.length = ps.length := by rw [← r.length]; exact F.len _ _ _ _ q
    have z := hb s1 us I1.kIn (by rw [List.append_nil]; exact eL)
    rw [List.append_nil] at z
    exact z
  · match res, hq with
    | .ok (.ret u), hq => exact I1.after hq
    | .ok .next, hq => exact hq.elim
    | .ok .brk, hq => exact hq.elim
    | .ok .cont, hq => exact hq.elim
    | .error z, hq => exact hq.elim
variable {n : Nat} {fs fl : LF}
theorem s_callGD {den : List PyData → List PyData → Option (PyData × List PyData)} (F : FnG X.prog X.w X.K X.mg X.base k f fd ps (spM X.K n den)) (hr : Room k X.A) (gd : X.A.guards = some []) (hm : X.mg x = some (.ref f)) (hk : PySem.W.keepIn X.K (.ref f) = true) (hb : Binds X.K fd ps [])
    (hl : SL X e fl) (ha : SA X es fs)
    (hg : Gl X x := by rfl) (hdb : (x == ("__debug__" : Str)) = false := by decide) (he : starEach (e :: es) X.env = (false, eval e X.env) :: starEach es X.env := by rfl) (hpl : (backTo pos (starEach es X.env)).any (·.1) = false := by rfl) :
    SE X (.Call (.Name x p) (e :: es) [] pos) (calD (fun ps ds => if ds.length = n then den ps ds else none) fl fs) := PE.imp (pe_callG F hr gd hm hk hb (pa_cons hl ha he) hg hdb he hpl) fun σ H Q h => by
  exact callD_of (E := E0) h
end

/-! ### repr -/
section
variable {X : Cx}
def rRepr (K : PySem.W.Frag) : List V → Hp → VK → Prop := fun xs H Q => ∃ a d, xs = [.ref a] ∧ Dp K H (.ref a) d ∧ d.hasDict = false ∧ d.showable = true ∧ d.depth ≤ 60 ∧ d.shown.length ≤ sizeLine ∧ Q (.str d.shown) H
theorem call_repr (gd : X.A.guards = some []) (hu : X.A.units + 64 < cLine) : CallR X (.builtin "repr") (rRepr X.K) := by
  intro pins s σ H xs us Q I r h
  obtain ⟨a, d, rfl, dp, hd, hs, hdep, hz, q⟩ := h
  obtain rfl := r.ref1
  obtain ⟨as, rd⟩ := Dp.reads I d (.ref a) (.ref a) dp rfl
  refine repr_of_reads' rd hs (fun e => by rw [hd] at e; cases e) gd (by omega) (fun _ _ e => e) (fun h' u tk hk => ?_) hz
  exact ⟨.str d.shown, H, I.kept hk, ⟨u, rfl⟩, q⟩
def isBox : PyData → Bool
  | .list _ => true
  | .tuple _ => true
  | _ => false
def reprOk (d : PyData) : Bool := isBox d && !d.hasDict && d.showable && decide (d.depth ≤ 60) && decide (d.shown.length ≤ sizeLine)
def reprD : List PyData → Option PyData
  | [d] => if reprOk d = true then some (.str d.shown) else none
  | _ => none
theorem ok_repr {K : PySem.W.Frag} : ClOk K (rRepr K) reprD := fun F H xs ds dz Q hd r e k => by
  unfold reprD at e
  split at e
  · rename_i d
    split at e
    · rename_i h
      cases e
      simp only [reprOk, Bool.and_eq_true, Bool.not_eq_true', decide_eq_true_eq] at h
      obtain ⟨⟨⟨⟨h0, h1⟩, h2⟩, h3⟩, h4⟩ := h
      obtain ⟨v, rfl, rv⟩ := r.one
      have dp := rv.dp h1
      cases rv with
      | tup => exact ⟨_, _, rfl, dp, h1, h2, h3, h4, k _ F H (.refl hd) (.str _)⟩
      | lst => exact ⟨_, _, rfl, dp, h1, h2, h3, h4, k _ F H (.refl hd) (.str _)⟩
      | scr => cases h0
      | non => cases h0
      | bool => cases h0
      | int => cases h0
      | str => cases h0
    · cases e
  · cases e
end

/-! ### isinstance(x, T), T a built-in type -/
def tyOf : PyData → Option String
  | .none => some "NoneType"
  | .bool _ => some "bool"
  | .int _ => some "int"
  | .str _ => some "str"
  | .list _ => some "list"
  | .tuple _ => some "tuple"
  | .dict _ => none
def isiD (T : String) (d : PyData) : Option PyData := match tyOf d with
  | some t => (kitB t T).map .bool
  | none => none
section
variable {X : Cx} {e : Expr} {fe : EF} {p p2 pos : Pos} {T : String} {x : Str}
theorem Rep.ty {K : PySem.W.Frag} {F : Fz} {H : Hp} {v : V} {d : PyData} {t : String} (r : Rep K F H v d) (h : tyOf d = some t) : TyX K H v (.type t) := by
  cases r with
  | non => cases h; exact .base .non
  | bool => cases h; exact .base (.bl _)
  | int => cases h; exact .base (.int _)
  | str => cases h; exact .base (.str _)
  | lst h' r => cases h; exact .base (.lst h'.2)
  | tup h' r =>
    cases h
    rcases h' with ⟨_, h' | ⟨o, h'⟩⟩ | ⟨o, its, n, h1, h2, _⟩
    · exact .base (.tup h')
    · exact .fTuple h'
    · exact .kTuple h1 h2
  | scr => cases h
theorem s_isi (hm : X.mg "isinstance" = none) (hmT : X.mg x = none) (hv : bootBuiltins x = some (.type T)) (he : SE X e fe) (hg : Gl X "isinstance" := by rfl) (hgT : Gl X x := by rfl) (hn : x ≠ "__name__" := by decide) (hdb : (x == ("__debug__" : Str)) = false := by decide)
    (hs : starEach [e, .Name x p2] X.env = (false, eval e X.env) :: starEach [.Name x p2] X.env := by rfl) (hs2 : starEach [.Name x p2] X.env = (false, eval (.Name x p2) X.env) :: starEach [] X.env := by rfl)
    (hpl : (backTo pos (starEach [.Name x p2] X.env)).any (·.1) = false := by rfl) :
    SE X (.Call (.Name "isinstance" p) [e, .Name x p2] [] pos) (una (isiD T) fe) :=
  PE.imp (pe_callB call_isi hg hm (by decide +kernel) (pa_cons he (pa_cons (pe_bltn (v := .ty T) hgT hmT hv rfl hn hdb) pa_nil hs2) hs) (by decide) (by decide) hs hpl) fun σ H Q ⟨B, F, env, d, env', R, e, k⟩ => by
    obtain ⟨z, h1, h2⟩ := una_some e
    unfold isiD at h2
    split at h2
    · rename_i t h3
      rw [Option.map_eq_some_iff] at h2
      obtain ⟨b, h4, rfl⟩ := h2
      exact ⟨B, F, env, z, env', R, h1, fun v F1 H1 E1 R1 r1 => ⟨v, .ty T, .type t, .type T, b, rfl, .ty T, r1.ty h3, kit_ty h4, k _ F1 H1 E1 R1 (.bool b)⟩⟩
    · cases h2
end

/-! ### f(k = v, ..) -/
section
variable {X : Cx} {k n : Nat} {f : Addr} {fd : FuncData} {ps ks : List Str} {x : Str} {p pos kpos : Pos} {e : Expr} {kws : List Keyword} {fs : LF} {fe : EF} {nm : Option Str}
theorem sk_nil : PK X [] (tA X.K aNil) := ⟨fun pos pins s σ H Q I ⟨B, F, env, d, env', R, e, k⟩ => by
  cases e
  exact (pk_nil (X := X)).run pos pins s σ H Q I (k [] F H .refl R .nil)⟩
theorem sk_cons (he : SE X e fe) (hr : PK X kws (tA X.K fs)) : PK X (⟨nm, e, kpos⟩ :: kws) (tA X.K (aCons fe fs)) := ⟨fun pos pins s σ H Q I ⟨B, F, env, d, env', R, e, k⟩ => by
  unfold aCons at e
  split at e
  · rename_i d1 e1 h1
    split at e
    · rename_i ds e2 h2
      cases e
      exact (pk_cons he hr).run pos pins s σ H Q I ⟨B, F, env, d1, e1, R, h1, fun v F1 H1 E1 R1 r1 => ⟨B, F1, e1, ds, env', R1, h2, fun vs F2 H2 E2 R2 r2 => k (v :: vs) F2 H2 (E1.trans E2) R2 (.cons (E2.rep R1 r1) r2)⟩⟩
    · cases e
  · cases e⟩
theorem pm_vals {vs : List V} {us : List Value} (r : Vals vs us) : ∀ is : List Nat, Vals (pmV is vs) (pmV is us)
  | [] => .nil
  | i :: is => by
    unfold pmV
    simp only [List.filterMap_cons]
    cases e : vs[i]? with
    | none =>
      rw [r.none_of e]
      exact pm_vals r is
    | some v =>
      obtain ⟨u, h1, h2⟩ := r.get e
      rw [h1]
      exact .cons h2 (pm_vals r is)
theorem pm_reps {K : PySem.W.Frag} {F : Fz} {H : Hp} {vs : List V} {ds : List PyData} (r : Reps K F H vs ds) : ∀ is : List Nat, Reps K F H (pmV is vs) (pmV is ds)
  | [] => .nil
  | i :: is => by
    unfold pmV
    simp only [List.filterMap_cons]
    cases e : ds[i]? with
    | none =>
      have : vs[i]? = none := by
        rw [List.getElem?_eq_none_iff] at e ⊢
        rw [r.length]; exact e
      rw [this]
      exact pm_reps r is
    | some v =>
      obtain ⟨u, h1, h2⟩ := r.get e
      rw [h1]
      exact .cons h2 (pm_reps r is)
/-- the keywords bind: is tells where each parameter's value stands -/
def KwOk (fd : FuncData) (ps ks : List Str) (is : List Nat) : Prop := ∀ ws : List Value, ws.length = ps.length → bindArgs fd ⟨[], ks.zip ws⟩ = pure (ps.zip (pmV is ws))
theorem s_callK {den : List PyData → Option PyData} {is : List Nat} (F : FnOk X.prog X.w X.K X.mg X.base CX0 k f fd ps (spP X.K n den)) (hr : Room k X.A) (hm : X.mg x = some (.ref f)) (hk : PySem.W.keepIn X.K (.ref f) = true) (hb : KwOk fd ps ks is) (ha : PK X kws (tA X.K fs)) (hn : ps.length = n := by rfl)
    (hall : (backToKw pos (keywordEach kws X.env)).all (·.1.isSome) = true := by rfl) (hks : (backToKw pos (keywordEach kws X.env)).filterMap (·.1) = ks := by rfl) (hg : Gl X x := by rfl) (hdb : (x == ("__debug__" : Str)) = false := by decide)
    (hpl : ((backTo pos (starEach [] X.env)).any (·.1) || (backToKw pos (keywordEach kws X.env)).any (·.1.isNone)) = false := by rfl) :
    SE X (.Call (.Name x p) [] kws pos) (cal (fun ds => if ds.length = n ∧ (pmV is ds).length = n then den (pmV is ds) else none) fs) := by
  constructor
  intro pins s σ H Q I ⟨B, F0, env, d, env', R, e, kk⟩
  obtain ⟨ds, h1, h2⟩ := cal_some e
  split at h2
  · rename_i hl
    refine wpAny_Call_Name_kw (ld_glob I hg hm (PySem.W.callWith_KW0 (h₀ := X.base) I.ok.mod.kin hk hall (thn (ha.run pos pins s σ H (fun vs H1 => ∃ F1, Ext σ env F0 H env' F1 H1 ∧ Rel X.K B F1 env' σ H1 ∧ Reps X.K F1 H1 vs ds) I ⟨B, F0, env, ds, env', R, h1, fun vs F1 H1 E1 R1 r1 => ⟨F1, E1, R1, r1⟩⟩) fun ws s1 hv => ?_) hpl) hdb)
    obtain ⟨vs, H1, I1, rv, F1, E1, R1, r1⟩ := hv
    have lw : ws.length = ps.length := by rw [← rv.length, r1.length, hl.1, hn]
    refine ⟨I1.kIn, ?_⟩
    rw [hks]
    refine wpAny_call (codeAny_mono (F.run X.A X.stack s1 H1 ⟨[], ks.zip ws⟩ (pmV is ws) (pmV is vs) Q E0 hr I1.env0 (.of_eq (hb ws lw)) (pm_vals rv is) ⟨F1, pmV is ds, d, hl.2, R1.dom, pm_reps r1 is, h2, fun v F2 H2 N r => kk v F2 H2 (E1.trans (.of_new N)) (R1.alloc N) r⟩) fun res s2 hq => ?_)
    match res, hq with
    | .ok (.ret u), hq => exact I1.after hq
    | .ok .next, hq => exact hq.elim
    | .ok .brk, hq => exact hq.elim
    | .ok .cont, hq => exact hq.elim
    | .error z, hq => exact hq.elim
  · cases h2
end

/-! ### the law's own call -/
theorem law_runs {P : Program} {w : World} {K : PySem.W.Frag} {mg mb : Str → Option Value} {k : Nat} {fa a : Addr} {fd : FuncData} {x : Str} {den : List PyData → Option PyData} {s₁ : Shared} {vs : List Value} {ns : List Int} {cs : List (Addr × Addr)}
    (inK : K.In s₁.heap) (gl : s₁.heap.Ns mainGlobals mg) (bl : s₁.heap.Ns builtinsNs mb) (bl2 : ∀ x : Str, x ≠ "__name__" → mb x = bootBuiltins x) (nl : s₁.heap.NoLimit) (gens : s₁.gens = #[])
    (hTb : ∀ t ∈ Tb.T, ∃ c, (c, t.1) ∈ cs) (hT : ∀ p ∈ cs, s₁.heap.get? p.2 = some { cls := .none, data := .fields #[] }) (nT : ∀ p ∈ cs, K.lookup p.2 = none) (C : ∀ p ∈ cs, PySem.W.CodeHd s₁.heap p.1 p.2)
    (hbm : ∃ (bm : Addr) (ob : Obj), mg "__builtins__" = some (.ref bm) ∧ bm ≠ builtinsNs ∧ s₁.heap.get? bm = some ob ∧ ob.cls = .type "module" ∧ ob.dict = some builtinsNs ∧ ob.data = .plain)
    (at_a : s₁.heap.get? a = some { cls := .type "list", data := .seq vs.toArray }) (ints_ : IntsAre vs ns) (len : ns.length ≤ sizeLine) (room : Room k callerA)
    (F : ∀ base : Heap, K.In base → base.Ns mainGlobals mg → (∀ p ∈ cs, LamX.TabB base mg p.1 p.2) → FnG P w K mg base k fa fd [x] (spP K 1 den)) (hbind : ∀ (s : Shared) (u : Value), BindsTo s fd ⟨[u], []⟩ [(x, u)]) (yes : den [scrD ns] = some (.bool true)) :
    codeAny (model P w) callerA (.call (.ref fa) ⟨[.ref a], []⟩) (fun r s' => r = .ok (.ret (.bool true)) ∧ OldK s₁.heap s'.heap ∧ s'.os = s₁.os ∧ AllBare s'.gens) s₁ := by
  have vals := vals_ints ints_
  have eL := ints_.length
  obtain ⟨H, hH⟩ : ∃ H : Hp, H = fun b => if b = a ∧ (K.lookup a).isNone = true then some (.frz { cls := .type "list", data := .seq vs.toArray } (.lst (ns.map V.int))) else if b ∈ cs.map (·.2) then some (.tbl #[]) else none := ⟨_, rfl⟩
  have isT : ∀ b : Addr, b ∈ cs.map (·.2) → s₁.heap.get? b = some { cls := .none, data := .fields #[] } := fun b hb => by
    obtain ⟨p, hp, e⟩ := List.mem_map.mp hb
    rw [← e]
    exact hT p hp
  have aT : a ∉ cs.map (·.2) := fun z => by
    have q := isT a z
    rw [at_a] at q
    have z' : Data.seq vs.toArray _ = Data.fields #[] := congrArg Obj.data (Option.some.inj q)
    cases z'
  have memT : ∀ p ∈ cs, p.2 ∈ cs.map (·.2) := fun p hp => List.mem_map.mpr ⟨p, hp, rfl⟩
  have some_ : ∀ {b u}, H b = some u → (b = a ∧ K.lookup a = none ∧ u = .frz { cls := .type "list", data := .seq vs.toArray } (.lst (ns.map V.int))) ∨ (b ∈ cs.map (·.2) ∧ u = .tbl #[]) := fun {b u} e => by
    rw [hH] at e
    simp only at e
    split at e
    · rename_i h
      cases e
      exact .inl ⟨h.1, by simpa using h.2, rfl⟩
    · split at e
      · rename_i h
        cases e
        exact .inr ⟨h, rfl⟩
      · cases e
  have atT : ∀ p ∈ cs, H p.2 = some (.tbl #[]) := fun p hp => by
    rw [hH]
    have h1 : ¬ (p.2 = a ∧ (K.lookup a).isNone = true) := fun z => aT (by rw [← z.1]; exact memT p hp)
    simp only [if_neg h1, if_pos (memT p hp)]
  have hok : HOk P w H s₁.heap := fun b u e => by
    rcases some_ e with ⟨rfl, _, rfl⟩ | ⟨hb, rfl⟩
    · exact ⟨at_a, (by rw [List.length_map]; exact len), vs, _, vals, at_a⟩
    · exact isT b hb
  have noD : ∀ {b : Addr} {o : Obj}, s₁.heap.get? b = some o → (∀ vs n, o.data ≠ .seq vs n) → o.data ≠ .fields #[] → H b = none := fun {b o} e h1 h2 => by
    cases q : H b with
    | none => rfl
    | some u =>
      rcases some_ q with ⟨rfl, _⟩ | ⟨hb, _⟩
      · rw [at_a] at e
        cases e
        exact (h1 _ _ rfl).elim
      · rw [isT b hb] at e
        cases e
        exact (h2 rfl).elim
  have notDict : ∀ {b o es ep}, s₁.heap.get? b = some o → o.data = .dict es ep → H b = none := fun {b o es ep} e d => by
    refine noD e (fun vs n z => ?_) fun z => ?_
    · rw [d] at z
      cases z
    · rw [d] at z
      cases z
  have low : ∀ {b o}, s₁.heap.get? b = some o → H b = none → (hidT s₁.heap H).get? b = some o := fun e n => hidT_get e n
  have ns_low : ∀ {b : Addr} {m : Str → Option Value}, s₁.heap.Ns b m → (hidT s₁.heap H).Ns b m := fun {b m} h => by
    obtain ⟨o, es, ep, e, d, r⟩ := h
    exact ⟨o, es, ep, low e (notDict e d), d, r⟩
  have kin : K.In (hidT s₁.heap H) := fun b o e => low (inK b o e) (by
    cases q : H b with
    | none => rfl
    | some u =>
      rcases some_ q with ⟨rfl, z, _⟩ | ⟨hb, _⟩
      · rw [z] at e
        cases e
      · obtain ⟨p, hp, ep⟩ := List.mem_map.mp hb
        rw [← ep, nT p hp] at e
        cases e)
  have mod : Mod K mg (hidT s₁.heap H) := ⟨kin, ns_low gl, ⟨mb, ns_low bl, bl2⟩, by
    obtain ⟨mc, h1, h2⟩ := nl
    exact ⟨mc, ns_low h1, h2⟩⟩
  have TB : ∀ p ∈ cs, LamX.TabB (hidT s₁.heap H) mg p.1 p.2 := fun p hp => by
    have hTp := hT p hp
    refine ⟨?_, ?_, fun z => ?_⟩
    · obtain ⟨o, us, file, tf, flags, tg, inF, text, tt, e1, r1, r2, r3, r4, r5, r6, r7, r8, hne⟩ := C p hp
      refine ⟨o, us, file, tf, flags, tg, inF, text, tt, low e1 (noD e1 (fun vs n z => ?_) fun z => ?_), r1, r2, r3, r4, r5, r6, r7, r8, hne⟩
      · rw [r2] at z
        cases z
      · rw [r2] at z
        cases z
        simp at r3
    · obtain ⟨bm, ob, b1, b2, b3, b4, b5, b6⟩ := hbm
      have nG : bm ≠ mainGlobals := fun q => by
        obtain ⟨o, es, ep, e, hd, _⟩ := gl
        rw [q, e] at b3
        cases b3
        rw [hd] at b6
        cases b6
      have nP : bm ≠ p.2 := fun q => by
        rw [q, hTp] at b3
        cases b3
        cases b6
      refine ⟨bm, ob, b1, b2, nG, nP, low b3 (noD b3 (fun vs n z => ?_) fun z => ?_), b4, b5, b6⟩
      · rw [b6] at z
        cases z
      · rw [b6] at z
        cases z
    · obtain ⟨o, es, ep, e, hd, _⟩ := gl
      rw [z, hTp] at e
      cases e
      cases hd
  have e0 : Env0 P w K mg (hidT s₁.heap H) callerA [] s₁ H := ⟨rfl, mod, fun b o e => of_hidT e, Nat.le_of_eq (hidT_size _ _), trivial, (fun b hb => by cases hb), hok, .of_eq gens⟩
  have want : spP K 1 den [.ref a] H (fun v _ => v = .bl true) E0 := by
    refine ⟨fun b => ∃ u, H b = some u ∧ NT u, [scrD ns], .bool true, rfl, ⟨fun b h => h, fun t ht => ?_⟩, .cons (.scr ?_) .nil, yes, fun v F' H' _ r => by cases r; rfl⟩
    · obtain ⟨c, hc⟩ := hTb t ht
      exact .nil (atT _ hc)
    · cases q : K.lookup a with
      | none =>
        have e : H a = some (.frz { cls := .type "list", data := .seq vs.toArray } (.lst (ns.map V.int))) := by
          rw [hH]
          simp [q]
        exact .inl ⟨⟨_, e, nt_frz⟩, .inr ⟨_, e⟩⟩
      | some o =>
        have e := inK a o q
        rw [at_a] at e
        cases e
        exact .inr ⟨_, vs.toArray, _, q, rfl, rfl, rfl, (by rw [List.size_toArray, eL]; exact len), by simpa using vals⟩
  refine codeAny_mono ((F _ kin (ns_low gl) TB).go callerA [] s₁ H ⟨[.ref a], []⟩ [.ref a] [.ref a] _ _ room rfl e0 (hbind s₁ (.ref a)) (.cons rfl .nil) want) fun res s' got => ?_
  match res, got with
  | .ok (.ret u), got =>
    obtain ⟨v, H', os, bare, un, hok', r', q⟩ := got
    obtain rfl : v = V.bl true := q
    obtain rfl : u = Value.bool true := r'
    have key : ∀ b o, b ∉ cs.map (·.2) → s₁.heap.get? b = some o → s'.heap.get? b = some o := fun b o nb e => by
      cases q : H b with
      | none => exact un.keep b o e q (fun z => by cases z) (fun z => by cases z)
      | some u =>
        rcases some_ q with ⟨rfl, _, rfl⟩ | ⟨hb, _⟩
        · obtain ⟨e2, _⟩ := hok' b _ (un.frzs b _ _ q)
          rw [at_a] at e
          cases e
          exact e2
        · exact absurd hb nb
    have grown : ∀ p ∈ cs, ∃ more : Array Value, s'.heap.get? p.2 = some { cls := .none, data := .fields more } := fun p hp => by
      obtain ⟨more, z⟩ := un.tbls p.2 #[] (atT p hp)
      exact ⟨_, hok' p.2 _ z⟩
    refine ⟨rfl, ⟨fun b o e => ?_, fun b o e => ?_⟩, os, bare⟩
    · by_cases hb : b ∈ cs.map (·.2)
      · obtain ⟨p, hp, ep⟩ := List.mem_map.mp hb
        obtain ⟨more, hm⟩ := grown p hp
        rw [← ep] at e ⊢
        rw [hT p hp] at e
        cases e
        exact .inr (.inl ⟨((C p hp).tab (hT p hp)).isCodeTable, rfl, #[], more, rfl, by rw [Array.empty_append]; exact hm⟩)
      · exact .inl (key b o hb e)
    · by_cases hb : b ∈ cs.map (·.2)
      · obtain ⟨p, hp, ep⟩ := List.mem_map.mp hb
        obtain ⟨more, hm⟩ := grown p hp
        rw [← ep]
        exact ⟨_, hm⟩
      · exact ⟨o, key b o hb e⟩
  | .ok .next, got => exact got.elim
  | .ok .brk, got => exact got.elim
  | .ok .cont, got => exact got.elim
  | .error z, got => exact got.elim
/-- the name of a def's lambdas -/
def lamQ (q : Str) : Str := q ++ ".<locals>." ++ "<lambda>"
omit [Tb] in
theorem tabIn_of {K : PySem.W.Frag} {x : Str} {f c P : Addr} {oc oc' : Value} {od od' : Option Addr} {fd : FuncData} {sl sl' : Array (Option Value)} {vs : Array Value} (a : PySem.W.nsIn K mainGlobals x = some (some (.ref f))) (l : K.lookup f = some ⟨oc, od, .func fd, sl⟩) (e : fd.code = .ref c)
    (m : K.lookup c = some ⟨oc', od', .fields vs, sl'⟩) (v : vs[11]? = some (.ref P)) : PySem.W.tabIn K x = some (c, P) := by
  simp [PySem.W.tabIn, a, l, e, m, v]
/-- the tables of the defs with lambdas: their names, code objects, tables -/
abbrev tbOf (cs : List (Str × Addr × Addr)) : Tb := ⟨cs.map fun p => (p.2.2, lamQ p.1)⟩
omit [Tb] in
/-- the goal that the head leaves; names: the defs with lambdas -/
theorem walk_lawT {l : PySem.W.OpenLaw} {n k : Nat} {q : Program} {loose : List Str} {XP : (Str → Option Value) → Heap → Prop} {YP : World → Heap → Prop} {d : DefRec} {K : Params → PySem.W.Frag} {x : Str} {den : PySem.W.Frag → List PyData → Option PyData}
    (names : List Str) (hn : l.most = some n) (hn2 : n ≤ sizeLine) (hdf : d.params.defaults = []) (room : Room k callerA)
    (hY : ∀ (w : World) (h : Heap), YP w h → (K w.params).In h)
    (hrec : ∀ y ∈ names, ∃ r, (recsOf q).find? (fun e => e.name == y) = some r)
    (F : ∀ (w : World) (mg : Str → Option Value) (fa : Addr) (h : Heap), (K w.params).In h → h.Ns mainGlobals mg → mg d.name = some (.ref fa) →
      ∃ (fd : FuncData) (cs : List (Str × Addr × Addr)), (∀ p ∈ cs, p.1 ∈ names ∧ PySem.W.tabIn (K w.params) p.1 = some p.2 ∧ (K w.params).lookup p.2.2 = none) ∧ (∀ (s : Shared) (u : Value), BindsTo s fd ⟨[u], []⟩ [(x, u)]) ∧
        ∀ base : Heap, (K w.params).In base → base.Ns mainGlobals mg → (∀ p ∈ cs, LamX.TabB base mg p.2.1 p.2.2) → FnG l.prog w (K w.params) mg base k fa fd [x] (@spP (tbOf cs) (K w.params) 1 (den (K w.params))))
    (yes : ∀ (K : PySem.W.Frag) (ns : List Int), ns.length ≤ n → den K [scrD ns] = some (.bool true)) :
    PySem.W.WalkO q loose XP YP l.row.toRowW d [] (fun f vs => PySem.call f vs) := by
  refine Att.attach_call hn hdf fun w s₀ s₁ mg mb fa o pm cd doc a vs ns G Y ho hd hcd hmg hobj hints hlen hg => ?_
  have KX := hY w _ Y
  obtain ⟨fd, cs, hcs, hb, hF⟩ := F w mg fa _ KX G.T.g hmg
  have tabs : ∀ p ∈ cs.map (·.2), (PySem.W.CodeHd s₁.heap p.1 p.2 ∧ s₁.heap.get? p.2 = some (PySem.W.tabObj #[])) ∧ (K w.params).lookup p.2 = none := fun p hp => by
    obtain ⟨c, hc, e⟩ := List.mem_map.mp hp
    obtain ⟨h1, h2, h3⟩ := hcs c hc
    obtain ⟨r, hr⟩ := hrec _ h1
    rw [← e]
    exact ⟨PySem.W.tab_of G.T KX hr h2, h3⟩
  exact @law_runs (tbOf cs) _ _ _ _ _ _ _ _ _ _ _ _ _ _ (cs.map (·.2)) KX G.T.g G.T.b G.T.builtins G.T.nolimit hg (fun t ht => by
      obtain ⟨c, hc, e⟩ := List.mem_map.mp ht
      rw [← e]
      exact ⟨c.2.1, List.mem_map.mpr ⟨c, hc, rfl⟩⟩) (fun p hp => (tabs p hp).1.2) (fun p hp => (tabs p hp).2) (fun p hp => (tabs p hp).1.1) G.T.bmain hobj hints (Nat.le_trans hlen hn2) room
    (fun base i j hT => hF base i j fun p hp => hT p.2 (List.mem_map.mpr ⟨p, hp, rfl⟩)) hb (yes _ ns hlen)
omit [Tb] in
/-- .. where no def makes a lambda -/
theorem walk_law {l : PySem.W.OpenLaw} {n k : Nat} {q : Program} {loose : List Str} {XP : (Str → Option Value) → Heap → Prop} {YP : World → Heap → Prop} {d : DefRec} {K : Params → PySem.W.Frag} {x : Str} {den : PySem.W.Frag → List PyData → Option PyData}
    (hn : l.most = some n) (hn2 : n ≤ sizeLine) (hdf : d.params.defaults = []) (room : Room k callerA)
    (hY : ∀ (w : World) (h : Heap), YP w h → (K w.params).In h)
    (F : ∀ (w : World) (mg : Str → Option Value) (fa : Addr) (h : Heap), (K w.params).In h → h.Ns mainGlobals mg → mg d.name = some (.ref fa) →
      ∃ fd : FuncData, (∀ (s : Shared) (u : Value), BindsTo s fd ⟨[u], []⟩ [(x, u)]) ∧ ∀ base : Heap, (K w.params).In base → base.Ns mainGlobals mg → FnG l.prog w (K w.params) mg base k fa fd [x] (@spP tb0 (K w.params) 1 (den (K w.params))))
    (yes : ∀ (K : PySem.W.Frag) (ns : List Int), ns.length ≤ n → den K [scrD ns] = some (.bool true)) :
    PySem.W.WalkO q loose XP YP l.row.toRowW d [] (fun f vs => PySem.call f vs) :=
  walk_lawT [] hn hn2 hdf room hY (fun y hy => (nomatch hy)) (fun w mg fa h a b c => let ⟨fd, h1, h2⟩ := F w mg fa h a b c; ⟨fd, [], fun p hp => (nomatch hp), h1, fun base i j _ => h2 base i j⟩) yes
end Sm

set_option Elab.async false
set_option linter.all false
set_option maxRecDepth 100000
set_option maxHeartbeats 4000000
namespace Sm
open PySem PySem.Spec PyProof.Rows L2
variable [Tb]

/-! ### defs by their names -/
section
variable (P : Program) (w : World) (K : PySem.W.Frag) (mg : Str → Option Value) (base : Heap)
structure Has (k : Nat) (x : Str) (ps : List Str) (sp : Sp) : Prop where
  ex : ∃ f fd, FnOk P w K mg base CX0 k f fd ps sp ∧ mg x = some (.ref f) ∧ PySem.W.keepIn K (.ref f) = true ∧ Binds K fd ps []
structure HasG (k : Nat) (x : Str) (ps : List Str) (sp : Sp) : Prop where
  ex : ∃ f fd, FnG P w K mg base k f fd ps sp ∧ mg x = some (.ref f) ∧ PySem.W.keepIn K (.ref f) = true ∧ Binds K fd ps []
/-- .. by keywords -/
structure HasK (k : Nat) (x : Str) (ps ks : List Str) (is : List Nat) (sp : Sp) : Prop where
  ex : ∃ f fd, FnOk P w K mg base CX0 k f fd ps sp ∧ mg x = some (.ref f) ∧ PySem.W.keepIn K (.ref f) = true ∧ KwOk fd ps ks is
end
section
variable {P : Program} {w : World} {K : PySem.W.Frag} {mg : Str → Option Value} {base : Heap}
theorem Has.of {k : Nat} {x qual : Str} {st : Stmt} {f : Addr} {fd : FuncData} {ps : List Str} {sp : Sp} (F : Fun K x qual st f fd) (W : FnOk P w K mg base CX0 k f fd ps sp) (hm : mg x = some (.ref f)) (hb : Binds K fd ps []) : Has P w K mg base k x ps sp :=
  ⟨f, fd, W, hm, F.kp, hb⟩
theorem HasG.of {k : Nat} {x qual : Str} {st : Stmt} {f : Addr} {fd : FuncData} {ps : List Str} {sp : Sp} (F : Fun K x qual st f fd) (W : FnG P w K mg base k f fd ps sp) (hm : mg x = some (.ref f)) (hb : Binds K fd ps []) : HasG P w K mg base k x ps sp :=
  ⟨f, fd, W, hm, F.kp, hb⟩
theorem HasK.of {k : Nat} {x qual : Str} {st : Stmt} {f : Addr} {fd : FuncData} {ps ks : List Str} {is : List Nat} {sp : Sp} (F : Fun K x qual st f fd) (W : FnOk P w K mg base CX0 k f fd ps sp) (hm : mg x = some (.ref f))
    (h : ∀ (kV doc pm : Value) (an : Option Addr) (cdv ct : Value) (ws : List Value), ws.length = ps.length → bindArgs (PySem.W.fnOf x qual (defArgs st) (defBody st) (defScope st) .none kV doc pm an cdv ct) ⟨[], ks.zip ws⟩ = pure (ps.zip (pmV is ws))) : HasK P w K mg base k x ps ks is sp := by
  refine ⟨f, fd, W, hm, F.kp, ?_⟩
  obtain ⟨oc, od, kV, doc, pm, an, cdv, ct, osl, rfl, lk, hcd⟩ := F.ex
  exact fun ws hl => h kV doc pm an cdv ct ws hl
end
section
variable {X : Cx} {k n i : Nat} {x y : Str} {ps ks : List Str} {is : List Nat} {e : Expr} {es : List Expr} {kws : List Keyword} {fs fl : LF} {p py pos : Pos}
theorem h_call {den : List PyData → Option PyData} (h : Has X.prog X.w X.K X.mg X.base k x ps (spP X.K n den)) (hr : Room k X.A) (ha : SA X (e :: es) fs) (hn : (e :: es).length = n := by rfl)
    (hg : Gl X x := by rfl) (hdb : (x == ("__debug__" : Str)) = false := by decide) (he : starEach (e :: es) X.env = (false, eval e X.env) :: starEach es X.env := by rfl) (hpl : (backTo pos (starEach es X.env)).any (·.1) = false := by rfl) :
    SE X (.Call (.Name x p) (e :: es) [] pos) (cal (fun ds => if ds.length = n then den ds else none) fs) := by
  obtain ⟨f, fd, F, hm, hk, hb⟩ := h.ex
  exact s_call F hr hm hk hb ha hn hg hdb he hpl
theorem h_callL {den : List PyData → Option (List PyData)} (h : Has X.prog X.w X.K X.mg X.base k x ps (spL X.K n den)) (hr : Room k X.A) (ha : SA X (e :: es) fs) (hn : (e :: es).length = n := by rfl)
    (hg : Gl X x := by rfl) (hdb : (x == ("__debug__" : Str)) = false := by decide) (he : starEach (e :: es) X.env = (false, eval e X.env) :: starEach es X.env := by rfl) (hpl : (backTo pos (starEach es X.env)).any (·.1) = false := by rfl) :
    SL X (.Call (.Name x p) (e :: es) [] pos) (calL (fun ds => if ds.length = n then den ds else none) fs) := by
  obtain ⟨f, fd, F, hm, hk, hb⟩ := h.ex
  exact s_callL F hr hm hk hb ha hn hg hdb he hpl
theorem h_callM {den : List PyData → List PyData → Option (PyData × List PyData)} (h : Has X.prog X.w X.K X.mg X.base k x ps (spM X.K n den)) (hr : Room k X.A) (ha : SA X es fs)
    (hN : X.N[i]? = some y := by rfl) (hv : Vis X.env.scope y := by first | exact Or.inl rfl | exact Or.inr (Or.inl rfl) | exact Or.inr (Or.inr rfl)) (hd : (y == ("__debug__" : Str)) = false := by decide) (hcd : (y == ("__classdict__" : Str)) = false := by decide)
    (hg : Gl X x := by rfl) (hdb : (x == ("__debug__" : Str)) = false := by decide) (he : starEach (.Name y py :: es) X.env = (false, eval (.Name y py) X.env) :: starEach es X.env := by rfl) (hpl : (backTo pos (starEach es X.env)).any (·.1) = false := by rfl) :
    SE X (.Call (.Name x p) (.Name y py :: es) [] pos) (calM i (fun ps ds => if ds.length = n then den ps ds else none) fs) := by
  obtain ⟨f, fd, F, hm, hk, hb⟩ := h.ex
  exact s_callM F hr hm hk hb hN hv ha hd hcd hg hdb he hpl
theorem h_callML {den : List PyData → List PyData → Option (List PyData × List PyData)} (h : Has X.prog X.w X.K X.mg X.base k x ps (spML X.K n den)) (hr : Room k X.A) (ha : SA X es fs)
    (hN : X.N[i]? = some y := by rfl) (hv : Vis X.env.scope y := by first | exact Or.inl rfl | exact Or.inr (Or.inl rfl) | exact Or.inr (Or.inr rfl)) (hd : (y == ("__debug__" : Str)) = false := by decide) (hcd : (y == ("__classdict__" : Str)) = false := by decide)
    (hg : Gl X x := by rfl) (hdb : (x == ("__debug__" : Str)) = false := by decide) (he : starEach (.Name y py :: es) X.env = (false, eval (.Name y py) X.env) :: starEach es X.env := by rfl) (hpl : (backTo pos (starEach es X.env)).any (·.1) = false := by rfl) :
    SL X (.Call (.Name x p) (.Name y py :: es) [] pos) (calML i (fun ps ds => if ds.length = n then den ps ds else none) fs) := by
  obtain ⟨f, fd, F, hm, hk, hb⟩ := h.ex
  exact s_callML F hr hm hk hb hN hv ha hd hcd hg hdb he hpl
theorem h_callD {den : List PyData → List PyData → Option (PyData × List PyData)} (h : Has X.prog X.w X.K X.mg X.base k x ps (spM X.K n den)) (hr : Room k X.A) (hl : SL X e fl) (ha : SA X es fs)
    (hg : Gl X x := by rfl) (hdb : (x == ("__debug__" : Str)) = false := by decide) (he : starEach (e :: es) X.env = (false, eval e X.env) :: starEach es X.env := by rfl) (hpl : (backTo pos (starEach es X.env)).any (·.1) = false := by rfl) :
    SE X (.Call (.Name x p) (e :: es) [] pos) (calD (fun ps ds => if ds.length = n then den ps ds else none) fl fs) := by
  obtain ⟨f, fd, F, hm, hk, hb⟩ := h.ex
  exact s_callD F hr hm hk hb hl ha hg hdb he hpl
theorem h_callGD {den : List PyData → List PyData → Option (PyData × List PyData)} (h : HasG X.prog X.w X.K X.mg X.base k x ps (spM X.K n den)) (hr : Room k X.A) (gd : X.A.guards = some []) (hl : SL X e fl) (ha : SA X es fs)
    (hg : Gl X x := by rfl) (hdb : (x == ("__debug__" : Str)) = false := by decide) (he : starEach (e :: es) X.env = (false, eval e X.env) :: starEach es X.env := by rfl) (hpl : (backTo pos (starEach es X.env)).any (·.1) = false := by rfl) :
    SE X (.Call (.Name x p) (e :: es) [] pos) (calD (fun ps ds => if ds.length = n then den ps ds else none) fl fs) := by
  obtain ⟨f, fd, F, hm, hk, hb⟩ := h.ex
  exact s_callGD F hr gd hm hk hb hl ha hg hdb he hpl
theorem h_callG {den : List PyData → Option PyData} (h : HasG X.prog X.w X.K X.mg X.base k x ps (spP X.K n den)) (hr : Room k X.A) (gd : X.A.guards = some []) (ha : SA X (e :: es) fs)
    (hg : Gl X x := by rfl) (hdb : (x == ("__debug__" : Str)) = false := by decide) (he : starEach (e :: es) X.env = (false, eval e X.env) :: starEach es X.env := by rfl) (hpl : (backTo pos (starEach es X.env)).any (·.1) = false := by rfl) :
    SE X (.Call (.Name x p) (e :: es) [] pos) (cal (fun ds => if ds.length = n then den ds else none) fs) := by
  obtain ⟨f, fd, F, hm, hk, hb⟩ := h.ex
  refine PE.imp (pe_callG F hr gd hm hk hb ha hg hdb he hpl) fun σ H Q ⟨B, F, env, d, env', R, e, k⟩ => ?_
  obtain ⟨ds, h1, h2⟩ := cal_some e
  split at h2
  · rename_i hl
    exact ⟨B, F, env, ds, env', R, h1, fun vs F1 H1 E1 R1 r1 => ⟨F1, ds, d, hl, R1.dom, r1, h2, fun v F2 H2 N r => k v F2 H2 (E1.trans (.of_new N)) (R1.alloc N) r⟩⟩
  · cases h2
theorem h_callK {den : List PyData → Option PyData} (h : HasK X.prog X.w X.K X.mg X.base k x ps ks is (spP X.K n den)) (hr : Room k X.A) (ha : PK X kws (tA X.K fs)) (hn : ps.length = n := by rfl)
    (hall : (backToKw pos (keywordEach kws X.env)).all (·.1.isSome) = true := by rfl) (hks : (backToKw pos (keywordEach kws X.env)).filterMap (·.1) = ks := by rfl) (hg : Gl X x := by rfl) (hdb : (x == ("__debug__" : Str)) = false := by decide)
    (hpl : ((backTo pos (starEach [] X.env)).any (·.1) || (backToKw pos (keywordEach kws X.env)).any (·.1.isNone)) = false := by rfl) :
    SE X (.Call (.Name x p) [] kws pos) (cal (fun ds => if ds.length = n ∧ (pmV is ds).length = n then den (pmV is ds) else none) fs) := by
  obtain ⟨f, fd, F, hm, hk, hb⟩ := h.ex
  exact s_callK F hr hm hk hb ha hn hall hks hg hdb hpl
/-- a module's constant that is an int -/
theorem s_gint {j : Int} (h : ∃ t, X.mg x = some (.int j t)) (hg : Gl X x := by rfl) (hd : (x == ("__debug__" : Str)) = false := by decide) : SE X (.Name x pos) (cst (.int j)) := by
  obtain ⟨t, hm⟩ := h
  exact PE.imp (pe_glob (v := .int j) hg hm ⟨t, rfl⟩ hd) fun σ H Q ⟨B, F, env, d, env', R, e, k⟩ => by
    cases e
    exact k _ F H .refl R (.int j)
end

/-! ### where the built-ins stand -/
theorem bt_int : bootBuiltins "int" = some (.type "int") := by decide +kernel
theorem bt_tuple : bootBuiltins "tuple" = some (.type "tuple") := by decide +kernel
theorem bt_list : bootBuiltins "list" = some (.type "list") := by decide +kernel
theorem bt_bool : bootBuiltins "bool" = some (.type "bool") := by decide +kernel
theorem bt_str : bootBuiltins "str" = some (.type "str") := by decide +kernel
theorem bt_len : bootBuiltins "len" = some (.builtin "len") := by decide +kernel
theorem bt_abs : bootBuiltins "abs" = some (.builtin "abs") := by decide +kernel
theorem bt_max : bootBuiltins "max" = some (.builtin "max") := by decide +kernel
theorem bt_min : bootBuiltins "min" = some (.builtin "min") := by decide +kernel
theorem bt_divmod : bootBuiltins "divmod" = some (.builtin "divmod") := by decide +kernel
theorem bt_sum : bootBuiltins "sum" = some (.builtin "sum") := by decide +kernel
theorem bt_repr : bootBuiltins "repr" = some (.builtin "repr") := by decide +kernel
/-- turns enough -/
def FU : Nat := 1000000000000000000
end Sm

set_option Elab.async false
set_option linter.all false
/-! Bin: binomials in plain Lean, and how math.comb and the loop found * (g - t) // (t + 1) come to them. -/
namespace Pl
open PySem PySem.Spec PyProof.Rows L2 Sm
def chR : Nat → Nat → Nat
  | _, 0 => 1
  | 0, _ + 1 => 0
  | n + 1, k + 1 => chR n k + chR n (k + 1)
/-- chosen, so that nothing ever unfolds it -/
theorem chX : ∃ f : Nat → Nat → Nat, (∀ n, f n 0 = 1) ∧ (∀ k, f 0 (k + 1) = 0) ∧ ∀ n k, f (n + 1) (k + 1) = f n k + f n (k + 1) := ⟨chR, fun n => by cases n <;> rfl, fun _ => rfl, fun _ _ => rfl⟩
noncomputable def ch : Nat → Nat → Nat := Classical.choose chX
@[simp] theorem ch_z (n : Nat) : ch n 0 = 1 := (Classical.choose_spec chX).1 n
@[simp] theorem ch_0 (k : Nat) : ch 0 (k + 1) = 0 := (Classical.choose_spec chX).2.1 k
theorem ch_s (n k : Nat) : ch (n + 1) (k + 1) = ch n k + ch n (k + 1) := (Classical.choose_spec chX).2.2 n k
theorem ch_over : ∀ {n k : Nat}, n < k → ch n k = 0
  | 0, k + 1, _ => ch_0 k
  | n + 1, k + 1, h => by rw [ch_s, ch_over (n := n) (k := k) (by omega), ch_over (n := n) (k := k + 1) (by omega)]
@[simp] theorem ch_self : ∀ n : Nat, ch n n = 1
  | 0 => ch_z 0
  | n + 1 => by rw [ch_s, ch_self n, ch_over (Nat.lt_succ_self n)]
@[simp] theorem ch_one : ∀ n : Nat, ch n 1 = n
  | 0 => ch_0 0
  | n + 1 => by rw [ch_s, ch_one n, ch_z]; omega
theorem ch_pos : ∀ {n k : Nat}, k ≤ n → 0 < ch n k
  | n, 0, _ => by simp
  | n + 1, k + 1, h => by rw [ch_s]; have := ch_pos (n := n) (k := k) (by omega); omega
theorem ch_mono1 (n k : Nat) : ch n k ≤ ch (n + 1) k := by
  cases k with
  | zero => simp
  | succ k => rw [ch_s]; omega
theorem ch_mono {m n : Nat} (h : m ≤ n) (k : Nat) : ch m k ≤ ch n k := by
  induction h with
  | refl => exact Nat.le_refl _
  | step _ ih => exact Nat.le_trans ih (ch_mono1 _ k)
theorem ch_up {n k : Nat} (h : k + 1 ≤ n + 1) : ch n (k + 1) < ch (n + 1) (k + 1) := by
  rw [ch_s]; have := ch_pos (n := n) (k := k) (by omega); omega
/-- ch m k ≥ m - k + 1 -/
theorem ch_ge : ∀ {m k : Nat}, 1 ≤ k → k ≤ m → m + 1 ≤ ch m k + k
  | 0, k, h1, h2 => by omega
  | m + 1, 0, h1, _ => by omega
  | m + 1, k + 1, _, h2 => by
    by_cases h : k = m
    · subst h; simp; omega
    · have := ch_ge (m := m) (k := k + 1) (by omega) (by omega)
      have := ch_up (n := m) (k := k) (by omega)
      omega
/-- (k + 1) C(n, k + 1) = (n - k) C(n, k) -/
theorem ch_step : ∀ (n k : Nat), k ≤ n → ch n (k + 1) * (k + 1) = ch n k * (n - k)
  | 0, 0, _ => by simp
  | n + 1, 0, _ => by simp
  | n + 1, k + 1, h => by
    by_cases e : k = n
    · subst e; simp [ch_over]
    · have h1 := ch_step n (k + 1) (by omega)
      have h2 := ch_step n k (by omega)
      rw [ch_s n (k + 1), ch_s n k]
      obtain ⟨d, hd⟩ : ∃ d, n = k + 1 + d := ⟨n - (k + 1), by omega⟩
      rw [show n - (k + 1) = d by omega] at h1
      rw [show n - k = d + 1 by omega] at h2
      rw [show n + 1 - (k + 1) = d + 1 by omega]
      rw [Nat.add_mul, h1, Nat.add_mul, ← h2]
      have e1 : ch n (k + 1) * (k + 1 + 1) = ch n (k + 1) * (k + 1) + ch n (k + 1) := Nat.mul_succ ..
      have e2 : ch n (k + 1) * (d + 1) = ch n (k + 1) * d + ch n (k + 1) := Nat.mul_succ ..
      omega
theorem ch_symm : ∀ (n k : Nat), k ≤ n → ch n (n - k) = ch n k
  | 0, 0, _ => rfl
  | n + 1, 0, _ => by simp
  | n + 1, k + 1, h => by
    by_cases e : k = n
    · subst e; simp
    · have h1 := ch_symm n k (by omega)
      have h2 := ch_symm n (k + 1) (by omega)
      rw [show n + 1 - (k + 1) = (n - (k + 1)) + 1 by omega, ch_s, ch_s, h2]
      rw [show n - (k + 1) + 1 = n - k by omega, h1]
      omega
theorem ediv_of_mul {a b c : Int} (hb : b ≠ 0) (h : a = c * b) : a / b = c := by
  rw [h]; exact Int.mul_ediv_cancel c hb
theorem fp_ch : ∀ (n k : Nat), k ≤ n → Builtin.Math.fallingProduct n k = (ch n k : Int) * Builtin.Math.fallingProduct k k
  | n, 0, _ => by simp [PySem.W.mc_fp_zero]
  | n, k + 1, h => by
    have h1 := fp_ch n k (by omega)
    have h2 := ch_step n k (by omega)
    have h3 : ∀ k : Nat, Builtin.Math.fallingProduct (k + 1 : Int) (k + 1) = (k + 1 : Int) * Builtin.Math.fallingProduct k k := by
      intro k
      have : ∀ j : Nat, Builtin.Math.fallingProduct (k + 1 : Int) (j + 1) = (k + 1 : Int) * Builtin.Math.fallingProduct k j := by
        intro j
        induction j with
        | zero => rw [PySem.W.mc_fp_succ, PySem.W.mc_fp_zero, PySem.W.mc_fp_zero]; simp
        | succ j ih =>
          rw [PySem.W.mc_fp_succ, ih, PySem.W.mc_fp_succ, Int.mul_assoc]
          congr 2
          omega
      exact this k
    rw [PySem.W.mc_fp_succ, h1, show ((k + 1 : Nat) : Int) = (k : Int) + 1 from rfl, h3, Int.mul_assoc, Int.mul_comm (Builtin.Math.fallingProduct k k), ← Int.mul_assoc, ← Int.mul_assoc]
    congr 1
    rw [show ((n : Int) - (k : Int)) = ((n - k : Nat) : Int) by omega, show ((k : Int) + 1) = ((k + 1 : Nat) : Int) from rfl, ← Int.natCast_mul, ← Int.natCast_mul, h2]
theorem mc_ch (a b : Nat) : PySem.W.mcComb a b = (ch a b : Int) := by
  by_cases h : b ≤ a
  · by_cases h2 : b ≤ a - b
    · rw [PySem.W.mcComb_at (m := b) (by omega) (by omega) (by omega)]
      rw [Int.toNat_natCast, fp_ch a b h]
      exact Int.mul_ediv_cancel _ (by have := PySem.W.mc_fp_pos (n := b) b (Int.le_refl _); omega)
    · rw [PySem.W.mcComb_at (m := ((a - b : Nat) : Int)) (by omega) (by omega) (by omega)]
      rw [Int.toNat_natCast, fp_ch a (a - b) (by omega), ch_symm a b h]
      exact Int.mul_ediv_cancel _ (by have := PySem.W.mc_fp_pos (n := ((a - b : Nat) : Int)) (a - b) (Int.le_refl _); omega)
  · rw [PySem.W.mcComb_above (by omega), ch_over (by omega)]; rfl
/-- one step of the law's loop -/
theorem ch_loop {g t : Nat} (h : t ≤ g) : ((ch g t : Int) * ((g : Int) - t)).fdiv ((t : Int) + 1) = (ch g (t + 1) : Int) := by
  rw [show ((g : Int) - (t : Int)) = ((g - t : Nat) : Int) by omega, ← Int.natCast_mul, ← ch_step g t h, show ((t : Int) + 1) = ((t + 1 : Nat) : Int) from rfl, Int.natCast_mul,
    Int.fdiv_eq_ediv_of_nonneg _ (by omega)]
  exact Int.mul_ediv_cancel _ (by omega)

/-! ### the greedy writing of a number -/
inductive Ex : Nat → Nat → List Nat → Prop
  | zero (k : Nat) : Ex k 0 []
  | more {k n a : Nat} {l : List Nat} (hk : k + 1 ≤ a) (h1 : ch a (k + 1) ≤ n) (h2 : n < ch (a + 1) (k + 1)) (h : Ex k (n - ch a (k + 1)) l) : Ex (k + 1) n (a :: l)
theorem top_one {k n a b : Nat} (h1 : ch a k ≤ n) (h2 : n < ch (b + 1) k) : a ≤ b := by
  by_cases h : a ≤ b
  · exact h
  · have := ch_mono (show b + 1 ≤ a by omega) k
    omega
/-- a < C(a, k + 1) + k + 1: there is a top -/
theorem top_ex (k n : Nat) (hn : 1 ≤ n) : ∃ a, k + 1 ≤ a ∧ ch a (k + 1) ≤ n ∧ n < ch (a + 1) (k + 1) := by
  have key : ∀ j : Nat, n < ch (k + 1 + j + 1) (k + 1) → ∃ a, k + 1 ≤ a ∧ ch a (k + 1) ≤ n ∧ n < ch (a + 1) (k + 1) := by
    intro j
    induction j with
    | zero => intro h; exact ⟨k + 1, Nat.le_refl _, by simp; omega, h⟩
    | succ j ih =>
      intro h
      by_cases q : n < ch (k + 1 + j + 1) (k + 1)
      · exact ih q
      · exact ⟨k + 1 + j + 1, by omega, by omega, h⟩
  exact key n (by have := ch_ge (m := k + 1 + n + 1) (k := k + 1) (by omega) (by omega); omega)
/-- what is left is less than the next lot -/
theorem rest_lt {k n a : Nat} (h1 : ch a (k + 1) ≤ n) (h2 : n < ch (a + 1) (k + 1)) : n - ch a (k + 1) < ch a k := by
  rw [ch_s] at h2; omega
theorem ex_of : ∀ (k n : Nat), (k = 0 → n = 0) → ∃ l, Ex k n l
  | k, 0, _ => ⟨[], .zero k⟩
  | 0, n + 1, h => absurd (h rfl) (by omega)
  | k + 1, n + 1, _ => by
    obtain ⟨a, h0, h1, h2⟩ := top_ex k (n + 1) (by omega)
    obtain ⟨l, hl⟩ := ex_of k (n + 1 - ch a (k + 1)) fun e => by
      subst e
      have := rest_lt h1 h2
      rw [ch_z] at this
      omega
    exact ⟨a :: l, .more h0 h1 h2 hl⟩
theorem Ex.len : ∀ {k n : Nat} {l : List Nat}, Ex k n l → l.length ≤ k
  | _, _, _, .zero k => Nat.zero_le _
  | _, _, _, .more hk h1 h2 h => by have := h.len; simp; omega
theorem Ex.big : ∀ {k n : Nat} {l : List Nat}, Ex k n l → ∀ j (h : j < l.length), k - j ≤ l[j]
  | _, _, _, .zero k, _, h => by simp at h
  | _, _, _, .more hk h1 h2 h, 0, _ => by simpa using hk
  | _, _, _, .more hk h1 h2 h, j + 1, q => by
    have := h.big j (by simpa using q)
    simp
    omega
theorem Ex.small : ∀ {k n : Nat} {l : List Nat}, Ex k n l → ∀ a ∈ l, a ≤ n + k
  | _, _, _, .zero k, _, h => by simp at h
  | k + 1, n, a :: l, .more hk h1 h2 h, b, m => by
    rcases List.mem_cons.mp m with e | m
    · subst e
      have := ch_ge (m := b) (k := k + 1) (by omega) hk
      omega
    · have := h.small b m
      omega
/-! ### a row of lots beside a row of tops -/
def along (f : Nat → Nat → Nat) : Nat → List Nat → List Nat
  | _, [] => []
  | k, a :: l => f a k :: along f (k - 1) l
theorem along_get (f : Nat → Nat → Nat) : ∀ (k : Nat) (l : List Nat), along f k l = (List.range l.length).map fun j => f (l.getD j 0) (k - j)
  | _, [] => rfl
  | k, a :: l => by
    rw [along, along_get f (k - 1) l, List.length_cons, List.range_succ_eq_map, List.map_cons, List.map_map]
    congr 1
    apply List.map_congr_left
    intro j _
    simp only [Function.comp, List.getD_cons_succ]
    congr 1
    omega
theorem Ex.along : ∀ {k n : Nat} {l : List Nat}, Ex k n l → (Pl.along ch k l).sum = n
  | _, _, _, .zero k => rfl
  | _, _, _, .more (k := k) (a := a) hk h1 h2 h => by
    show _ + (Pl.along ch (k + 1 - 1) _).sum = _
    rw [Nat.add_sub_cancel, h.along]; omega
theorem ch_next : ∀ (a k : Nat), ch (a + 1) (k + 1) ≤ (a + 1) * ch a k
  | 0, k => by rw [ch_s]; cases k <;> simp [ch_over]
  | a + 1, k => by
    have h1 := ch_next a k
    have h2 := Nat.mul_le_mul_left (a + 1) (ch_mono1 a k)
    have e : (a + 1 + 1) * ch (a + 1) k = (a + 1) * ch (a + 1) k + ch (a + 1) k := Nat.succ_mul ..
    rw [ch_s (a + 1) k]
    omega
theorem Ex.next_le : ∀ {k n : Nat} {l : List Nat}, Ex k n l → (Pl.along (fun a k => ch (a + 1) (k + 1)) k l).sum ≤ (n + k + 1) * n
  | _, _, _, .zero k => Nat.zero_le _
  | k + 1, n, a :: l, .more hk h1 h2 h => by
    have h3 := h.next_le
    have h4 := ch_next a (k + 1)
    have h5 : a ≤ n + (k + 1) := (Ex.more hk h1 h2 h).small a (List.mem_cons_self ..)
    have h6 : (a + 1) * ch a (k + 1) ≤ (n + (k + 1) + 1) * ch a (k + 1) := Nat.mul_le_mul_right _ (by omega)
    have h7 : (n - ch a (k + 1) + k + 1) * (n - ch a (k + 1)) ≤ (n + (k + 1) + 1) * (n - ch a (k + 1)) := Nat.mul_le_mul_right _ (by omega)
    have h8 : (n + (k + 1) + 1) * ch a (k + 1) + (n + (k + 1) + 1) * (n - ch a (k + 1)) = (n + (k + 1) + 1) * n := by rw [← Nat.mul_add, Nat.add_sub_cancel' h1]
    show ch (a + 1) (k + 1 + 1) + (Pl.along _ (k + 1 - 1) l).sum ≤ _
    rw [Nat.add_sub_cancel]
    omega
theorem Ex.not_zero {k a : Nat} {l : List Nat} (h : Ex k 0 (a :: l)) : False := by
  cases h with
  | more hk h1 h2 h =>
    have := ch_pos hk
    omega
theorem top_eq {k n a b : Nat} (h1 : ch a k ≤ n) (h2 : n < ch (a + 1) k) (g1 : ch b k ≤ n) (g2 : n < ch (b + 1) k) : a = b := by
  have := top_one h1 g2
  have := top_one g1 h2
  omega
end Pl

set_option Elab.async false
set_option linter.all false
/-! SimB: reckoning with the functions of Sim. -/
namespace Sm
open PySem PySem.Spec PyProof.Rows L2
@[simp] theorem sizeLineS : sizeLine = 16777216 := by rw [sizeLine_eq]
section
variable {α : Type} {i j : Int} {x y : Str} {ds es : List PyData} {env : En} {d : PyData}
@[simp] theorem vr_va {i : Nat} (h : env[i]? = some (.va d)) : vr i env = some (d, env) := by unfold vr; rw [h]
@[simp] theorem addD_int : addD (.int i) (.int j) = some (.int (i + j)) := rfl
@[simp] theorem subD_int : subD (.int i) (.int j) = some (.int (i - j)) := rfl
@[simp] theorem ltD_int : ltD (.int i) (.int j) = some (.bool (decide (i < j))) := by rw [← iLt_is]; rfl
@[simp] theorem leD_int : leD (.int i) (.int j) = some (.bool (decide (i ≤ j))) := by rw [← iLe_is]; rfl
@[simp] theorem gtD_int : gtD (.int i) (.int j) = some (.bool (decide (j < i))) := by rw [← iLt_is]; rfl
@[simp] theorem geD_int : geD (.int i) (.int j) = some (.bool (decide (j ≤ i))) := by rw [← iLe_is]; rfl
@[simp] theorem negD_int : negD (.int i) = some (.int (-i)) := rfl
theorem mulD_int (h : MulOk i j) : mulD (.int i) (.int j) = some (.int (i * j)) := if_pos h
theorem divD_int (h : DivOk j) : divD (.int i) (.int j) = some (.int (i.fdiv j)) := if_pos h
theorem modD_int (h : 0 < j) : modD (.int i) (.int j) = some (.int (i % j)) := if_pos h
theorem powD_int (h : PowOk i j) : powD (.int i) (.int j) = some (.int (i ^ j.toNat)) := if_pos h
theorem divmodD_int (h : 0 < j ∧ j < 1073741824) : divmodD [.int i, .int j] = some (.tuple [.int (i / j), .int (i % j)]) := if_pos ((dmB_iff j).mpr h)
theorem mulOk_l (h : -(2 ^ 64) < i ∧ i < 2 ^ 64) : MulOk i j := .inl (.inl h)
theorem mulOk_r (h : -(2 ^ 64) < j ∧ j < 2 ^ 64) : MulOk i j := .inl (.inr h)
theorem p64 : (2 : Int) ^ 64 = 18446744073709551616 := by decide
theorem p64n : (2 : Nat) ^ 64 = 18446744073709551616 := by decide
theorem b64 (h : 0 ≤ j) (h2 : j < 18446744073709551616) : -(2 ^ 64) < j ∧ j < 2 ^ 64 := by rw [p64]; omega
theorem mulOk_rn (h : 0 ≤ j) (h2 : j < 18446744073709551616) : MulOk i j := mulOk_r (b64 h h2)
theorem mulOk_ln (h : 0 ≤ i) (h2 : i < 18446744073709551616) : MulOk i j := mulOk_l (b64 h h2)
theorem log64 {n : Nat} (h0 : n ≠ 0) (h : n < 18446744073709551616) : n.log2 < 9000 := by
  have := (Nat.log2_lt (n := n) (k := 64) h0).mpr (by rw [p64n]; exact h)
  omega
theorem divOk_n (h : 0 < j) (h2 : j < 18446744073709551616) : DivOk j := ⟨by omega, log64 (by omega) (by omega)⟩
theorem combOk_n {a b : Nat} (h : a < 18446744073709551616) (h2 : b ≤ 9000) : CombOk a b := ⟨Int.natCast_nonneg a, Int.natCast_nonneg b, (b64 (Int.natCast_nonneg a) (by omega)).2, .inl (by omega)⟩
theorem combD_n {a b : Nat} (h : a < 18446744073709551616) (h2 : b ≤ 9000) : combD [.int a, .int b] = some (.int (Pl.ch a b : Nat)) := by
  show (if CombOk (a : Int) (b : Int) then some (PyData.int (PySem.W.mcComb a b)) else none) = _
  rw [if_pos (combOk_n h h2), Pl.mc_ch]
theorem divOk_of (h : 0 < j ∧ j < 2 ^ 64) : DivOk j := ⟨by omega, by
  have : j.natAbs < 2 ^ 64 := by omega
  have := (Nat.log2_lt (n := j.natAbs) (by omega)).mpr this
  omega⟩
@[simp] theorem eqD_int : eqD (.int i) (.int j) = some (.bool (decide (i = j))) := by
  show some (PyData.bool (PyData.eqv _ _)) = _
  rw [PyData.eqv]; congr 2
@[simp] theorem neD_int : neD (.int i) (.int j) = some (.bool (!decide (i = j))) := by
  show some (PyData.bool (!PyData.eqv _ _)) = _
  rw [PyData.eqv]; congr 3
@[simp] theorem eqD_str : eqD (.str x) (.str y) = some (.bool (x == y)) := by
  show some (PyData.bool (PyData.eqv _ _)) = _
  rw [PyData.eqv]
@[simp] theorem neD_str : neD (.str x) (.str y) = some (.bool (!(x == y))) := by
  show some (PyData.bool (!PyData.eqv _ _)) = _
  rw [PyData.eqv]
theorem atI_cast {xs : List α} {k : Nat} : atI xs (k : Int) = xs[k]? := by
  unfold atI ixN
  rw [if_pos (by omega)]
  by_cases h : k < xs.length
  · rw [if_pos (by omega)]; simp
  · rw [if_neg (by omega), List.getElem?_eq_none (by omega)]; rfl
theorem atI_of {xs : List α} {i : Int} (h : 0 ≤ i) : atI xs i = xs[i.toNat]? := by
  obtain ⟨k, rfl⟩ := Int.eq_ofNat_of_zero_le h
  exact atI_cast
theorem ixN_nat {n k : Nat} : ixN n (k : Int) = if k < n then some k else none := by
  unfold ixN
  rw [if_pos (by omega)]
  by_cases h : k < n
  · rw [if_pos (by omega), if_pos h]; simp
  · rw [if_neg (by omega), if_neg h]
@[simp] theorem ixN_lit {n k : Nat} : ixN n (no_index (OfNat.ofNat k)) = if k < n then some k else none := ixN_nat
@[simp] theorem ixN_0 {n : Nat} : ixN n 0 = if 0 < n then some 0 else none := ixN_nat (k := 0)
@[simp] theorem ixN_1 {n : Nat} : ixN n 1 = if 1 < n then some 1 else none := ixN_nat (k := 1)
@[simp] theorem atI_lit {xs : List α} {k : Nat} : atI xs (no_index (OfNat.ofNat k)) = xs[k]? := atI_cast
@[simp] theorem atI_0 {xs : List α} : atI xs 0 = xs[0]? := atI_cast (k := 0)
@[simp] theorem atI_1 {xs : List α} : atI xs 1 = xs[1]? := atI_cast (k := 1)
@[simp] theorem intsOf_ints : ∀ ns : List Int, intsOf (ns.map .int) = some ns
  | [] => rfl
  | n :: ns => by show (intsOf (ns.map .int)).map (n :: ·) = _; rw [intsOf_ints ns]; rfl
end

/-! ### loops -/
theorem forS_eq {fi : LF} {g : GF} {b : SF} {env e1 : En} {ds : List PyData} (h : fi env = some (ds, e1)) : forS fi g b env = forF g b ds e1 := by
  unfold forS
  rw [h]
theorem seqF_nx {f g : SF} {env e1 : En} (h : f env = some (.nx, e1)) : seqF f g env = g e1 := by
  unfold seqF
  rw [h]
theorem seqF_rt {f g : SF} {env e1 : En} {d : PyData} (h : f env = some (.rt d, e1)) : seqF f g env = some (.rt d, e1) := by
  unfold seqF
  rw [h]
theorem seqF_bk {f g : SF} {env e1 : En} (h : f env = some (.bk, e1)) : seqF f g env = some (.bk, e1) := by
  unfold seqF
  rw [h]
theorem asgF_eq {fe : EF} {g : GF} {env e1 e2 : En} {d : PyData} (h : fe env = some (d, e1)) (h2 : g d e1 = some e2) : asgF fe g env = some (.nx, e2) := by
  unfold asgF
  rw [h]
  dsimp only
  rw [h2]
theorem asgO_eq {fl : LF} {i : Nat} {env e1 : En} {ds : List PyData} (h : fl env = some (ds, e1)) : asgO fl i env = some (.nx, e1.set i (.ow false ds)) := by
  unfold asgO
  rw [h]
theorem iteS_t {ft : TF} {f g : SF} {env e1 : En} (h : ft env = some (true, e1)) : iteS ft f g env = f e1 := by
  unfold iteS
  rw [h]
theorem iteS_f {ft : TF} {f g : SF} {env e1 : En} (h : ft env = some (false, e1)) : iteS ft f g env = g e1 := by
  unfold iteS
  rw [h]
theorem retF_eq {fe : EF} {env e1 : En} {d : PyData} (h : fe env = some (d, e1)) : retF fe env = some (.rt d, e1) := by
  unfold retF
  rw [h]
theorem denP_rt {n : Nat} {f : SF} {ds : List PyData} {e : En} {d : PyData} (h : f (entry n ds) = some (.rt d, e)) : denP n f ds = some d := by
  unfold denP
  rw [h]
theorem denP_nx {n : Nat} {f : SF} {ds : List PyData} {e : En} (h : f (entry n ds) = some (.nx, e)) : denP n f ds = some .none := by
  unfold denP
  rw [h]
theorem denM_rt {n : Nat} {f : SF} {ps ps' ds : List PyData} {e : En} {d : PyData} (h : f (entryM n ps ds) = some (.rt d, e)) (h2 : e[0]? = some (.ow true ps')) : denM n f ps ds = some (d, ps') := by
  unfold denM
  rw [h]
  dsimp only
  unfold par0
  rw [h2]
theorem denL_rt {n : Nat} {f : SF} {ds : List PyData} {e : En} {d : List PyData} (h : f (entry n ds) = some (.rt (.list d), e)) : denL n f ds = some d := by
  unfold denL
  rw [h]
theorem cal_eq {o : List PyData → Option PyData} {fs : LF} {env e1 : En} {ds : List PyData} {z : PyData} (h : fs env = some (ds, e1)) (h2 : o ds = some z) : cal o fs env = some (z, e1) := by
  unfold cal
  rw [h]
  dsimp only
  rw [h2]
theorem aCons_eq {fe : EF} {fs : LF} {env e1 e2 : En} {d : PyData} {ds : List PyData} (h : fe env = some (d, e1)) (h2 : fs e1 = some (ds, e2)) : aCons fe fs env = some (d :: ds, e2) := by
  unfold aCons
  rw [h]
  dsimp only
  rw [h2]
theorem frz_eq {fl : LF} {env e1 : En} {ds : List PyData} (h : fl env = some (ds, e1)) : frz fl env = some (.list ds, e1) := by
  unfold frz
  rw [h]
theorem bin_eq {o : PyData → PyData → Option PyData} {fa fb : EF} {env e1 e2 : En} {x y z : PyData} (h : fa env = some (x, e1)) (h2 : fb e1 = some (y, e2)) (h3 : o x y = some z) : bin o fa fb env = some (z, e2) := by
  unfold bin
  rw [h]
  dsimp only
  rw [h2]
  dsimp only
  rw [h3]
theorem tst_eq {fe : EF} {env e1 : En} {b : Bool} (h : fe env = some (.bool b, e1)) : tst fe env = some (b, e1) := by
  unfold tst
  rw [h]
theorem orF_f {ft fu : TF} {env e1 : En} {r : Option (Bool × En)} (h : ft env = some (false, e1)) (h2 : fu e1 = r) : orF ft fu env = r := by
  unfold orF
  rw [h]
  exact h2
theorem enuF_eq {fs : LF} {env e1 : En} {ds : List PyData} (h : fs env = some ([.tuple ds], e1)) : enuF fs env = some (enuL ds, e1) := by
  unfold enuF
  rw [h]
  rfl
theorem intsOf_nats (l : List Nat) : intsOf (l.map fun a => .int (a : Nat)) = some (l.map fun a : Nat => (a : Int)) := by
  rw [show (l.map fun a => PyData.int (a : Nat)) = (l.map fun a : Nat => (a : Int)).map .int by rw [List.map_map]; rfl, intsOf_ints]
theorem sum_cast : ∀ l : List Nat, (l.map fun a : Nat => (a : Int)).sum = ((l.sum : Nat) : Int)
  | [] => rfl
  | a :: l => by rw [List.map_cons, List.sum_cons, sum_cast l, List.sum_cons]; omega
theorem sumD_nats (l : List Nat) : sumD [.list (l.map fun a => .int (a : Nat))] = some (.int (l.sum : Nat)) := by
  show (intsOf (l.map fun a => .int (a : Nat))).map (fun ns => PyData.int ns.sum) = _
  rw [intsOf_nats, Option.map_some, sum_cast]
theorem fm_rng {r : PyData → Option PyData} {f : Nat → PyData} {n : Nat} (h : ∀ i, i < n → r (.int (i : Nat)) = some (f i)) : (rngL 0 n).filterMap r = (List.range n).map f := by
  unfold rngL
  rw [List.filterMap_map]
  have : ∀ l : List Nat, (∀ i ∈ l, i < n) → l.filterMap (r ∘ fun i => PyData.int (0 + (i : Nat))) = l.map f := by
    intro l
    induction l with
    | nil => intro _; rfl
    | cons i l ih =>
      intro hl
      have e : (r ∘ fun i : Nat => PyData.int (0 + (i : Nat))) i = some (f i) := by
        show r (.int (0 + (i : Nat))) = _
        rw [Int.zero_add]
        exact h i (hl i (List.mem_cons_self ..))
      rw [List.filterMap_cons, e, ih fun j hj => hl j (List.mem_cons_of_mem _ hj)]
      rfl
  exact this _ fun i hi => List.mem_range.mp hi
theorem fm_none {r : PyData → Option PyData} : ∀ {ds : List PyData}, (∀ d ∈ ds, r d = none) → ds.filterMap r = []
  | [], _ => rfl
  | d :: ds, h => by rw [List.filterMap_cons, h d (List.mem_cons_self ..)]; exact fm_none fun e he => h e (List.mem_cons_of_mem _ he)
theorem rngL_mem {n : Nat} {d : PyData} (h : d ∈ rngL 0 n) : ∃ i, i < n ∧ d = .int (i : Nat) := by
  unfold rngL at h
  rw [List.mem_map] at h
  obtain ⟨i, h1, rfl⟩ := h
  exact ⟨i, List.mem_range.mp h1, by rw [Int.zero_add]⟩
theorem lcF_eq {fi : LF} {g : GF} {ft : TF} {fe : EF} {vs : List Nat} {env e1 e2 : En} {ds rs : List PyData} (h : fi env = some (ds, e1)) (hs : ds.length ≤ sizeLine) (hn : noOw e1 vs = true) (h2 : lcL g ft fe vs ds (wipeE e1 vs) = some (rs, e2)) : lcF fi g ft fe vs env = some (rs, mrg e1 e2 vs) := by
  unfold lcF
  rw [h]
  dsimp only
  rw [if_pos ⟨hs, hn⟩, h2]
theorem inR_of {j : Int} (h : -4000000000000000000 < j) (h2 : j < 4000000000000000000) : InR j := by unfold InR; omega
theorem rng1_eq {fs : LF} {env e1 : En} {n : Nat} (hs : n < 4000000000000000000) (h : fs env = some ([.int (n : Int)], e1)) : rng1 fs env = some (rngL 0 n, e1) := by
  have h1 : InR (n : Int) := inR_of (by omega) (by omega)
  simp [rng1, h, h1]
theorem rng2_eq {fs : LF} {env e1 : En} {i j : Int} (hi : -4000000000000000000 < i) (hi2 : i < 4000000000000000000) (hj : -4000000000000000000 < j) (hj2 : j < 4000000000000000000) (h : fs env = some ([.int i, .int j], e1)) : rng2 fs env = some (rngL i (j - i).toNat, e1) := by
  have h1 : InR i := inR_of hi hi2
  have h2 : InR j := inR_of hj hj2
  simp [rng2, h, h1, h2]
theorem rngD_eq {fs : LF} {env e1 : En} {n : Nat} (hs : n < 4000000000000000000) (h : fs env = some ([.int (n : Int), .int 0, .int (-1)], e1)) : rngD fs env = some ((List.range n).map fun k => .int ((n : Int) - (k : Nat)), e1) := by
  have h1 : InR (n : Int) := inR_of (by omega) (by omega)
  have h2 : InR 0 := by decide
  simp [rngD, h, h1, h2]

theorem forF_nx {g : GF} {b : SF} {d : PyData} {ds : List PyData} {env e1 e2 : En} (h1 : g d env = some e1) (h2 : b e1 = some (.nx, e2)) : forF g b (d :: ds) env = forF g b ds e2 := by
  conv => lhs; unfold forF
  rw [h1]
  dsimp only
  rw [h2]
theorem forF_bk {g : GF} {b : SF} {d : PyData} {ds : List PyData} {env e1 e2 : En} (h1 : g d env = some e1) (h2 : b e1 = some (.bk, e2)) : forF g b (d :: ds) env = some (.nx, e2) := by
  unfold forF
  rw [h1]
  dsimp only
  rw [h2]
theorem forF_rt {g : GF} {b : SF} {d r : PyData} {ds : List PyData} {env e1 e2 : En} (h1 : g d env = some e1) (h2 : b e1 = some (.rt r, e2)) : forF g b (d :: ds) env = some (.rt r, e2) := by
  unfold forF
  rw [h1]
  dsimp only
  rw [h2]
theorem whF_no {ft : TF} {b : SF} {env e1 : En} (h : ft env = some (false, e1)) : whF ft b FU env = some (.nx, e1) := by
  show whF ft b (999999999999999999 + 1) env = _
  unfold whF
  rw [h]
theorem forF_inv {g : GF} {b : SF} (I : Nat → En → Prop) : ∀ (ds : List PyData) (t : Nat) (env : En), I t env →
    (∀ (k : Nat) (e : En) (d : PyData), ds[k]? = some d → I (t + k) e → ∃ e1 e2, g d e = some e1 ∧ b e1 = some (.nx, e2) ∧ I (t + k + 1) e2) →
    ∃ e', forF g b ds env = some (.nx, e') ∧ I (t + ds.length) e'
  | [], t, env, h, _ => ⟨env, rfl, h⟩
  | d :: ds, t, env, h, k => by
    obtain ⟨e1, e2, h1, h2, h3⟩ := k 0 env d rfl h
    obtain ⟨e', h4, h5⟩ := forF_inv I ds (t + 1) e2 h3 fun j e c hc hi => by
      have := k (j + 1) e c (by simpa using hc) (by rw [show t + (j + 1) = t + 1 + j by omega]; exact hi)
      rw [show t + (j + 1) = t + 1 + j by omega] at this
      exact this
    refine ⟨e', ?_, by rw [List.length_cons, show t + (ds.length + 1) = t + 1 + ds.length by omega]; exact h5⟩
    unfold forF
    rw [h1]
    dsimp only
    rw [h2]
    exact h4
theorem rngL_len (lo : Int) (n : Nat) : (rngL lo n).length = n := by simp [rngL]
theorem rngL_get {lo : Int} {n k : Nat} {d : PyData} (h : (rngL lo n)[k]? = some d) : k < n ∧ d = .int (lo + k) := by
  unfold rngL at h
  rw [List.getElem?_map, Option.map_eq_some_iff] at h
  obtain ⟨m, h1, rfl⟩ := h
  rw [List.getElem?_eq_some_iff] at h1
  obtain ⟨h2, h3⟩ := h1
  simp at h2 h3
  exact ⟨h2, by rw [h3]⟩
theorem forF_rng {g : GF} {b : SF} {lo : Int} {n : Nat} (I : Nat → En → Prop) {env : En} (h0 : I 0 env)
    (h : ∀ (t : Nat) (e : En), t < n → I t e → ∃ e1 e2, g (.int (lo + t)) e = some e1 ∧ b e1 = some (.nx, e2) ∧ I (t + 1) e2) : ∃ e', forF g b (rngL lo n) env = some (.nx, e') ∧ I n e' := by
  obtain ⟨e', h1, h2⟩ := forF_inv I (rngL lo n) 0 env h0 fun k e d hd hi => by
    obtain ⟨hk, rfl⟩ := rngL_get hd
    rw [Nat.zero_add] at hi ⊢
    exact h k e hk hi
  rw [rngL_len, Nat.zero_add] at h2
  exact ⟨e', h1, h2⟩
theorem whF_run {ft : TF} {b : SF} (I : Nat → En → Prop) (J : En → Prop)
    (h : ∀ m env, I m env → (∃ e1, ft env = some (false, e1) ∧ J e1) ∨ (∃ m' e1 e2, ft env = some (true, e1) ∧ b e1 = some (.nx, e2) ∧ I m' e2 ∧ m' < m)) :
    ∀ (n m : Nat) (env : En), I m env → m < n → ∃ e', whF ft b n env = some (.nx, e') ∧ J e'
  | 0, _, _, _, q => absurd q (Nat.not_lt_zero _)
  | n + 1, m, env, hi, q => by
    rcases h m env hi with ⟨e1, h1, h2⟩ | ⟨m', e1, e2, h1, h2, h3, h4⟩
    · exact ⟨e1, by unfold whF; rw [h1], h2⟩
    · obtain ⟨e', h5, h6⟩ := whF_run I J h n m' e2 h3 (by omega)
      exact ⟨e', by unfold whF; rw [h1]; dsimp only; rw [h2]; exact h5, h6⟩
/-- the walk down from k to 1 -/
def downs : Nat → List PyData
  | 0 => []
  | k + 1 => .int ((k + 1 : Nat) : Int) :: downs k
theorem downs_eq (k : Nat) : ((List.range k).map fun j => PyData.int ((k : Int) - (j : Nat))) = downs k := by
  induction k with
  | zero => rfl
  | succ k ih =>
    rw [List.range_succ_eq_map, List.map_cons, List.map_map, downs, ← ih]
    congr 1
    apply List.map_congr_left
    intro j _
    simp only [Function.comp]
    congr 1
    omega
theorem cutD_map (ns : List Int) (lo hi : Option Int) : ∃ ms : List Int, cutD (ns.map .int) lo hi = ms.map .int := ⟨_, by unfold cutD; rw [← List.map_drop, ← List.map_take]⟩
/-- a comprehension whose steps leave the frame as it was -/
theorem lcL_of {g : GF} {ft : TF} {fe : EF} {vs : List Nat} {env : En} (r : PyData → Option PyData) : ∀ (ds : List PyData),
    (∀ d ∈ ds, ∃ e1 e2, g d env = some e1 ∧ ((ft e1 = some (false, e2) ∧ r d = none ∧ wipeE e2 vs = env) ∨ (∃ e3 x, ft e1 = some (true, e2) ∧ fe e2 = some (x, e3) ∧ r d = some x ∧ wipeE e3 vs = env))) →
    lcL g ft fe vs ds env = some (ds.filterMap r, env)
  | [], _ => rfl
  | d :: ds, h => by
    have ih := lcL_of r ds fun d hd => h d (List.mem_cons_of_mem _ hd)
    obtain ⟨e1, e2, h1, h2⟩ := h d (List.mem_cons_self ..)
    unfold lcL
    rw [h1]
    dsimp only
    rcases h2 with ⟨h2, h3, h4⟩ | ⟨e3, x, h2, h3, h4, h5⟩
    · rw [h2]; dsimp only; rw [h4, ih, List.filterMap_cons, h3]
    · rw [h2]; dsimp only; rw [h3]; dsimp only; rw [h5, ih, List.filterMap_cons, h4]

/-! ### what repr and == ask of plain data -/
mutual
/-- ints below 10^30, tuples and lists; no more than n nodes -/
def tame : PyData → Bool
  | .int i => decide (i.natAbs < 10 ^ 30)
  | .list xs | .tuple xs => tameAll xs
  | _ => false
def tameAll : List PyData → Bool
  | [] => true
  | x :: xs => tame x && tameAll xs
end
mutual
def nodes : PyData → Nat
  | .list xs | .tuple xs => nodesAll xs
  | _ => 0
def nodesAll : List PyData → Nat
  | [] => 0
  | x :: xs => nodes x + 1 + nodesAll xs
end
theorem tameAll_nats : ∀ {l : List Nat}, (∀ a ∈ l, a < 10 ^ 30) → tameAll (l.map fun a => PyData.int (a : Nat)) = true
  | [], _ => by simp [tameAll]
  | a :: l, h => by
    have := h a (List.mem_cons_self ..)
    simp only [List.map_cons, tameAll, tame, tameAll_nats fun b hb => h b (List.mem_cons_of_mem _ hb), Bool.and_true, decide_eq_true_eq]
    exact this
theorem nodesAll_nats : ∀ (l : List Nat), nodesAll (l.map fun a => PyData.int (a : Nat)) = l.length
  | [] => by simp [nodesAll]
  | a :: l => by simp only [List.map_cons, nodesAll, nodes, nodesAll_nats l, List.length_cons]; omega
theorem depthAll_nats : ∀ (l : List Nat), PyData.depthAll (l.map fun a => PyData.int (a : Nat)) = 0
  | [] => by simp [PyData.depthAll]
  | a :: l => by simp [PyData.depthAll, PyData.depth, depthAll_nats l]
theorem log2_30 {n : Nat} (h : n < 10 ^ 30) : n.log2 < 100 := by
  by_cases h0 : n = 0
  · subst h0; decide
  · exact (Nat.log2_lt h0).mpr (Nat.lt_of_lt_of_le h (by decide))
theorem shown_int_len {i : Int} (h : i.natAbs < 10 ^ 30) : (PyData.shown (.int i)).length ≤ 40 := by
  have e := int_text_length_le10 (k := 30) (by decide) h
  show (Str.ofString (toString i)).length ≤ 40
  rw [PySem.ofString_length]
  omega
mutual
theorem tame_ok : ∀ d : PyData, tame d = true → d.hasDict = false ∧ d.showable = true ∧ d.leavesShort 40 = true ∧ d.canLay0 = true ∧ d.weight ≤ 101 * nodes d + 100
  | .int i, h => by
    have h : i.natAbs < 10 ^ 30 := by simpa [tame] using h
    have h1 := log2_30 h
    refine ⟨by simp [PyData.hasDict], by simp [PyData.showable]; omega, by simp only [PyData.leavesShort, decide_eq_true_eq]; exact shown_int_len h, by simp [PyData.canLay0], ?_⟩
    simp only [PyData.weight]
    split <;> omega
  | .list xs, h => by
    obtain ⟨h1, h2, h3, h4, h5⟩ := tameAll_ok xs (by simpa [tame] using h)
    exact ⟨by simpa [PyData.hasDict] using h1, by simpa [PyData.showable] using h2, by simpa [PyData.leavesShort] using h3, by simpa [PyData.canLay0] using h4, by simp only [PyData.weight, nodes]; omega⟩
  | .tuple xs, h => by
    obtain ⟨h1, h2, h3, h4, h5⟩ := tameAll_ok xs (by simpa [tame] using h)
    exact ⟨by simpa [PyData.hasDict] using h1, by simpa [PyData.showable] using h2, by simpa [PyData.leavesShort] using h3, by simpa [PyData.canLay0] using h4, by simp only [PyData.weight, nodes]; omega⟩
  | .none, h => by simp [tame] at h
  | .bool _, h => by simp [tame] at h
  | .str _, h => by simp [tame] at h
  | .dict _, h => by simp [tame] at h
theorem tameAll_ok : ∀ xs : List PyData, tameAll xs = true → PyData.hasDictAll xs = false ∧ PyData.showableAll xs = true ∧ PyData.leavesShortAll 40 xs = true ∧ PyData.canLayAll0 xs = true ∧ PyData.weightAll xs ≤ 101 * nodesAll xs
  | [], _ => by simp [PyData.hasDictAll, PyData.showableAll, PyData.leavesShortAll, PyData.canLayAll0, PyData.weightAll]
  | x :: xs, h => by
    have h : tame x = true ∧ tameAll xs = true := by simpa [tameAll] using h
    obtain ⟨h1, h2, h3, h4, h5⟩ := tame_ok x h.1
    obtain ⟨g1, g2, g3, g4, g5⟩ := tameAll_ok xs h.2
    refine ⟨by simp [PyData.hasDictAll, h1, g1], by simp [PyData.showableAll, h2, g2], by simp [PyData.leavesShortAll, h3, g3], by simp [PyData.canLayAll0, h4, g4], ?_⟩
    simp only [PyData.weightAll, nodesAll]
    omega
end
theorem reprD_tame {d : PyData} (hb : isBox d = true) (h : tame d = true) (hn : nodes d ≤ 3000) (hd : d.depth ≤ 60) : reprD [d] = some (.str d.shown) := by
  obtain ⟨h1, h2, h3, h4, h5⟩ := tame_ok d h
  have h6 := PyData.shown_le 40 (by decide) d h3
  have h7 : d.shown.length ≤ sizeLine := by
    have : sizeLine = 16777216 := by decide
    omega
  have e : reprOk d = true := by
    unfold reprOk
    rw [hb, h1, h2, decide_eq_true hd, decide_eq_true h7]
    rfl
  exact if_pos e
end Sm

set_option Elab.async false
set_option linter.all false
/-! SimC: repetition of lists and tuples. -/
namespace Sm
open PySem PySem.Spec PyProof.Rows L2
variable [Tb]
theorem Reps.rep {K : PySem.W.Frag} {F : Fz} {H : Hp} {vs : List V} {ds : List PyData} (r : Reps K F H vs ds) : ∀ n : Nat, Reps K F H (List.replicate n vs).flatten (List.replicate n ds).flatten
  | 0 => .nil
  | n + 1 => by
    rw [List.replicate_succ, List.replicate_succ, List.flatten_cons, List.flatten_cons]
    exact r.append (Reps.rep r n)
/-- a list times an int: a new list -/
def repL : PyData → PyData → Option (List PyData)
  | .list xs, .int k => if InR k ∧ xs.length * k.toNat ≤ sizeLine then some (List.replicate k.toNat xs).flatten else none
  | _, _ => none
def repT : PyData → PyData → Option PyData
  | .tuple xs, .int k => if xs ≠ [] ∧ 2 ≤ k ∧ k ≤ 1000 ∧ xs.length ≤ 1000 then some (.tuple (List.replicate k.toNat xs).flatten) else none
  | _, _ => none
section
variable {K : PySem.W.Frag}
theorem ok_repL : OpOkL K rRep repL := fun F H x y dx dy dz Q hd rx ry e k => by
  unfold repL at e
  split at e
  · split at e
    · rename_i hz
      cases e
      cases ry
      cases rx with
      | lst h1 r1 =>
        refine ⟨_, _, _, rfl, rfl, h1.2, by have := hz.1.is; omega, by have := hz.1.is; omega, by rw [r1.length]; exact hz.2, fun p hp => ?_⟩
        exact newOwn hd hp (r1.rep _) k
    · cases e
  · cases e
theorem ok_repT : OpOk K (rRepT K) repT := fun F H x y dx dy dz Q hd rx ry e k => by
  unfold repT at e
  split at e
  · split at e
    · rename_i hz
      cases e
      cases ry
      cases rx with
      | tup h1 r1 =>
        refine ⟨_, _, _, rfl, rfl, h1.sq, fun q => hz.1 (r1.nil_iff.mp q), hz.2.1, hz.2.2.1, by rw [r1.length]; exact hz.2.2.2, fun p hp => ?_⟩
        exact newTup hd hp (r1.rep _) k
    · cases e
  · cases e
end
end Sm
namespace Sm
open PySem PySem.Spec PyProof.Rows L2
variable [Tb]
/-! ### all, any, the greatest and the least of a list of ints -/
def boolsOf : List PyData → Option (List Bool)
  | [] => some []
  | .bool b :: r => (boolsOf r).map (b :: ·)
  | _ :: _ => none
theorem boolsOf_eq : ∀ {ds : List PyData} {bs : List Bool}, boolsOf ds = some bs → ds = bs.map .bool
  | [], _, h => by cases h; rfl
  | .bool b :: r, _, h => by
    unfold boolsOf at h
    rw [Option.map_eq_some_iff] at h
    obtain ⟨ms, h1, rfl⟩ := h
    rw [boolsOf_eq h1]
    rfl
  | .none :: _, _, h => nomatch h
  | .int _ :: _, _, h => nomatch h
  | .str _ :: _, _, h => nomatch h
  | .list _ :: _, _, h => nomatch h
  | .tuple _ :: _, _, h => nomatch h
  | .dict _ :: _, _, h => nomatch h
theorem Reps.of_bools {K : PySem.W.Frag} {F : Fz} {H : Hp} : ∀ {vs : List V} {bs : List Bool}, Reps K F H vs (bs.map PyData.bool) → vs = bs.map V.bl
  | _, [], .nil => rfl
  | _, b :: bs, .cons h r => by
    cases h
    rw [Reps.of_bools r]
    rfl
def allD : List PyData → Option PyData
  | [.list xs] => (boolsOf xs).map fun bs => .bool (bs.all id)
  | _ => none
def anyD : List PyData → Option PyData
  | [.list xs] => (boolsOf xs).map fun bs => .bool (bs.any id)
  | _ => none
section
variable {K : PySem.W.Frag}
theorem ok_all : ClOk K (rAll K) allD := fun F H xs ds dz Q hd r e k => by
  unfold allD at e
  split at e
  · rw [Option.map_eq_some_iff] at e
    obtain ⟨ns, h1, rfl⟩ := e
    have := boolsOf_eq h1
    subst this
    obtain ⟨v, rfl, rv⟩ := r.one
    cases rv with
    | lst h rr =>
      have := Reps.of_bools rr
      subst this
      exact ⟨_, ns, rfl, h.sq, k _ F H (.refl hd) (.bool _)⟩
  · cases e
theorem ok_any : ClOk K (rAny K) anyD := fun F H xs ds dz Q hd r e k => by
  unfold anyD at e
  split at e
  · rw [Option.map_eq_some_iff] at e
    obtain ⟨ns, h1, rfl⟩ := e
    have := boolsOf_eq h1
    subst this
    obtain ⟨v, rfl, rv⟩ := r.one
    cases rv with
    | lst h rr =>
      have := Reps.of_bools rr
      subst this
      exact ⟨_, ns, rfl, h.sq, k _ F H (.refl hd) (.bool _)⟩
  · cases e
end
end Sm
namespace Sm
open PySem PySem.Spec PyProof.Rows L2
variable [Tb]
/-! ### max, min and sorted of a list of ints -/
def most : Int → List Int → Int
  | m, [] => m
  | m, n :: ns => most (if m < n then n else m) ns
def least : Int → List Int → Int
  | m, [] => m
  | m, n :: ns => least (if n < m then n else m) ns
theorem most_is : ∀ (ns : List Int) (m : Int), (most m ns = m ∨ most m ns ∈ ns) ∧ m ≤ most m ns ∧ ∀ y ∈ ns, y ≤ most m ns
  | [], m => ⟨.inl rfl, Int.le_refl _, fun y h => nomatch h⟩
  | n :: ns, m => by
    obtain ⟨h1, h2, h3⟩ := most_is ns (if m < n then n else m)
    unfold most
    have g1 : m ≤ (if m < n then n else m) := by split <;> omega
    have g2 : n ≤ (if m < n then n else m) := by split <;> omega
    refine ⟨?_, Int.le_trans g1 h2, fun y hy => ?_⟩
    · rcases h1 with h1 | h1
      · rw [h1]
        split
        · exact .inr (List.mem_cons_self ..)
        · exact .inl rfl
      · exact .inr (List.mem_cons_of_mem _ h1)
    · rcases List.mem_cons.mp hy with e | hy
      · rw [e]; exact Int.le_trans g2 h2
      · exact h3 y hy
theorem least_is : ∀ (ns : List Int) (m : Int), (least m ns = m ∨ least m ns ∈ ns) ∧ least m ns ≤ m ∧ ∀ y ∈ ns, least m ns ≤ y
  | [], m => ⟨.inl rfl, Int.le_refl _, fun y h => nomatch h⟩
  | n :: ns, m => by
    obtain ⟨h1, h2, h3⟩ := least_is ns (if n < m then n else m)
    unfold least
    have g1 : (if n < m then n else m) ≤ m := by split <;> omega
    have g2 : (if n < m then n else m) ≤ n := by split <;> omega
    refine ⟨?_, Int.le_trans h2 g1, fun y hy => ?_⟩
    · rcases h1 with h1 | h1
      · rw [h1]
        split
        · exact .inr (List.mem_cons_self ..)
        · exact .inl rfl
      · exact .inr (List.mem_cons_of_mem _ h1)
    · rcases List.mem_cons.mp hy with e | hy
      · rw [e]; exact Int.le_trans h2 g2
      · exact h3 y hy
def mostOf : List Int → Option PyData
  | [] => none
  | n :: ns => some (.int (most n ns))
def leastOf : List Int → Option PyData
  | [] => none
  | n :: ns => some (.int (least n ns))
def maxLD : List PyData → Option PyData
  | [.list xs] => (intsOf xs).bind mostOf
  | _ => none
def minLD : List PyData → Option PyData
  | [.list xs] => (intsOf xs).bind leastOf
  | _ => none
section
variable {K : PySem.W.Frag}
theorem ok_maxL : ClOk K (rMax K) maxLD := fun F H xs ds dz Q hd r e k => by
  unfold maxLD at e
  split at e
  · rw [Option.bind_eq_some_iff] at e
    obtain ⟨ns, h1, h2⟩ := e
    have := intsOf_eq h1
    subst this
    obtain ⟨v, rfl, rv⟩ := r.one
    cases rv with
    | lst h rr =>
      have := rr.of_ints
      subst this
      cases ns with
      | nil => cases h2
      | cons n ns =>
        cases h2
        refine ⟨_, n :: ns, rfl, h.sq, by simp, fun m hm hy => ?_⟩
        obtain ⟨q1, q2, q3⟩ := most_is ns n
        have e1 : m ≤ most n ns := by
          rcases List.mem_cons.mp hm with e | hm
          · rw [e]; exact q2
          · exact q3 m hm
        have e2 : most n ns ≤ m := by
          rcases q1 with e | e
          · rw [e]; exact hy n (List.mem_cons_self ..)
          · exact hy _ (List.mem_cons_of_mem _ e)
        rw [Int.le_antisymm e1 e2]
        exact k _ F H (.refl hd) (.int _)
  · cases e
theorem ok_minL : ClOk K (rMin K) minLD := fun F H xs ds dz Q hd r e k => by
  unfold minLD at e
  split at e
  · rw [Option.bind_eq_some_iff] at e
    obtain ⟨ns, h1, h2⟩ := e
    have := intsOf_eq h1
    subst this
    obtain ⟨v, rfl, rv⟩ := r.one
    cases rv with
    | lst h rr =>
      have := rr.of_ints
      subst this
      cases ns with
      | nil => cases h2
      | cons n ns =>
        cases h2
        refine ⟨_, n :: ns, rfl, h.sq, by simp, fun m hm hy => ?_⟩
        obtain ⟨q1, q2, q3⟩ := least_is ns n
        have e1 : least n ns ≤ m := by
          rcases List.mem_cons.mp hm with e | hm
          · rw [e]; exact q2
          · exact q3 m hm
        have e2 : m ≤ least n ns := by
          rcases q1 with e | e
          · rw [e]; exact hy n (List.mem_cons_self ..)
          · exact hy _ (List.mem_cons_of_mem _ e)
        rw [Int.le_antisymm e2 e1]
        exact k _ F H (.refl hd) (.int _)
  · cases e
end
end Sm
namespace Sm
open PySem PySem.Spec PyProof.Rows L2
variable [Tb]
def ins (x : Int) : List Int → List Int
  | [] => [x]
  | y :: ys => if x ≤ y then x :: y :: ys else y :: ins x ys
def isort : List Int → List Int
  | [] => []
  | x :: xs => ins x (isort xs)
theorem ins_perm (x : Int) : ∀ ys, (ins x ys).Perm (x :: ys)
  | [] => .refl _
  | y :: ys => by
    unfold ins
    split
    · exact .refl _
    · exact ((ins_perm x ys).cons y).trans (.swap ..)
theorem ins_mem {x z : Int} : ∀ {ys}, z ∈ ins x ys → z = x ∨ z ∈ ys := fun {ys} h => List.mem_cons.mp ((ins_perm x ys).mem_iff.mp h)
theorem ins_sorted (x : Int) : ∀ ys : List Int, ys.Pairwise (· ≤ ·) → (ins x ys).Pairwise (· ≤ ·)
  | [], _ => by simp [ins]
  | y :: ys, h => by
    rw [List.pairwise_cons] at h
    unfold ins
    split
    · rename_i hx
      refine List.pairwise_cons.mpr ⟨fun z hz => ?_, List.pairwise_cons.mpr h⟩
      rcases List.mem_cons.mp hz with e | hz
      · omega
      · have := h.1 z hz; omega
    · refine List.pairwise_cons.mpr ⟨fun z hz => ?_, ins_sorted x ys h.2⟩
      rcases ins_mem hz with e | hz
      · omega
      · exact h.1 z hz
theorem isort_perm : ∀ xs : List Int, (isort xs).Perm xs
  | [] => .refl _
  | x :: xs => (ins_perm x _).trans ((isort_perm xs).cons x)
theorem isort_sorted : ∀ xs : List Int, (isort xs).Pairwise (· ≤ ·)
  | [] => .nil
  | x :: xs => ins_sorted x _ (isort_sorted xs)
theorem sorted_one : ∀ {xs ys : List Int}, xs.Perm ys → xs.Pairwise (· ≤ ·) → ys.Pairwise (· ≤ ·) → xs = ys
  | [], ys, p, _, _ => (List.Perm.nil_eq p)
  | x :: xs, [], p, _, _ => absurd p.length_eq (by simp)
  | x :: xs, y :: ys, p, h1, h2 => by
    rw [List.pairwise_cons] at h1 h2
    have e : x = y := by
      have a : y ∈ x :: xs := p.mem_iff.mpr (List.mem_cons_self ..)
      have b : x ∈ y :: ys := p.mem_iff.mp (List.mem_cons_self ..)
      have a' : x ≤ y := by
        rcases List.mem_cons.mp a with q | q
        · omega
        · exact h1.1 y q
      have b' : y ≤ x := by
        rcases List.mem_cons.mp b with q | q
        · omega
        · exact h2.1 x q
      omega
    subst e
    rw [sorted_one (p.cons_inv) h1.2 h2.2]
/-- sorted(a list of ints) -/
def sortL : List PyData → Option (List PyData)
  | [.list xs] => (intsOf xs).map fun ns => (isort ns).map .int
  | _ => none
theorem ok_sortL {K : PySem.W.Frag} : ClOkL K (rSortedI K) sortL := fun F H xs ds dz Q hd r e k => by
  unfold sortL at e
  split at e
  · rw [Option.map_eq_some_iff] at e
    obtain ⟨ns, h1, rfl⟩ := e
    have := intsOf_eq h1
    subst this
    obtain ⟨v, rfl, rv⟩ := r.one
    cases rv with
    | lst h rr =>
      have := rr.of_ints
      subst this
      refine ⟨_, ns, rfl, h.sq, fun ns' p hp hs hn => ?_⟩
      have := sorted_one (hp.trans (isort_perm ns).symm) hs (isort_sorted ns)
      subst this
      exact newOwn hd hn (Reps.ints _) k
  · cases e
end Sm
namespace Sm
open PySem PySem.Spec PyProof.Rows L2
variable [Tb]
/-! ### sorted: fewer than 64 tuples, all of the same number of ints, none negative -/
def lexLe : List Int → List Int → Bool
  | [], _ => true
  | _ :: _, [] => false
  | x :: xs, y :: ys => decide (x < y) || (decide (x = y) && lexLe xs ys)
theorem lex_code {B : Int} : ∀ {a b : List Int}, a.length = b.length → TS.Bd B a → TS.Bd B b → (lexLe a b = true ↔ TS.code B a ≤ TS.code B b)
  | [], [], _, _, _ => by simp [lexLe]
  | x :: a, y :: b, hl, h1, h2 => by
    have hm : a.length = b.length := by simpa using hl
    have ih := lex_code hm h1.tail h2.tail
    unfold lexLe
    rcases Int.lt_trichotomy x y with q | q | q
    · have := TS.code_lt hm h1.tail h2.tail q
      simp only [q, decide_true, Bool.true_or, true_iff]
      omega
    · subst q
      have := TS.code_same (B := B) (d := x) hm.symm
      simp only [Int.lt_irrefl, decide_false, decide_true, Bool.false_or, Bool.true_and, ih]
      omega
    · have := TS.code_lt hm.symm h2.tail h1.tail q
      simp only [show ¬ x < y by omega, show ¬ x = y by omega, decide_false, Bool.false_or, Bool.false_and, Bool.false_eq_true, false_iff]
      omega
  | [], _ :: _, h, _, _ => by simp at h
  | _ :: _, [], h, _, _ => by simp at h
theorem code_inj {B : Int} : ∀ {a b : List Int}, a.length = b.length → TS.Bd B a → TS.Bd B b → TS.code B a = TS.code B b → a = b
  | [], [], _, _, _, _ => rfl
  | x :: a, y :: b, hl, h1, h2, e => by
    have hm : a.length = b.length := by simpa using hl
    rcases Int.lt_trichotomy x y with q | q | q
    · have := TS.code_lt hm h1.tail h2.tail q
      omega
    · subst q
      have e1 := TS.code_same (B := B) (d := x) hm
      have e2 := TS.code_same (B := B) (d := x) hm.symm
      rw [code_inj hm h1.tail h2.tail (by omega)]
    · have := TS.code_lt hm.symm h2.tail h1.tail q
      omega
  | [], _ :: _, h, _, _, _ => by simp at h
  | _ :: _, [], h, _, _, _ => by simp at h
end Sm
namespace Sm
open PySem PySem.Spec PyProof.Rows L2
variable [Tb]
def rowOf : PyData → Option (List Int)
  | .tuple xs => intsOf xs
  | _ => none
def rowsOf : List PyData → Option (List (List Int))
  | [] => some []
  | x :: r => (rowOf x).bind fun ns => (rowsOf r).map (ns :: ·)
def rowD (ns : List Int) : PyData := .tuple (ns.map .int)
theorem rowOf_eq {d : PyData} {ns : List Int} (h : rowOf d = some ns) : d = rowD ns := by
  unfold rowOf at h
  split at h
  · rw [intsOf_eq h]; rfl
  · cases h
theorem rowsOf_eq : ∀ {ds : List PyData} {rs : List (List Int)}, rowsOf ds = some rs → ds = rs.map rowD
  | [], _, h => by cases h; rfl
  | x :: r, _, h => by
    unfold rowsOf at h
    rw [Option.bind_eq_some_iff] at h
    obtain ⟨ns, h1, h2⟩ := h
    rw [Option.map_eq_some_iff] at h2
    obtain ⟨rs, h3, rfl⟩ := h2
    rw [rowOf_eq h1, rowsOf_eq h3]
    rfl
def insT (x : List Int) : List (List Int) → List (List Int)
  | [] => [x]
  | y :: ys => if lexLe x y = true then x :: y :: ys else y :: insT x ys
def isortT : List (List Int) → List (List Int)
  | [] => []
  | x :: xs => insT x (isortT xs)
theorem insT_perm (x : List Int) : ∀ ys, (insT x ys).Perm (x :: ys)
  | [] => .refl _
  | y :: ys => by
    unfold insT
    split
    · exact .refl _
    · exact ((insT_perm x ys).cons y).trans (.swap ..)
theorem isortT_perm : ∀ xs : List (List Int), (isortT xs).Perm xs
  | [] => .refl _
  | x :: xs => (insT_perm x _).trans ((isortT_perm xs).cons x)
end Sm
namespace Sm
open PySem PySem.Spec PyProof.Rows L2
variable [Tb]
/-- all of d ints in [0, B) -/
def RowsIn (d : Nat) (B : Int) (rs : List (List Int)) : Prop := ∀ r ∈ rs, r.length = d ∧ TS.Bd B r
theorem RowsIn.perm {d : Nat} {B : Int} {rs ss : List (List Int)} (h : RowsIn d B rs) (p : ss.Perm rs) : RowsIn d B ss := fun r hr => h r (p.mem_iff.mp hr)
theorem insT_sorted {d : Nat} {B : Int} (x : List Int) (hx : x.length = d ∧ TS.Bd B x) : ∀ ys : List (List Int), RowsIn d B ys → ys.Pairwise (fun a b => TS.code B a ≤ TS.code B b) → (insT x ys).Pairwise (fun a b => TS.code B a ≤ TS.code B b)
  | [], _, _ => by simp [insT]
  | y :: ys, hy, h => by
    rw [List.pairwise_cons] at h
    have h0 := hy y (List.mem_cons_self ..)
    have hc := lex_code (hx.1.trans h0.1.symm) hx.2 h0.2
    unfold insT
    split
    · rename_i q
      have q := hc.mp q
      refine List.pairwise_cons.mpr ⟨fun z hz => ?_, List.pairwise_cons.mpr h⟩
      rcases List.mem_cons.mp hz with e | hz
      · rw [e]; exact q
      · exact Int.le_trans q (h.1 z hz)
    · rename_i q
      have q : TS.code B y ≤ TS.code B x := by
        have : ¬ TS.code B x ≤ TS.code B y := fun w => q (hc.mpr w)
        omega
      refine List.pairwise_cons.mpr ⟨fun z hz => ?_, insT_sorted x hx ys (fun r hr => hy r (List.mem_cons_of_mem _ hr)) h.2⟩
      rcases List.mem_cons.mp ((insT_perm x ys).mem_iff.mp hz) with e | hz
      · rw [e]; exact q
      · exact h.1 z hz
theorem isortT_sorted {d : Nat} {B : Int} : ∀ xs : List (List Int), RowsIn d B xs → (isortT xs).Pairwise (fun a b => TS.code B a ≤ TS.code B b)
  | [], _ => .nil
  | x :: xs, h => insT_sorted x (h x (List.mem_cons_self ..)) _ (RowsIn.perm (fun r hr => h r (List.mem_cons_of_mem _ hr)) (isortT_perm xs)) (isortT_sorted xs fun r hr => h r (List.mem_cons_of_mem _ hr))
theorem sortedT_one {d : Nat} {B : Int} : ∀ {xs ys : List (List Int)}, xs.Perm ys → RowsIn d B ys → xs.Pairwise (fun a b => TS.code B a ≤ TS.code B b) → ys.Pairwise (fun a b => TS.code B a ≤ TS.code B b) → xs = ys
  | [], ys, p, _, _, _ => (List.Perm.nil_eq p)
  | x :: xs, [], p, _, _, _ => absurd p.length_eq (by simp)
  | x :: xs, y :: ys, p, hr, h1, h2 => by
    rw [List.pairwise_cons] at h1 h2
    have a : y ∈ x :: xs := p.mem_iff.mpr (List.mem_cons_self ..)
    have b : x ∈ y :: ys := p.mem_iff.mp (List.mem_cons_self ..)
    have a' : TS.code B x ≤ TS.code B y := by
      rcases List.mem_cons.mp a with q | q
      · rw [q]; exact Int.le_refl _
      · exact h1.1 y q
    have b' : TS.code B y ≤ TS.code B x := by
      rcases List.mem_cons.mp b with q | q
      · rw [q]; exact Int.le_refl _
      · exact h2.1 x q
    have hx := hr x b
    have hy := hr y (List.mem_cons_self ..)
    have e : x = y := code_inj (hx.1.trans hy.1.symm) hx.2 hy.2 (by omega)
    subst e
    rw [sortedT_one (p.cons_inv) (fun r h => hr r (List.mem_cons_of_mem _ h)) h1.2 h2.2]
theorem Reps.perm {K : PySem.W.Frag} {F : Fz} {H : Hp} {xs ys : List V} (p : ys.Perm xs) : ∀ {ds : List PyData}, Reps K F H xs ds → ∃ es, es.Perm ds ∧ Reps K F H ys es := by
  induction p with
  | nil => intro ds r; exact ⟨ds, .refl _, r⟩
  | cons x _ ih =>
    intro ds r
    cases r with
    | cons h r =>
      obtain ⟨es, p, q⟩ := ih r
      exact ⟨_ :: es, p.cons _, .cons h q⟩
  | swap x y l =>
    intro ds r
    cases r with
    | cons h r =>
      cases r with
      | cons g r => exact ⟨_, .swap .., .cons g (.cons h r)⟩
  | trans _ _ ih1 ih2 =>
    intro ds r
    obtain ⟨es, p, q⟩ := ih2 r
    obtain ⟨fs, p2, q2⟩ := ih1 q
    exact ⟨fs, p2.trans p, q2⟩
end Sm
namespace Sm
open PySem PySem.Spec PyProof.Rows L2
variable [Tb]
theorem rows_of_perm : ∀ {es : List PyData} {rs : List (List Int)}, es.Perm (rs.map rowD) → ∃ ss : List (List Int), es = ss.map rowD ∧ ss.Perm rs := fun {es rs} p => by
  have hm : ∀ e ∈ es, ∃ r, e = rowD r := fun e he => by
    obtain ⟨r, _, q⟩ := List.mem_map.mp (p.mem_iff.mp he)
    exact ⟨r, q.symm⟩
  have : ∃ ss : List (List Int), es = ss.map rowD := by
    clear p
    induction es with
    | nil => exact ⟨[], rfl⟩
    | cons e es ih =>
      obtain ⟨r, rfl⟩ := hm e (List.mem_cons_self ..)
      obtain ⟨ss, rfl⟩ := ih fun f hf => hm f (List.mem_cons_of_mem _ hf)
      exact ⟨r :: ss, rfl⟩
  obtain ⟨ss, rfl⟩ := this
  refine ⟨ss, rfl, ?_⟩
  have inj : ∀ a b : List Int, rowD a = rowD b → a = b := fun a b h => by
    have h : a.map PyData.int = b.map PyData.int := by injection h
    have := congrArg intsOf h
    rw [intsOf_ints, intsOf_ints] at this
    exact Option.some.inj this
  have g : ∀ l : List (List Int), (l.map rowD).filterMap rowOf = l := fun l => by
    induction l with
    | nil => rfl
    | cons a l ih =>
      rw [List.map_cons, List.filterMap_cons]
      have : rowOf (rowD a) = some a := intsOf_ints a
      rw [this, ih]
  have q := p.filterMap rowOf
  rw [g, g] at q
  exact q
/-- B above all the entries -/
def topB (rs : List (List Int)) : Int := 1 + most 0 rs.flatten
def rowsFit (rs : List (List Int)) : Bool := decide (rs.length < 64) && match rs with
  | [] => false
  | r :: _ => decide (1 ≤ r.length) && rs.all fun q => decide (q.length = r.length) && q.all fun i => decide (0 ≤ i)
theorem rowsFit_is {rs : List (List Int)} (h : rowsFit rs = true) : ∃ d, 1 ≤ d ∧ rs.length < 64 ∧ RowsIn d (topB rs) rs := by
  unfold rowsFit at h
  simp only [Bool.and_eq_true, decide_eq_true_eq] at h
  obtain ⟨h1, h2⟩ := h
  cases rs with
  | nil => cases h2
  | cons r t =>
    simp only [Bool.and_eq_true, decide_eq_true_eq, List.all_eq_true] at h2
    refine ⟨r.length, h2.1, h1, fun q hq => ⟨(h2.2 q hq).1, fun i hi => ⟨(h2.2 q hq).2 i hi, ?_⟩⟩⟩
    have := (most_is (r :: t).flatten 0).2.2 i (List.mem_flatten.mpr ⟨q, hq, hi⟩)
    unfold topB
    omega
/-- sorted(a list of tuples of ints) -/
def sortTL : List PyData → Option (List PyData)
  | [.list xs] => (rowsOf xs).bind fun rs => if rowsFit rs = true then some ((isortT rs).map rowD) else none
  | _ => none
def rSortTA (K : PySem.W.Frag) : List V → Hp → VK → Prop := fun vs H Q => ∃ (d : Nat) (B : Int), 1 ≤ d ∧ rSortU K d B vs H Q
theorem cr_sortTA {X : Cx} : CallR X (.builtin "sorted") (rSortTA X.K) := by
  intro pins s σ H vs us Q I r h
  obtain ⟨d, B, hd, h⟩ := h
  exact cr_sortT hd pins s σ H vs us Q I r h
theorem Rep.tupI {K : PySem.W.Frag} {F : Fz} {H : Hp} {v : V} {ns : List Int} (r : Rep K F H v (rowD ns)) : TupI K H v ns := by
  unfold rowD at r
  cases r with
  | tup h rr =>
    have := rr.of_ints
    subst this
    exact ⟨_, rfl, h.sq⟩
theorem ok_sortTL {K : PySem.W.Frag} : ClOkL K (rSortTA K) sortTL := fun F H xs ds dz Q hd r e k => by
  unfold sortTL at e
  split at e
  · rw [Option.bind_eq_some_iff] at e
    obtain ⟨rs, h1, h2⟩ := e
    split at h2
    · rename_i hf
      cases h2
      have := rowsOf_eq h1
      subst this
      obtain ⟨d, hd1, h64, hin⟩ := rowsFit_is hf
      obtain ⟨v, rfl, rv⟩ := r.one
      cases rv with
      | lst h rr =>
        refine ⟨d, topB rs, hd1, _, _, rfl, h.sq, by rw [rr.length, List.length_map]; exact h64, fun x hx => ?_, fun ys p hp hs hn => ?_⟩
        · obtain ⟨j, hj, rfl⟩ := List.mem_iff_getElem.mp hx
          obtain ⟨c, hc, hr⟩ := rr.got (List.getElem?_eq_getElem hj)
          rw [List.getElem?_map, Option.map_eq_some_iff] at hc
          obtain ⟨ns, hns, rfl⟩ := hc
          have := hin ns (List.mem_of_getElem? hns)
          exact ⟨ns, hr.tupI, this.1, this.2⟩
        · obtain ⟨es, hes, hre⟩ := Reps.perm hp rr
          obtain ⟨ss, rfl, hss⟩ := rows_of_perm hes
          have hsrt : ss.Pairwise (fun a b => TS.code (topB rs) a ≤ TS.code (topB rs) b) := by
            clear hp hss hes hn k
            induction ss generalizing ys with
            | nil => exact .nil
            | cons a ss ih =>
              cases hre with
              | cons g q =>
                rw [List.pairwise_cons] at hs
                refine List.pairwise_cons.mpr ⟨fun b hb => ?_, ih _ hs.2 q⟩
                obtain ⟨j, hj, rfl⟩ := List.mem_iff_getElem.mp hb
                obtain ⟨w, hw, hr⟩ := q.get (i := j) (d := rowD ss[j]) (by rw [List.getElem?_map, List.getElem?_eq_getElem hj]; rfl)
                exact hs.1 w (List.mem_of_getElem? hw) a ss[j] g.tupI hr.tupI
          have := sortedT_one (hss.trans (isortT_perm rs).symm) (hin.perm (isortT_perm rs)) hsrt (isortT_sorted rs hin)
          subst this
          exact newOwn hd hn hre k
    · cases h2
  · cases e
end Sm
namespace Sm
open PySem PySem.Spec PyProof.Rows L2
variable [Tb]
/-! ### (*x, ..): items of a list or tuple in a display or a call -/
@[simp] def aStar (fe : EF) (fs : LF) : LF := fun env => match fe env with
  | some (d, e1) => match itD d with
    | some xs => match fs e1 with
      | some (ds, e2) => some (xs ++ ds, e2)
      | none => none
    | none => none
  | none => none
theorem sa_star {X : Cx} {e : Expr} {es : List Expr} {fe : EF} {fs : LF} {p : Pos} (he : SE X e fe) (hr : SA X es fs) (hs : starEach (.Starred e p :: es) X.env = (true, eval e X.env) :: starEach es X.env := by rfl) : SA X (.Starred e p :: es) (aStar fe fs) := PA.imp (StX.pa_star he hr hs) fun σ H Q ⟨B, F, env, d, env', R, e, k⟩ => by
  unfold aStar at e
  split at e
  · rename_i d1 e1 h1
    split at e
    · rename_i xs hx
      split at e
      · rename_i ds e2 h2
        cases e
        refine ⟨B, F, env, d1, e1, R, h1, fun v F1 H1 E1 R1 r1 => ?_⟩
        unfold itD at hx
        split at hx
        · cases hx
          cases r1 with
          | lst h r =>
            exact ⟨_, _, rfl, .inr h.sq, B, F1, e1, ds, env', R1, h2, fun vs F2 H2 E2 R2 r2 => k _ F2 H2 (E1.trans E2) R2 ((E2.reps R1 r).append r2)⟩
        · cases hx
          cases r1 with
          | tup h r =>
            exact ⟨_, _, rfl, .inl h.sq, B, F1, e1, ds, env', R1, h2, fun vs F2 H2 E2 R2 r2 => k _ F2 H2 (E1.trans E2) R2 ((E2.reps R1 r).append r2)⟩
        · cases hx
          cases r1 with
          | scr h =>
            exact ⟨_, _, rfl, .inr h.sq, B, F1, e1, ds, env', R1, h2, fun vs F2 H2 E2 R2 r2 => k _ F2 H2 (E1.trans E2) R2 ((E2.reps R1 (Reps.ints _)).append r2)⟩
        · cases hx
      · cases e
    · cases e
  · cases e
end Sm
namespace Sm
open PySem PySem.Spec PyProof.Rows L2
variable [Tb]
/-! ### x in a list of plain data -/
def inOkD (d : PyData) (ds : List PyData) : Bool := !d.hasDict && !(PyData.list ds).hasDict && SeqAt.shaped d && SeqAt.shaped (.list ds)
def rInTD (K : PySem.W.Frag) (neg : Bool) : R2 := fun x y H Q => ∃ d ds, Dp K H x d ∧ Dp K H y (.tuple ds) ∧ SeqAt.shaped d = true ∧ SeqAt.shaped (.tuple ds) = true ∧ Q (.bl (if neg = true then !ds.any (fun z => PyData.eqv z d) else ds.any fun z => PyData.eqv z d)) H
theorem op_inTD {X : Cx} (hu : X.A.units + 65 < cLine) : OpR X (compareOp .In) (rInTD X.K false) := by
  intro pins s σ H x y v u Q I rx ry h
  obtain ⟨d, ds, hd, he, sd, se, q⟩ := h
  obtain ⟨_, r1⟩ := Dp.reads I d x v hd rx
  obtain ⟨_, r2⟩ := Dp.reads I (.tuple ds) y u he ry
  exact SeqAt.in_tuple_reads r2 r1 (SeqAt.canLay_of_shaped se) (SeqAt.canLay_of_shaped sd) (room_in_shaped sd hu) ⟨.bl _, H, I, rfl, q⟩
theorem op_notInTD {X : Cx} (hu : X.A.units + 65 < cLine) : OpR X (compareOp .NotIn) (rInTD X.K true) := by
  intro pins s σ H x y v u Q I rx ry h
  obtain ⟨d, ds, hd, he, sd, se, q⟩ := h
  obtain ⟨_, r1⟩ := Dp.reads I d x v hd rx
  obtain ⟨_, r2⟩ := Dp.reads I (.tuple ds) y u he ry
  exact SeqAt.notIn_tuple_reads r2 r1 (SeqAt.canLay_of_shaped se) (SeqAt.canLay_of_shaped sd) (room_in_shaped sd hu) ⟨.bl _, H, I, rfl, q⟩
def inD (d e : PyData) : Option PyData := match e with
  | .list ds => if inOkD d ds = true then some (.bool (ds.any fun z => PyData.eqv z d)) else none
  | .tuple ds => if inOkD d ds = true then some (.bool (ds.any fun z => PyData.eqv z d)) else none
  | _ => none
def notInD (d e : PyData) : Option PyData := match e with
  | .list ds => if inOkD d ds = true then some (.bool (!ds.any fun z => PyData.eqv z d)) else none
  | .tuple ds => if inOkD d ds = true then some (.bool (!ds.any fun z => PyData.eqv z d)) else none
  | _ => none
theorem shaped_lt {ds : List PyData} (h : SeqAt.shaped (.list ds) = true) : SeqAt.shaped (.tuple ds) = true := by
  unfold SeqAt.shaped at h ⊢
  simp only [PyData.canLay0, PyData.depth, Bool.and_eq_true, decide_eq_true_eq] at h ⊢
  exact h
theorem hasDict_lt {ds : List PyData} (h : (PyData.list ds).hasDict = false) : (PyData.tuple ds).hasDict = false := by
  simpa only [PyData.hasDict] using h
def rInA (K : PySem.W.Frag) : R2 := fun x y H Q => rInD K x y H Q ∨ rInTD K false x y H Q
def rNotInA (K : PySem.W.Frag) : R2 := fun x y H Q => rNotInD K x y H Q ∨ rInTD K true x y H Q
theorem op_inA {X : Cx} (hu : X.A.units + 65 < cLine) : OpR X (compareOp .In) (rInA X.K) := (op_inD hu).or (op_inTD hu)
theorem op_notInA {X : Cx} (hu : X.A.units + 65 < cLine) : OpR X (compareOp .NotIn) (rNotInA X.K) := (op_notInD hu).or (op_notInTD hu)
section
variable {K : PySem.W.Frag}
theorem ok_in : OpOk K (rInA K) inD := fun F H x y dx dy dz Q hd rx ry e k => by
  unfold inD at e
  split at e
  · split at e
    · rename_i h
      cases e
      simp only [inOkD, Bool.and_eq_true, Bool.not_eq_true'] at h
      exact .inl ⟨dx, _, rx.dp h.1.1.1, ry.dp h.1.1.2, h.1.2, h.2, k _ F H (.refl hd) (.bool _)⟩
    · cases e
  · split at e
    · rename_i h
      cases e
      simp only [inOkD, Bool.and_eq_true, Bool.not_eq_true'] at h
      exact .inr ⟨dx, _, rx.dp h.1.1.1, ry.dp (hasDict_lt h.1.1.2), h.1.2, shaped_lt h.2, k _ F H (.refl hd) (.bool _)⟩
    · cases e
  · cases e
theorem ok_notIn : OpOk K (rNotInA K) notInD := fun F H x y dx dy dz Q hd rx ry e k => by
  unfold notInD at e
  split at e
  · split at e
    · rename_i h
      cases e
      simp only [inOkD, Bool.and_eq_true, Bool.not_eq_true'] at h
      exact .inl ⟨dx, _, rx.dp h.1.1.1, ry.dp h.1.1.2, h.1.2, h.2, k _ F H (.refl hd) (.bool _)⟩
    · cases e
  · split at e
    · rename_i h
      cases e
      simp only [inOkD, Bool.and_eq_true, Bool.not_eq_true'] at h
      exact .inr ⟨dx, _, rx.dp h.1.1.1, ry.dp (hasDict_lt h.1.1.2), h.1.2, shaped_lt h.2, k _ F H (.refl hd) (.bool _)⟩
    · cases e
  · cases e
end
end Sm
namespace Sm
open PySem PySem.Spec PyProof.Rows L2
variable [Tb]
theorem bt_all : bootBuiltins "all" = some (.builtin "all") := by decide +kernel
theorem bt_any : bootBuiltins "any" = some (.builtin "any") := by decide +kernel
theorem bt_sorted : bootBuiltins "sorted" = some (.builtin "sorted") := by decide +kernel
/-- sorted of ints, or of rows of ints -/
def sortD (xs : List PyData) : Option (List PyData) := match sortL xs with
  | some r => some r
  | none => sortTL xs
def rSortAny (K : PySem.W.Frag) : List V → Hp → VK → Prop := fun vs H Q => rSortedI K vs H Q ∨ rSortTA K vs H Q
theorem cr_sortAny {X : Cx} : CallR X (.builtin "sorted") (rSortAny X.K) := cr_sortedI.or cr_sortTA
theorem ok_sort {K : PySem.W.Frag} : ClOkL K (rSortAny K) sortD := fun F H xs ds dz Q hd r e k => by
  unfold sortD at e
  split at e
  · rename_i h
    cases e
    exact .inl (ok_sortL F H xs ds _ Q hd r h k)
  · exact .inr (ok_sortTL F H xs ds dz Q hd r e k)
section
variable {X : Cx} {e : Expr} {es : List Expr} {fs : LF} {p pos : Pos} {x : Str} {id : String} {r : List V → Hp → VK → Prop}
theorem s_bL {o : List PyData → Option (List PyData)} (hc : CallR X (.builtin id) r) (ok : ClOkL X.K r o) (hm : X.mg x = none) (hv : bootBuiltins x = some (.builtin id)) (ha : SA X (e :: es) fs) (hg : Gl X x := by rfl) (hn : x ≠ "__name__" := by decide) (hdb : (x == ("__debug__" : Str)) = false := by decide)
    (he : starEach (e :: es) X.env = (false, eval e X.env) :: starEach es X.env := by rfl) (hpl : (backTo pos (starEach es X.env)).any (·.1) = false := by rfl) : SL X (.Call (.Name x p) (e :: es) [] pos) (calL o fs) :=
  PE.imp (pe_callB hc hg hm hv ha hn hdb he hpl) fun _ _ _ h => tCBL_of ok h
end
end Sm

set_option Elab.async false
set_option linter.all false
/-! SimD: loops and comprehensions over coded lists. -/
namespace Sm
open PySem PySem.Spec PyProof.Rows L2
/-- a for whose turns go on: σ what it carries, J what its other slots happen to hold -/
theorem forF_fold {σ α J : Type} {g : GF} {b : SF} (E : σ → J → En) (dec : α → PyData) (step : σ → α → σ) (I : σ → Prop) : ∀ (xs : List α) (s : σ) (j : J), I s →
    (∀ s j a, a ∈ xs → I s → ∃ e1 j', g (dec a) (E s j) = some e1 ∧ b e1 = some (.nx, E (step s a) j') ∧ I (step s a)) →
    ∃ j', forF g b (xs.map dec) (E s j) = some (.nx, E (xs.foldl step s) j') ∧ I (xs.foldl step s)
  | [], s, j, hi, _ => ⟨j, rfl, hi⟩
  | a :: xs, s, j, hi, h => by
    obtain ⟨e1, j1, h1, h2, h3⟩ := h s j a (List.mem_cons_self ..) hi
    obtain ⟨j', h4, h5⟩ := forF_fold E dec step I xs (step s a) j1 h3 fun s j c hc => h s j c (List.mem_cons_of_mem _ hc)
    refine ⟨j', ?_, h5⟩
    rw [List.map_cons, forF_nx h1 h2, h4, List.foldl_cons]
/-- a for that may return from a turn -/
theorem forF_find {α J : Type} {g : GF} {b : SF} (E : J → En) (dec : α → PyData) (r : α → Option PyData) : ∀ (xs : List α) (j : J),
    (∀ j a, a ∈ xs → ∃ e1, g (dec a) (E j) = some e1 ∧ ((r a = none ∧ ∃ j', b e1 = some (.nx, E j')) ∨ ∃ d j', r a = some d ∧ b e1 = some (.rt d, E j'))) →
    ∃ j', (∃ d, xs.findSome? r = some d ∧ forF g b (xs.map dec) (E j) = some (.rt d, E j')) ∨ (xs.findSome? r = none ∧ forF g b (xs.map dec) (E j) = some (.nx, E j'))
  | [], j, _ => ⟨j, .inr ⟨rfl, rfl⟩⟩
  | a :: xs, j, h => by
    obtain ⟨e1, h1, h2⟩ := h j a (List.mem_cons_self ..)
    rcases h2 with ⟨h2, j1, h3⟩ | ⟨d, j1, h2, h3⟩
    · obtain ⟨j', q⟩ := forF_find E dec r xs j1 fun j c hc => h j c (List.mem_cons_of_mem _ hc)
      refine ⟨j', ?_⟩
      rw [List.map_cons, List.findSome?_cons, h2, forF_nx h1 h3]
      exact q
    · refine ⟨j1, .inl ⟨d, ?_, ?_⟩⟩
      · rw [List.findSome?_cons, h2]
      · rw [List.map_cons, forF_rt h1 h3]
/-- the flow of a for that may return -/
def retOr : Option PyData → Fl
  | some d => .rt d
  | none => .nx
/-- a for over a range that may return from a turn; at a turn it is known that none before did -/
theorem forF_rfind {J : Type} {g : GF} {b : SF} {lo : Int} (E : J → En) (r : Nat → Option PyData) (n : Nat)
    (h : ∀ t, t < n → (∀ s, s < t → r s = none) → ∀ j, ∃ e1 j', g (.int (lo + (t : Nat))) (E j) = some e1 ∧ b e1 = some (retOr (r t), E j')) :
    ∀ j, ∃ j', forF g b (rngL lo n) (E j) = some (retOr ((List.range n).findSome? r), E j') := by
  have key : ∀ (m k : Nat) (j : J), k + m = n → (∀ s, s < k → r s = none) → ∃ j', forF g b ((List.range' k m).map fun i => PyData.int (lo + (i : Nat))) (E j) = some (retOr ((List.range' k m).findSome? r), E j') := by
    intro m
    induction m with
    | zero => intro k j _ _; exact ⟨j, rfl⟩
    | succ m ih =>
      intro k j hk hs
      obtain ⟨e1, j1, h1, h2⟩ := h k (by omega) hs j
      rw [List.range'_succ, List.map_cons, List.findSome?_cons]
      cases q : r k with
      | none =>
        rw [q] at h2
        obtain ⟨j', h3⟩ := ih (k + 1) j1 (by omega) fun s hs' => by
          by_cases e : s = k
          · rw [e]; exact q
          · exact hs s (by omega)
        exact ⟨j', (forF_nx h1 h2).trans h3⟩
      | some d =>
        rw [q] at h2
        exact ⟨j1, forF_rt h1 h2⟩
  intro j
  have := key n 0 j (by omega) fun s hs => absurd hs (Nat.not_lt_zero _)
  rw [← List.range_eq_range'] at this
  exact this
theorem rngL_map (n : Nat) : rngL 0 n = (List.range n).map fun i => .int ((i : Nat) : Int) := by
  unfold rngL
  exact List.map_congr_left fun i _ => by rw [Int.zero_add]
theorem rngL_map2 (lo : Int) (n : Nat) : rngL lo n = (List.range n).map fun i => .int (lo + (i : Nat)) := rfl
/-- a comprehension whose steps leave the frame as it was -/
theorem lcF_fm {α : Type} {fi : LF} {g : GF} {ft : TF} {fe : EF} {vs : List Nat} {env env1 : En} (dec : α → PyData) (r : α → Option PyData) (xs : List α)
    (hi : fi env = some (xs.map dec, env1)) (hl : xs.length ≤ 16777216) (hn : noOw env1 vs = true)
    (h : ∀ a ∈ xs, ∃ e1 e2, g (dec a) (wipeE env1 vs) = some e1 ∧ ((ft e1 = some (false, e2) ∧ r a = none ∧ wipeE e2 vs = wipeE env1 vs) ∨ (∃ e3 x, ft e1 = some (true, e2) ∧ fe e2 = some (x, e3) ∧ r a = some x ∧ wipeE e3 vs = wipeE env1 vs))) :
    lcF fi g ft fe vs env = some (xs.filterMap r, mrg env1 (wipeE env1 vs) vs) := by
  refine lcF_eq hi (by rw [List.length_map, sizeLineS]; exact hl) hn ?_
  have key : ∀ l : List α, (∀ a ∈ l, a ∈ xs) → lcL g ft fe vs (l.map dec) (wipeE env1 vs) = some (l.filterMap r, wipeE env1 vs) := by
    intro l
    induction l with
    | nil => intro _; rfl
    | cons a l ih =>
      intro hm
      have ih := ih fun c hc => hm c (List.mem_cons_of_mem _ hc)
      obtain ⟨e1, e2, h1, h2⟩ := h a (hm a (List.mem_cons_self ..))
      rw [List.map_cons]
      unfold lcL
      rw [h1]
      dsimp only
      rcases h2 with ⟨h2, h3, h4⟩ | ⟨e3, x, h2, h3, h4, h5⟩
      · rw [h2]; dsimp only; rw [h4, ih, List.filterMap_cons, h3]
      · rw [h2]; dsimp only; rw [h3]; dsimp only; rw [h5, ih, List.filterMap_cons, h4]
  exact key xs fun _ h => h
theorem fm_some {α β : Type} (f : α → β) : ∀ xs : List α, xs.filterMap (fun a => some (f a)) = xs.map f
  | [] => rfl
  | a :: xs => by rw [List.filterMap_cons, fm_some f xs]; rfl
theorem lcF_map {α : Type} {fi : LF} {g : GF} {fe : EF} {vs : List Nat} {env env1 : En} (dec : α → PyData) (f : α → PyData) (xs : List α)
    (hi : fi env = some (xs.map dec, env1)) (hl : xs.length ≤ 16777216) (hn : noOw env1 vs = true)
    (h : ∀ a ∈ xs, ∃ e1 e2, g (dec a) (wipeE env1 vs) = some e1 ∧ fe e1 = some (f a, e2) ∧ wipeE e2 vs = wipeE env1 vs) :
    lcF fi g yesF fe vs env = some (xs.map f, mrg env1 (wipeE env1 vs) vs) := by
  rw [lcF_fm dec (fun a => some (f a)) xs hi hl hn fun a ha => ?_, fm_some]
  obtain ⟨e1, e2, h1, h2, h3⟩ := h a ha
  exact ⟨e1, e1, h1, .inr ⟨e2, f a, rfl, h2, rfl, h3⟩⟩
/-- with a test -/
theorem lcF_flt {α : Type} {fi : LF} {g : GF} {ft : TF} {fe : EF} {vs : List Nat} {env env1 : En} (dec : α → PyData) (p : α → Bool) (f : α → PyData) (xs : List α)
    (hi : fi env = some (xs.map dec, env1)) (hl : xs.length ≤ 16777216) (hn : noOw env1 vs = true)
    (h : ∀ a ∈ xs, ∃ e1 e2, g (dec a) (wipeE env1 vs) = some e1 ∧ ft e1 = some (p a, e2) ∧ (p a = false → wipeE e2 vs = wipeE env1 vs) ∧ (p a = true → ∃ e3, fe e2 = some (f a, e3) ∧ wipeE e3 vs = wipeE env1 vs)) :
    lcF fi g ft fe vs env = some ((xs.filter p).map f, mrg env1 (wipeE env1 vs) vs) := by
  rw [lcF_fm dec (fun a => if p a = true then some (f a) else none) xs hi hl hn fun a ha => ?_]
  · congr 2
    have : ∀ l : List α, l.filterMap (fun a => if p a = true then some (f a) else none) = (l.filter p).map f := by
      intro l
      induction l with
      | nil => rfl
      | cons a l ih =>
        rw [List.filterMap_cons, List.filter_cons, ih]
        by_cases q : p a = true <;> simp [q]
    exact this xs
  · obtain ⟨e1, e2, h1, h2, h3, h4⟩ := h a ha
    refine ⟨e1, e2, h1, ?_⟩
    by_cases q : p a = true
    · obtain ⟨e3, h5, h6⟩ := h4 q
      exact .inr ⟨e3, f a, by rw [h2, q], h5, if_pos q, h6⟩
    · have q : p a = false := by simpa using q
      exact .inl ⟨by rw [h2, q], by simp [q], h3 q⟩
/-- a comprehension whose elements change what the frame carries -/
theorem lcF_st {α J : Type} {fi : LF} {g : GF} {fe : EF} {vs : List Nat} {env env1 : En} (E : J → En) (I : J → Prop) (dec : α → PyData) (P : α → PyData → Prop) (xs : List α) (j0 : J)
    (hi : fi env = some (xs.map dec, env1)) (hl : xs.length ≤ 16777216) (hn : noOw env1 vs = true) (he : wipeE env1 vs = E j0) (h0 : I j0)
    (h : ∀ a ∈ xs, ∀ j, I j → ∃ e1 e2 x j', g (dec a) (E j) = some e1 ∧ fe e1 = some (x, e2) ∧ P a x ∧ wipeE e2 vs = E j' ∧ I j') :
    ∃ ys j', lcF fi g yesF fe vs env = some (ys, mrg env1 (E j') vs) ∧ I j' ∧ ys.length = xs.length ∧ ∀ y ∈ ys, ∃ a ∈ xs, P a y := by
  have key : ∀ (l : List α) (j : J), (∀ a ∈ l, a ∈ xs) → I j → ∃ ys j', lcL g yesF fe vs (l.map dec) (E j) = some (ys, E j') ∧ I j' ∧ ys.length = l.length ∧ ∀ y ∈ ys, ∃ a ∈ xs, P a y := by
    intro l
    induction l with
    | nil => intro j _ hj; exact ⟨[], j, rfl, hj, rfl, fun y hy => nomatch hy⟩
    | cons a l ih =>
      intro j hm hj
      obtain ⟨e1, e2, x, j1, h1, h2, h3, h4, h5⟩ := h a (hm a (List.mem_cons_self ..)) j hj
      obtain ⟨ys, j', k1, k2, k3, k4⟩ := ih j1 (fun c hc => hm c (List.mem_cons_of_mem _ hc)) h5
      refine ⟨x :: ys, j', ?_, k2, by simp [k3], fun y hy => ?_⟩
      · rw [List.map_cons]
        unfold lcL
        rw [h1]
        dsimp only [yesF]
        rw [h2]
        dsimp only
        rw [h4, k1]
      · rcases List.mem_cons.mp hy with rfl | hy
        · exact ⟨a, hm a (List.mem_cons_self ..), h3⟩
        · exact k4 y hy
  obtain ⟨ys, j', k1, k2, k3, k4⟩ := key xs j0 (fun _ h => h) h0
  exact ⟨ys, j', lcF_eq hi (by rw [List.length_map, sizeLineS]; exact hl) hn (by rw [he]; exact k1), k2, k3, k4⟩
theorem ints_ex {P : Int → Prop} : ∀ {ys : List PyData}, (∀ y ∈ ys, ∃ i, y = .int i ∧ P i) → ∃ l : List Int, ys = l.map .int ∧ ∀ x ∈ l, P x
  | [], _ => ⟨[], rfl, fun x h => nomatch h⟩
  | y :: ys, h => by
    obtain ⟨i, rfl, hi⟩ := h y (List.mem_cons_self ..)
    obtain ⟨l, rfl, hl⟩ := ints_ex fun z hz => h z (List.mem_cons_of_mem _ hz)
    exact ⟨i :: l, rfl, fun x hx => by
      rcases List.mem_cons.mp hx with rfl | hx
      · exact hi
      · exact hl x hx⟩
/-! ### ints with sides that a discharger may show -/
section
variable {i j : Int}
theorem mulD_R (h1 : -18446744073709551616 < j) (h2 : j < 18446744073709551616) : mulD (.int i) (.int j) = some (.int (i * j)) := mulD_int (mulOk_r (by rw [p64]; omega))
theorem mulD_L (h1 : -18446744073709551616 < i) (h2 : i < 18446744073709551616) : mulD (.int i) (.int j) = some (.int (i * j)) := mulD_int (mulOk_l (by rw [p64]; omega))
theorem divOk_2 (h : 0 < j) (h2 : j < 18446744073709551616) : DivOk j := ⟨by omega, log64 (by omega) (by omega)⟩
theorem divD_n (h1 : 0 < j) (h2 : j < 18446744073709551616) : divD (.int i) (.int j) = some (.int (i / j)) := by
  rw [divD_int (divOk_2 h1 h2), Int.fdiv_eq_ediv_of_nonneg i (by omega)]
theorem modD_n (h1 : 0 < j) : modD (.int i) (.int j) = some (.int (i % j)) := modD_int h1
end
/-! ### slices -/
theorem cutD_to (xs : List PyData) (n : Nat) : Sm.cutD xs none (some (n : Int)) = xs.take n := by
  unfold Sm.cutD
  rw [HT.sIx_none, HT.sIx_nat, List.drop_zero, Nat.sub_zero, List.take_eq_take_iff]
  omega
theorem cutD_from (xs : List PyData) (n : Nat) : Sm.cutD xs (some (n : Int)) none = xs.drop n := by
  unfold Sm.cutD
  rw [HT.sIx_none, HT.sIx_nat]
  by_cases h : n ≤ xs.length
  · rw [Nat.min_eq_left h]
    exact List.take_of_length_le (by rw [List.length_drop]; omega)
  · rw [Nat.min_eq_right (by omega), List.drop_length, List.drop_eq_nil_of_le (by omega)]
    simp
theorem cutD_ft (xs : List PyData) (a b : Nat) : Sm.cutD xs (some (a : Int)) (some (b : Int)) = (xs.drop a).take (b - a) := by
  unfold Sm.cutD
  rw [HT.sIx_nat, HT.sIx_nat]
  by_cases h : a ≤ xs.length
  · rw [Nat.min_eq_left h, List.take_eq_take_iff, List.length_drop]
    omega
  · rw [Nat.min_eq_right (show xs.length ≤ a by omega), List.drop_length, List.drop_eq_nil_of_le (by omega)]
    simp
theorem slD_list {xs : List PyData} {lo hi : Option Int} : slD (.list xs) lo hi = some (.list (Sm.cutD xs lo hi)) := rfl
theorem slD_tup {xs : List PyData} {lo hi : Option Int} : slD (.tuple xs) lo hi = some (.tuple (Sm.cutD xs lo hi)) := rfl
theorem repL_eq {xs : List PyData} {k : Int} (hk : InR k) (h : xs.length * k.toNat ≤ 16777216) : repL (.list xs) (.int k) = some (List.replicate k.toNat xs).flatten := by
  have q : InR k ∧ xs.length * k.toNat ≤ sizeLine := ⟨hk, by rw [sizeLineS]; exact h⟩
  unfold repL
  exact if_pos q
theorem repr_one {d : PyData} (h : reprOk d = true) : ∃ x, reprD [d] = some (.str x) := ⟨_, if_pos h⟩
end Sm

set_option Elab.async false
set_option linter.all false
set_option maxRecDepth 100000
/-! SimE: sum of a tuple; sorted of any data, by a key too. -/
namespace Sm
open PySem PySem.Spec PyProof.Rows L2
variable [Tb]
/-! ### sum of a tuple of ints -/
section
variable {prog : Program} {w : World} {A : Around} {E : Value → Shared → Prop} {s : Shared} {l : Addr} {its : List Value} {ns : List Int} {Q : Value → Shared → Prop}
theorem sum_rawT (hh : A.handled = none) (hl : s.heap.IsTuple l its.toArray) (hi : IntsAre its ns)
    (h : ∀ h' tk t', (∀ b o, s.heap.get? b = some o → h'.get? b = some o) → Q (.int ns.sum t') { s with heap := h', toks := tk }) : wpAny (model prog w) A (call (.builtin "sum") [.ref l]) Q E s := by
  obtain ⟨xs, e⟩ := hi.allInts.items
  have hn : numsOf (intItems xs).toList = ns := by rw [← e]; exact hi.numsOf
  rw [nums_intItems] at hn
  rw [e] at hl
  have hlt : l < s.heap.objs.size := by obtain ⟨_, e, _⟩ := hl; exact Heap.lt_size e
  refine call_sum_walkG (wpAny_pyIter_tuple hl ?_)
  refine ⟨_, _, _, _, _, _, numAt xs, rfl, Walks.tuple (A := A.in1) hh _ l (Nat.ne_of_lt hlt) (intItems xs), ⟨⟨_, Heap.get?_push_size _ rfl, rfl, rfl⟩, hl.push _⟩, fun b hb => ?_, (fun _ _ => intItems_at), fun h' tk t' hk => ?_⟩
  · show b < (s.heap.push _).objs.size
    rw [Heap.size_push]
    rcases List.mem_cons.mp hb with rfl | hb
    · exact Nat.lt_succ_self _
    · rcases List.mem_cons.mp hb with rfl | hb
      · exact Nat.lt_succ_of_lt hlt
      · cases hb
  · have := h h' tk t' fun b o e => hk b o (by
      have := Heap.lt_size e
      simp only [List.mem_cons, List.not_mem_nil, or_false]
      exact Nat.ne_of_lt this) (Heap.get?_push_of_some _ e)
    have hs : (intItems xs).size = xs.size := by simp [intItems]
    rw [preSum_eq, hs, List.take_of_length_le (by simp), hn]
    exact this
end
def rSumT (K : PySem.W.Frag) : List V → Hp → VK → Prop := fun vs H Q => ∃ (a : Addr) (ns : List Int), vs = [V.ref a] ∧ SqT K H a (ns.map V.int) ∧ Q (.int ns.sum) H
def rSumA (K : PySem.W.Frag) : List V → Hp → VK → Prop := fun vs H Q => rSum K vs H Q ∨ rSumT K vs H Q
theorem cr_sumT {X : Cx} (hc : X.calm = true) : CallR X (.builtin "sum") (rSumT X.K) := by
  intro pins s σ H vs us Q I r h
  obtain ⟨a, ns, rfl, hs, q⟩ := h
  obtain ⟨its, rv, hl, _⟩ := I.tuple hs
  rw [Vals.ref1 r]
  exact sum_rawT (I.ok.hd hc) hl rv.ints fun h' tk t' hk => ⟨.int _, H, I.kept hk, ⟨_, rfl⟩, q⟩
theorem cr_sumA {X : Cx} (hc : X.calm = true) : CallR X (.builtin "sum") (rSumA X.K) := (cr_sum hc).or (cr_sumT hc)
def sumAD : List PyData → Option PyData
  | [.list xs] => (intsOf xs).map fun ns => .int ns.sum
  | [.tuple xs] => (intsOf xs).map fun ns => .int ns.sum
  | _ => none
theorem ok_sumA {K : PySem.W.Frag} : ClOk K (rSumA K) sumAD := fun F H xs ds dz Q hd r e k => by
  unfold sumAD at e
  split at e
  · exact .inl (ok_sum F H xs _ dz Q hd r e k)
  · rw [Option.map_eq_some_iff] at e
    obtain ⟨ns, h1, rfl⟩ := e
    have := intsOf_eq h1
    subst this
    obtain ⟨v, rfl, rv⟩ := r.one
    cases rv with
    | tup h rr =>
      have := rr.of_ints
      subst this
      exact .inr ⟨_, ns, rfl, h.sq, k _ F H (.refl hd) (.int _)⟩
  · cases e
end Sm
namespace Sm
open PySem PySem.Spec PyProof.Rows L2
variable [Tb]
/-! ### stable insertion sort -/
section
variable {α : Type} (le : α → α → Bool)
def insB (x : α) : List α → List α
  | [] => [x]
  | y :: ys => if le x y = true then x :: y :: ys else y :: insB x ys
def sortB : List α → List α
  | [] => []
  | x :: xs => insB le x (sortB xs)
variable {le}
theorem insB_perm (x : α) : ∀ ys, (insB le x ys).Perm (x :: ys)
  | [] => .refl _
  | y :: ys => by
    unfold insB
    split
    · exact .refl _
    · exact ((insB_perm x ys).cons y).trans (.swap ..)
theorem sortB_perm : ∀ xs : List α, (sortB le xs).Perm xs
  | [] => .refl _
  | x :: xs => (insB_perm x _).trans ((sortB_perm xs).cons x)
theorem insB_sorted (h : PySem.W.TotalLe le) (x : α) : ∀ ys : List α, ys.Pairwise (fun a b => le a b = true) → (insB le x ys).Pairwise (fun a b => le a b = true)
  | [], _ => by simp [insB]
  | y :: ys, hp => by
    rw [List.pairwise_cons] at hp
    unfold insB
    split
    · rename_i hx
      refine List.pairwise_cons.mpr ⟨fun z hz => ?_, List.pairwise_cons.mpr hp⟩
      rcases List.mem_cons.mp hz with rfl | hz
      · exact hx
      · exact h.trans _ _ _ hx (hp.1 z hz)
    · rename_i hx
      have hyx : le y x = true := (h.total x y).resolve_left hx
      refine List.pairwise_cons.mpr ⟨fun z hz => ?_, insB_sorted h x ys hp.2⟩
      rcases List.mem_cons.mp ((insB_perm x ys).mem_iff.mp hz) with rfl | hz
      · exact hyx
      · exact hp.1 z hz
theorem sortB_sorted (h : PySem.W.TotalLe le) : ∀ xs : List α, (sortB le xs).Pairwise (fun a b => le a b = true)
  | [] => .nil
  | x :: xs => insB_sorted h x _ (sortB_sorted h xs)
theorem insB_cls (h : PySem.W.TotalLe le) (c x : α) : ∀ ys : List α, (insB le x ys).filter (PySem.W.sameRank le c) = (x :: ys).filter (PySem.W.sameRank le c)
  | [] => rfl
  | y :: ys => by
    unfold insB
    split
    · rfl
    · rename_i hx
      rw [List.filter_cons, insB_cls h c x ys]
      by_cases q : PySem.W.sameRank le c y = true
      · have nx : PySem.W.sameRank le c x = false := by
          unfold PySem.W.sameRank at q ⊢
          rw [Bool.and_eq_true] at q
          rw [Bool.and_eq_false_iff]
          refine Classical.byContradiction fun z => hx ?_
          rw [not_or] at z
          have z1 : le c x = true := by simpa using z.1
          have z2 : le x c = true := by simpa using z.2
          exact h.trans _ _ _ z2 q.1
        simp [q, nx]
      · simp only [q, if_false, Bool.false_eq_true]
        rw [List.filter_cons, List.filter_cons, List.filter_cons]
        simp [q]
theorem sortB_cls (h : PySem.W.TotalLe le) (c : α) : ∀ xs : List α, (sortB le xs).filter (PySem.W.sameRank le c) = xs.filter (PySem.W.sameRank le c)
  | [] => rfl
  | x :: xs => by
    rw [sortB, insB_cls h, List.filter_cons, List.filter_cons, sortB_cls h c xs]
theorem sortB_is (h : PySem.W.TotalLe le) (xs : List α) : xs.mergeSort le = sortB le xs := (PySem.W.sort_unique h (sortB_sorted h xs) (sortB_cls h · xs)).symm
end
/-- Python's order of data -/
def dLe (a b : PyData) : Bool := !PySem.W.dataLt b a
theorem dLe_total : PySem.W.TotalLe dLe := PySem.W.sortLe_total (listOrd itemOrd) false (fun b => PySem.W.keyToks b)
def headed : PyData → Bool
  | .tuple (_ :: _) => true
  | _ => false
def noTup : PyData → Bool
  | .none => false
  | .tuple _ => false
  | _ => true
def sortOkB (ds : List PyData) : Bool := (ds.all headed || ds.all noTup) && ds.all (fun d => !d.hasDict && decide (d.depth ≤ 60) && ds.all fun e => PySem.W.alike d e)
theorem sortOk_is {ds : List PyData} (h : sortOkB ds = true) : PySem.W.Sortable ds ∧ PySem.W.AllAlike ds ∧ PyData.hasDictAll ds = false ∧ ∀ d ∈ ds, d.depth ≤ 60 := by
  unfold sortOkB at h
  simp only [Bool.and_eq_true, Bool.or_eq_true, List.all_eq_true, decide_eq_true_eq, Bool.not_eq_true'] at h
  obtain ⟨h1, h2⟩ := h
  refine ⟨h1.imp (fun q d hd => ?_) (fun q d hd => ?_), fun d hd e he => (h2 d hd).2 e he, ?_, fun d hd => (h2 d hd).1.2⟩
  · have := q d hd
    unfold headed at this
    split at this
    · exact ⟨_, _, rfl⟩
    · cases this
  · have := q d hd
    exact ⟨fun e => by (rw [e] at this; cases this), fun xs e => by (rw [e] at this; cases this)⟩
  · have : ∀ l : List PyData, (∀ d ∈ l, d.hasDict = false) → PyData.hasDictAll l = false := by
      intro l
      induction l with
      | nil => intro _; rfl
      | cons a l ih =>
        intro hl
        rw [PyData.hasDictAll, hl a (List.mem_cons_self ..), ih fun d hd => hl d (List.mem_cons_of_mem _ hd)]
        rfl
    exact this ds fun d hd => (h2 d hd).1.1
/-! ### sorted(a list) -/
inductive Each2 {α β : Type} (R : α → β → Prop) : List α → List β → Prop
  | nil : Each2 R [] []
  | cons {a : α} {b : β} {as : List α} {bs : List β} (h : R a b) (t : Each2 R as bs) : Each2 R (a :: as) (b :: bs)
theorem Reps.each {K : PySem.W.Frag} {F : Fz} {H : Hp} : ∀ {vs : List V} {ds : List PyData}, Reps K F H vs ds → Each2 (Rep K F H) vs ds
  | _, _, .nil => .nil
  | _, _, .cons h r => .cons h r.each
theorem Each2.reps {K : PySem.W.Frag} {F : Fz} {H : Hp} : ∀ {vs : List V} {ds : List PyData}, Each2 (Rep K F H) vs ds → Reps K F H vs ds
  | _, _, .nil => .nil
  | _, _, .cons h r => .cons h r.reps
theorem each_val {R : V → PyData → Prop} : ∀ {xs : List V} {us : List Value} {ds : List PyData}, Vals xs us → Each2 R xs ds → PySem.W.EachIs (fun u d => ∃ x, RelV x u ∧ R x d) us ds
  | _, _, _, .nil, .nil => .nil
  | _, _, _, .cons r t, .cons h e => .cons ⟨_, r, h⟩ (each_val t e)
theorem val_each {β : Type} {R : V → β → Prop} : ∀ {us : List Value} {ds : List β}, PySem.W.EachIs (fun u d => ∃ x, RelV x u ∧ R x d) us ds → ∃ xs, Vals xs us ∧ Each2 R xs ds
  | _, _, .nil => ⟨[], .nil, .nil⟩
  | _, _, .cons ⟨x, r, h⟩ t => by
    obtain ⟨xs, r2, e⟩ := val_each t
    exact ⟨x :: xs, .cons r r2, .cons h e⟩
theorem dpAll_each {K : PySem.W.Frag} {H : Hp} {X : Cx} {pins : List (Addr × Obj)} {σ : L2.St} {s : Shared} (hK : X.K = K) (I : Inv X pins σ H s) : ∀ {xs : List V} {us : List Value} {ds : List PyData}, DpAll K H xs ds → Vals xs us → PySem.W.EachIs (fun u d => ∃ as, Reads s.heap u d as) us ds := by
  intro xs us ds h r
  obtain ⟨as, q⟩ := Dp.readsAll I ds xs us (hK ▸ h) r
  have := PySem.W.readsAll_each (h := s.heap) (fun d : PyData => d) (by rw [List.map_id']; exact q)
  exact this
def rSortedD (K : PySem.W.Frag) : List V → Hp → VK → Prop := fun vs H Q => ∃ (R : V → PyData → Prop) (a : Addr) (xs : List V) (ds : List PyData), vs = [.ref a] ∧ SqL K H a xs ∧ DpAll K H xs ds ∧ Each2 R xs ds ∧ sortOkB ds = true ∧
  ∀ ys p, Each2 R ys (sortB dLe ds) → H p = none → Q (.ref p) (upd H p (.lst ys))
theorem Each2.len {α β : Type} {R : α → β → Prop} : ∀ {as : List α} {bs : List β}, Each2 R as bs → as.length = bs.length
  | _, _, .nil => rfl
  | _, _, .cons _ t => congrArg (· + 1) t.len
theorem cr_sortedD {X : Cx} (hu : X.A.units + 70 < cLine) : CallR X (.builtin "sorted") (rSortedD X.K) := by
  intro pins s σ H vs us Q I r h
  obtain ⟨R, a, xs, ds, rfl, hs, hd, he, hk, q⟩ := h
  obtain rfl := Vals.ref1 r
  obtain ⟨its, rv, hl, hz⟩ := I.list hs
  obtain ⟨h1, h2, h3, h4⟩ := sortOk_is hk
  have hlen := he.len
  refine PySem.W.sorted_data (β := PyData) (R := fun u d => ∃ x, RelV x u ∧ R x d) (enc := fun d => d) (bs := ds) hl.isList (each_val rv he) (dpAll_each rfl I hd rv) (by rw [List.map_id']; exact h2) (by rw [List.map_id']; exact h1) (by rw [← hlen]; exact hz)
    (fun b hb => by have := h4 b hb; omega) fun out ho eo => ?_
  have e1 : ds.mergeSort (PySem.W.dataLe false fun d : PyData => d) = sortB dLe ds := sortB_is dLe_total ds
  rw [e1] at eo
  obtain ⟨ys, ry, ey⟩ := val_each eo
  obtain ⟨ep, he'⟩ := PyProof.Rows.sortedAll_at s.heap its (List.toArray out)
  exact ⟨.ref _, upd H (s.heap.objs.size + 1) (.lst ys), I.laid (t' := s.toks) (fun _ _ => PyProof.Rows.sortedAll_old) (Nat.le_succ _) ⟨by rw [ry.length, ho, ← hlen]; exact hz, out, ep, ry, he'⟩, rfl, q _ _ ey (I.hok.fresh (Nat.le_succ _))⟩
def sortAD : List PyData → Option (List PyData)
  | [.list xs] => if sortOkB xs = true then some (sortB dLe xs) else none
  | _ => none
theorem ok_sortA {K : PySem.W.Frag} : ClOkL K (rSortedD K) sortAD := fun F H xs ds dz Q hd r e k => by
  unfold sortAD at e
  split at e
  · split at e
    · rename_i hk
      cases e
      obtain ⟨v, rfl, rv⟩ := r.one
      cases rv with
      | lst h rr =>
        refine ⟨Rep K F H, _, _, _, rfl, h.sq, rr.dp (sortOk_is hk).2.2.1, rr.each, hk, fun ys p he hn => ?_⟩
        exact newOwn hd hn he.reps k
    · cases e
  · cases e
end Sm

set_option Elab.async false
set_option linter.all false
set_option maxRecDepth 100000
/-! SimF: sorted(a list, key=f). -/
namespace Sm
open PySem PySem.Spec PyProof.Rows L2
variable [Tb]
/-- records of ours have changed, one of them is tracked from now on -/
theorem _root_.L2.Inv.turnedIn {X : Cx} {pins : List (Addr × Obj)} {σ : L2.St} {H : Hp} {s : Shared} {h' : Heap} {t' : Nat} {ch : List Addr} {T : Addr} {ob : HO} (I : Inv X pins σ H s) (k : ∀ b o, b ∉ ch → s.heap.get? b = some o → h'.get? b = some o) (hf : ∀ b ∈ ch, FpOk X pins H b) (hT : T ∈ ch)
    (new : ObjOk X.prog X.w (upd H T ob) h' T ob) : Inv X pins σ (upd H T ob) { s with heap := h', toks := t' } := by
  have hn : H T = none := (hf T hT).1
  have nit : ∀ b u, H b = some u → b ∉ ch := fun b u e z => by
    have q := (hf b z).1
    rw [q] at e; cases e
  refine I.step (g' := s.gens) (d' := s.drawn) (ch := ch) (fun b hb => ⟨(hf b hb).2.2.2.1, (hf b hb).2.1, (hf b hb).2.2.2.2.1, (hf b hb).2.2.2.2.2⟩) (fun b o _ _ hc e _ => k b o hc e) (fun b o _ _ hc e _ => ⟨o.slots, k b o hc e⟩)
    (fun b o hc e n => ?_) (fun b o hc e => ⟨o, k b o hc e⟩) (fun b xs e => ?_) (fun b o u e => ?_) (fun b ps e => ⟨#[], ?_⟩) (fun m hm => ?_) (fun b u e => ?_) I.bare
  · rw [upd_ne (fun z => hc (by rw [z]; exact hT))]; exact n
  · rw [upd_ne (ne_of_none e hn)]; exact e
  · rw [upd_ne (ne_of_none e hn)]; exact e
  · rw [upd_ne (ne_of_none e hn), e]; simp
  · obtain ⟨o, es, ep, ho, r⟩ := hm
    exact ⟨o, es, ep, k _ o (fun z => (hf _ z).2.1 rfl) ho, r⟩
  · by_cases hb : b = T
    · subst hb
      rw [upd_same] at e
      cases e
      exact new
    · rw [upd_ne hb] at e
      refine (I.hok b u e).stay (fun c v hc q => k c v ?_ q) (fun c q => by rw [upd_ne (ne_of_none q hn)]; exact q) fun c xs q => by rw [upd_ne (ne_of_none q hn)]; exact q
      rcases hc with z | z
      · rw [z]; exact nit b u e
      · exact nit c _ z
/-- a value that may be called on one argument: what it tells -/
structure Keyer (X : Cx) (ok : List (Addr × Obj) → Hp → Prop) (fv : Value) (den : PyData → Option PyData) : Prop where
  okm : ∀ (pins ps : List (Addr × Obj)) (F F' : Fz) (H H' : Hp), ok pins H → New F H F' H' → ok (pins ++ ps) H'
  call : ∀ (pins : List (Addr × Obj)) (s : Shared) (σ : L2.St) (F : Fz) (H : Hp) (x : V) (v : Value) (d k : PyData), Inv X pins σ H s → ok pins H → Dom F H → Rep X.K F H x d → RelV x v → den d = some k →
    wpAny (model X.prog X.w) X.A.in1.in1 (call fv [v]) (fun u s' => ∃ y F' H', Inv X pins σ H' s' ∧ New F H F' H' ∧ RelV y u ∧ Rep X.K F' H' y k) (fun _ _ => False) s
theorem keyer_fn {X : Cx} {k : Nat} {f : Addr} {fd : FuncData} {ps : List Str} {den : List PyData → Option PyData} (F : FnOk X.prog X.w X.K X.mg X.base CX0 k f fd ps (spP X.K 1 den)) (hr : Room (k + 2) X.A) (hb : Binds X.K fd ps []) (hps : ps.length = 1) : Keyer X (fun _ _ => True) (.ref f) (fun d => den [d]) where
  okm := fun _ _ _ _ _ _ _ _ => trivial
  call := fun pins s σ Fz H x v d k' I _ hd rx r e => by
    refine wpAny_call (codeAny_mono (F.run X.A.in1.in1 X.stack s H ⟨[v], []⟩ [v] [x] (fun y H' => ∃ F', New Fz H F' H' ∧ Rep X.K F' H' y k') E0 hr.in1.in1 I.env0.in1.in1 (by simpa using hb s [v] I.kIn (by simp [hps])) (.cons r .nil) ⟨Fz, [d], k', rfl, hd, .cons rx .nil, e, fun y F' H' n q => ⟨F', n, q⟩⟩) fun r' s' hq => ?_)
    cases r' with
    | error e => exact hq.elim
    | ok fl =>
      cases fl with
      | ret u =>
        obtain ⟨y, H', I', ry, F', n, q⟩ := I.after hq
        exact ⟨y, F', H', I', n, ry, q⟩
      | next => exact False.elim hq
      | brk => exact False.elim hq
      | cont => exact False.elim hq
def keysOf (den : PyData → Option PyData) : List PyData → Option (List PyData)
  | [] => some []
  | d :: ds => match den d with
    | some k => (keysOf den ds).map (k :: ·)
    | none => none
theorem keysOf_get {den : PyData → Option PyData} : ∀ {ds kz : List PyData}, keysOf den ds = some kz → kz.length = ds.length ∧ ∀ (i : Nat) (d : PyData), ds[i]? = some d → ∃ k, kz[i]? = some k ∧ den d = some k
  | [], _, h => by cases h; exact ⟨rfl, fun i d e => by simp at e⟩
  | d :: ds, kz, h => by
    unfold keysOf at h
    split at h
    · rename_i k hk
      rw [Option.map_eq_some_iff] at h
      obtain ⟨ks, h1, rfl⟩ := h
      obtain ⟨h2, h3⟩ := keysOf_get h1
      refine ⟨by simp [h2], fun i e q => ?_⟩
      cases i with
      | zero => simp at q; subst q; exact ⟨k, rfl, hk⟩
      | succ i => simpa using h3 i e (by simpa using q)
    · cases h
section
variable {X : Cx} {ok : List (Addr × Obj) → Hp → Prop} {fv : Value} {den : PyData → Option PyData} {a kS : Addr} {vs : List Value} {e1 : Nat} {s : Shared} {σ : L2.St} {pins : List (Addr × Obj)} {H : Hp} {F : Fz} {xs : List V} {ds kz : List PyData} {P : PySem.Fin → Shared → Prop} {E : Value → Shared → Prop}
theorem list_obj {o : Obj} {as : Array Value} {n : Nat} (h : o = seqObj "list" as n) : ∀ v, o.data ≠ .cell v := fun v => by rw [h]; exact fun z => nomatch z
theorem sk_rest (KE : Keyer X ok fv den) (I : Inv X pins σ H s) (hok : ok pins H) (hd : Dom F H) (rv : Vals xs vs) (rr : Reps X.K F H xs ds) (hk : keysOf den ds = some kz)
    (fa : FpOk X pins H a) (fk : FpOk X pins H kS) (hne : kS ≠ a) (na : s.heap.get? a = some (seqObj "list" #[] e1)) (nk : s.heap.get? kS = some (seqObj "list" #[] 0))
    (hL : vs.length ≤ sizeLine) (hal : PySem.W.AllAlike kz) (hsk : PySem.W.Sortable kz) (hu : ∀ d, d ∈ kz → X.A.in1.in1.units + d.depth < cLine) (hnd : PyData.hasDictAll kz = false)
    (h : ∀ s' h' tk F' H' out c, Inv X pins σ H' s' → New F H F' H' → H' a = none → H' kS = none → (∀ b o, b ∉ [a, kS] → s'.heap.get? b = some o → h'.get? b = some o) → h'.get? a = some (seqObj "list" (List.toArray out) c) → PySem.W.KeyedOut false kz vs out → P (.done (.ret .none)) { s' with heap := h', toks := tk }) :
    wpAny (model X.prog X.w) X.A.in1.in1 (ksk_rest a fv false vs.toArray e1 (.ref kS)) P E s := by
  obtain ⟨hkl, hkg⟩ := keysOf_get hk
  have hlen : kz.length = vs.length := by rw [hkl, ← rr.length, rv.length]
  unfold ksk_rest
  refine wpAny_bind (wpAny_rule ?_)
  first
    | rw [List.forIn_toArray]
    | (rw [← Array.forIn_toList]; simp only [List.toList_toArray])
    | rw [← Array.forIn_toList]
  refine wpAny_bind (ksk_fold (fun i s' => ∃ F' H' kA e, Inv X pins σ H' s' ∧ New F H F' H' ∧ H' a = none ∧ H' kS = none ∧ s'.heap.get? kS = some (seqObj "list" kA e) ∧ s'.heap.get? a = some (seqObj "list" #[] e1) ∧ PySem.W.EachIs (fun v k => ∃ y, RelV y v ∧ Rep X.K F' H' y k) kA.toList (kz.take i)) vs 0 s
    ⟨F, H, #[], 0, I, .refl hd, fa.1, fk.1, nk, na, by rw [List.take_zero]; exact .nil⟩ ?step ?done)
  case step =>
    rintro j v s' hv ⟨F', H', kA, e, I', n', ha, hkS, nk', na', hA⟩
    simp only [Nat.zero_add] at hA ⊢
    have hj : j < vs.length := (List.getElem?_eq_some_iff.mp hv).1
    have hjx : j < xs.length := by rw [rv.length]; exact hj
    obtain ⟨u, hu1, hu2⟩ := rv.get (List.getElem?_eq_getElem hjx)
    rw [hv] at hu1
    cases hu1
    obtain ⟨d, hd1, hd2⟩ := rr.got (List.getElem?_eq_getElem hjx)
    obtain ⟨k, hk1, hk2⟩ := hkg j d hd1
    have hz : kA.size ≤ vs.length := by
      have h1 := hA.length
      rw [Array.length_toList, List.length_take] at h1
      omega
    have Ip : Inv X (pins ++ [(a, seqObj "list" #[] e1), (kS, seqObj "list" kA e)]) σ H' s' := I'.pins_of fun p hp => by
      rcases List.mem_append.mp hp with z | z
      · exact I'.pin p (List.mem_append_right _ z)
      · simp only [List.mem_cons, List.not_mem_nil, or_false] at z
        rcases z with rfl | rfl
        · exact ⟨na', ha, fa.2.1, fa.2.2.1, list_obj rfl⟩
        · exact ⟨nk', hkS, fk.2.1, fk.2.2.1, list_obj rfl⟩
    refine wpAny_bind (wpAny_attempt (wpAny_mono (KE.call _ s' σ F' H' _ v d k Ip (KE.okm _ _ _ _ _ _ hok n') n'.f4 (n'.rep hd2) hu2 hk2) (fun u s'' he => ?_) fun _ _ hF => hF.elim))
    obtain ⟨y, F2, H2, I2, n2, ry, q2⟩ := he
    try dsimp only
    have pa := I2.pin (a, seqObj "list" #[] e1) (by simp)
    have pk := I2.pin (kS, seqObj "list" kA e) (by simp)
    have nk2 : s''.heap.get? kS = some (seqObj "list" kA e) := pk.1
    have na2 : s''.heap.get? a = some (seqObj "list" #[] e1) := pa.1
    have s1 := Heap.SameBut.update s''.heap kS (Obj.mapSeq (·.push u))
    obtain ⟨c2, hc2⟩ : ∃ c2, (s''.heap.update kS (Obj.mapSeq (·.push u))).get? kS = some (seqObj "list" (kA.push u) c2) := ⟨_, get?_update_seq nk2 (·.push u)⟩
    have ek : kz.take (j + 1) = kz.take j ++ [k] := by rw [List.take_add_one, hk1]; simp
    have ea : (kA.push u).toList = kA.toList ++ [u] := by simp
    refine wpAny_bind (listUpdate_at nk2 rfl ?_ (Nat.le_trans hz hL) (Nat.le_trans (Nat.le_of_eq (Array.size_push ..)) (Nat.succ_le_succ (Nat.le_trans hz hL))))
    refine wpAny_pure ⟨rfl, F2, H2, kA.push u, c2, ?_, n'.trans n2, pa.2.1, pk.2.1, hc2, (s1.2 a (Ne.symm hne)).trans na2, ?_⟩
    · exact (I2.unpinned).turned (fun b o hb q => (s1.2 b hb).trans q) pk.2.1 fk.2.1 fk.2.2.2.1 fk.2.2.2.2.1 fk.2.2.2.2.2
    · rw [ea, ek]
      exact PySem.W.each_snoc ⟨y, ry, q2⟩ (hA.mono fun v k ⟨y, r, q⟩ => ⟨y, r, n2.rep q⟩)
  case done =>
    rintro s' ⟨F', H', kA, e, I', n', ha, hkS, nk', na', hA⟩
    have e3 : kz.take (0 + vs.length) = kz := List.take_of_length_le (by omega)
    rw [e3] at hA
    obtain ⟨ys, ry, ey⟩ := val_each hA
    have hk' := dpAll_each (K := X.K) rfl I' (ey.reps.dp hnd) ry
    have hsz : kA.size = vs.length := by
      have h1 := hk'.length
      rw [Array.length_toList] at h1
      omega
    obtain ⟨G, g1, g2⟩ := restrict s'.heap fun b => decide (b ≠ kS)
    try dsimp only
    refine wpAny_bind (listItems_at nk' rfl ?_)
    have gS : G.get? kS = none := g2 kS (by simp)
    have gk : ∀ b o, b ≠ kS → s'.heap.get? b = some o → G.get? b = some o := fun b o hb e => (g1 b (by simpa using hb)).trans e
    have kg : ∀ b o, G.get? b = some o → s'.heap.get? b = some o := fun b o e => by
      by_cases hb : b = kS
      · rw [hb, gS] at e; cases e
      · exact (g1 b (by simpa using hb)).symm.trans e
    refine PySem.W.keyH_end (κ := PySem.W.dataKind s'.heap kz) (h₁ := G) (fun b o _ e => kg b o e) gS nk' na' hne (PySem.W.SortsAt.data hk' hal hsk hu) hsz hL fun h3 tk3 c k3 n3 => ?_
    exact h s' h3 tk3 F' H' _ c I' n' ha hkS (fun b o hb q => k3 b o (fun z => hb (by simp [z])) (gk b o (fun z => hb (by simp [z])) q)) n3 ⟨s'.heap, kA.toList, hal, rfl, hk'⟩
theorem sk_tree (KE : Keyer X ok fv den) {n : Nat} (I : Inv X pins σ H s) (hok : ok pins H) (hd : Dom F H) (rv : Vals xs vs) (rr : Reps X.K F H xs ds) (hk : keysOf den ds = some kz)
    (fa : FpOk X pins H a) (ho : s.heap.get? a = some (seqObj "list" vs.toArray n)) (hL : vs.length ≤ sizeLine) (hal : PySem.W.AllAlike kz) (hsk : PySem.W.Sortable kz) (hu : ∀ d, d ∈ kz → X.A.in1.in1.units + d.depth < cLine) (hnd : PyData.hasDictAll kz = false)
    (h : ∀ s' h' tk F' H' out c kS, Inv X pins σ H' s' → New F H F' H' → FpOk X pins H' a → FpOk X pins H' kS → (∀ b o, b ∉ [a, kS] → s'.heap.get? b = some o → h'.get? b = some o) → h'.get? a = some (seqObj "list" (List.toArray out) c) → PySem.W.KeyedOut false kz vs out → P (.done (.ret .none)) { s' with heap := h', toks := tk }) :
    wpAny (model X.prog X.w) X.A.in1.in1 (ksk_tree a fv false) P E s := by
  have ha : a < s.heap.objs.size := Heap.lt_size ho
  obtain ⟨e1, ho1⟩ : ∃ e1, (s.heap.update a (Obj.mapSeq fun _ => (#[] : Array Value))).get? a = some (seqObj "list" #[] e1) := ⟨_, get?_update_seq ho fun _ => #[]⟩
  have hkS : ((s.heap.update a (Obj.mapSeq fun _ => (#[] : Array Value))).push (seqObj "tuple" vs.toArray 0)).objs.size = s.heap.objs.size + 1 := by rw [size_push', Heap.size_update]
  unfold ksk_tree
  refine wpAny_bind (listItems_at ho rfl ?_)
  refine wpAny_bind (listUpdate_at ho rfl ?_ (by rw [List.size_toArray]; exact hL) (Nat.zero_le _))
  refine wpAny_bind (seqEpoch_at ho1 rfl ?_)
  refine wpAny_bind (wpAny_newTuple ?_ (by show vs.length ≤ _; exact hL))
  refine wpAny_bind (wpAny_newList ?_ (Nat.zero_le _))
  refine wpAny_holding ?_
  have fk : FpOk X pins H (s.heap.objs.size + 1) := I.fpOk (Nat.le_succ _) (I.hok.fresh (Nat.le_succ _))
  have I2 : Inv X pins σ H { s with heap := ((s.heap.update a (Obj.mapSeq fun _ => (#[] : Array Value))).push (seqObj "tuple" vs.toArray 0)).push (seqObj "list" #[] 0) } :=
    I.turned (t' := s.toks) (it := a) (fun b o hb q => Heap.get?_push_of_some _ (Heap.get?_push_of_some _ (((Heap.SameBut.update s.heap a (Obj.mapSeq fun _ => (#[] : Array Value))).2 b hb).trans q))) fa.1 fa.2.1 fa.2.2.2.1 fa.2.2.2.2.1 fa.2.2.2.2.2
  rw [hkS]
  refine sk_rest (s := { s with heap := ((s.heap.update a (Obj.mapSeq fun _ => (#[] : Array Value))).push (seqObj "tuple" vs.toArray 0)).push (seqObj "list" #[] 0) }) KE I2 hok hd rv rr hk fa fk (Nat.ne_of_gt (Nat.lt_succ_of_lt ha)) (Heap.get?_push_of_some _ (Heap.get?_push_of_some _ ho1)) ?_ hL hal hsk hu hnd fun s' h' tk F' H' out c I' n' ha' hk' kb hA ko => ?_
  · rw [← hkS]
    exact Heap.get?_push_size _ rfl
  · exact h s' h' tk F' H' out c (s.heap.objs.size + 1) I' n' ⟨ha', fa.2⟩ ⟨hk', fk.2⟩ kb hA ko
end
/-! ### sorted(xs, key=f) -/
def pairsOfK (ds kz : List PyData) : List PyData := (sortB (fun p q : PyData × PyData => dLe p.2 q.2) (ds.zip kz)).map (·.1)
theorem each_zip {α β γ : Type} {R : α → β → Prop} : ∀ {as : List α} {bs : List β} {cs : List γ}, PySem.W.EachIs R as bs → cs.length = bs.length → PySem.W.EachIs (fun a p => R a p.1) as (bs.zip cs)
  | _, _, [], .nil, _ => .nil
  | _, _, c :: cs, .cons h t, e => .cons h (each_zip t (by simpa using e))
  | _, _, [], .cons _ _, e => by simp at e
  | _, _, _ :: _, .nil, e => by simp at e
theorem each_fst {α β γ : Type} {R : α → β → Prop} : ∀ {as : List α} {ps : List (β × γ)}, PySem.W.EachIs (fun a p => R a p.1) as ps → PySem.W.EachIs R as (ps.map (·.1))
  | _, _, .nil => .nil
  | _, _, .cons h t => .cons h (each_fst t)
theorem sortKey_run {X : Cx} {ok : List (Addr × Obj) → Hp → Prop} {den : PyData → Option PyData} {f a : Addr} {pins : List (Addr × Obj)} {s : Shared} {σ : L2.St} {F : Fz} {H : Hp} {xs : List V} {ds kz : List PyData} {Q : VK} (KE : Keyer X ok (.ref f) den) (hu : X.A.units + 70 < cLine)
    (I : Inv X pins σ H s) (hok0 : ok pins H) (hd : Dom F H) (hs : SqL X.K H a xs) (rr : Reps X.K F H xs ds) (hk : keysOf den ds = some kz) (hok : sortOkB kz = true)
    (q : ∀ p ys F' H', New F H F' H' → H p = none → H' p = some (.lst ys) → ¬ F' p → Reps X.K F' H' ys (pairsOfK ds kz) → Q (.ref p) H') :
    wpAny (model X.prog X.w) X.A (call (.builtin "sorted") [.ref a] ([Str.ofString "key"].zip [.ref f])) (EP X pins σ Q) X.xe s := by
  obtain ⟨its, rv, hl, hz⟩ := I.list hs
  obtain ⟨h1, h2, h3, h4⟩ := sortOk_is hok
  obtain ⟨hkl, _⟩ := keysOf_get hk
  have hL : its.length ≤ sizeLine := by rw [← rv.length]; exact hz
  refine PySem.W.sorted_of_sort hl.isList hL (ksk_s1 _ _) (fun _ => ksk_l1 _ _) fun E' => ?_
  rw [show [Str.ofString "key"].zip [Value.ref f] = [(Str.ofString "key", Value.ref f)] from rfl, ksk_t1]
  have fa : FpOk X pins H (s.heap.objs.size + 1) := I.fpOk (Nat.le_succ _) (I.hok.fresh (Nat.le_succ _))
  refine sk_tree (s := { s with heap := PySem.W.copyHeap s.heap its }) KE (I.kept (t' := s.toks) fun b o e => PySem.W.copyHeap_old e) hok0 hd rv rr hk fa (PySem.W.copyHeap_at s.heap its) hL h2 h1 (fun d hd' => ?_) h3 fun s' h' tk F' H' out c kS I' n' fa' fk' kb hA ko => ⟨rfl, ?_⟩
  · have := h4 d hd'
    show X.A.units + 1 + 1 + d.depth < cLine
    omega
  · have hlen : kz.length = ds.length := hkl
    have ez : (ds.zip kz).map (fun p : PyData × PyData => p.2) = kz := List.map_snd_zip (by omega)
    have ev : PySem.W.EachIs (fun u (p : PyData × PyData) => ∃ x, RelV x u ∧ Rep X.K F' H' x p.1) its (ds.zip kz) := each_zip (R := fun u d => ∃ x, RelV x u ∧ Rep X.K F' H' x d) (each_val rv (n'.reps rr).each) (by omega)
    rw [← ez] at ko
    have eo := PySem.W.keyedOut_each (fun p : PyData × PyData => p.2) ko ev
    have ol := ko.length (by rw [ez, hkl, ← rr.length, rv.length])
    have e1 : (ds.zip kz).mergeSort (PySem.W.dataLe false fun p : PyData × PyData => p.2) = sortB (fun p q : PyData × PyData => dLe p.2 q.2) (ds.zip kz) :=
      sortB_is (le := fun p q : PyData × PyData => dLe p.2 q.2) (PySem.W.sortLe_total (listOrd itemOrd) false (fun p : PyData × PyData => PySem.W.keyToks p.2)) _
    rw [e1] at eo
    obtain ⟨ys, ry, ey⟩ := val_each (each_fst (R := fun u d => ∃ x, RelV x u ∧ Rep X.K F' H' x d) eo)
    have hp : H (s.heap.objs.size + 1) = none := fa.1
    have hnF : ¬ F' (s.heap.objs.size + 1) := fun z => n'.f4.nn z fa'.1
    refine ⟨.ref _, upd H' (s.heap.objs.size + 1) (.lst ys), I'.turnedIn (ch := [s.heap.objs.size + 1, kS]) kb (fun b hb => ?_) (by simp) ⟨?_, out, c, ry, hA⟩, rfl, q _ ys F' _ ?_ hp upd_same hnF ?_⟩
    · simp only [List.mem_cons, List.not_mem_nil, or_false] at hb
      rcases hb with rfl | rfl
      · exact fa'
      · exact fk'
    · rw [ry.length, ol]; exact hL
    · exact n'.trans (.raw n'.f4 fa'.1)
    · exact ey.reps.mono (fun _ z => z) fun b o z e => by rw [upd_ne (ne_of_none e fa'.1)]; exact e
def rSortKey (X : Cx) (den : PyData → Option PyData) (fv : V) : List V → List V → Hp → VK → Prop := fun vs zs H Q => ∃ (F : Fz) (a : Addr) (xs : List V) (ds kz : List PyData), vs = [.ref a] ∧ zs = [fv] ∧ Dom F H ∧ SqL X.K H a xs ∧ Reps X.K F H xs ds ∧ keysOf den ds = some kz ∧ sortOkB kz = true ∧
  ∀ p ys F' H', New F H F' H' → H p = none → H' p = some (.lst ys) → ¬ F' p → Reps X.K F' H' ys (pairsOfK ds kz) → Q (.ref p) H'
theorem cr_sortKey {X : Cx} {den : PyData → Option PyData} {f : Addr} (KE : Keyer X (fun _ _ => True) (.ref f) den) (hu : X.A.units + 70 < cLine) : CallRK X (.builtin "sorted") [Str.ofString "key"] (rSortKey X den (.ref f)) := by
  intro pins s σ H vs zs us ws Q I r rz h
  obtain ⟨F, a, xs, ds, kz, rfl, rfl, hd, hs, rr, hk, hok, q⟩ := h
  obtain rfl := Vals.ref1 r
  obtain ⟨w1, rfl, e1⟩ := vals1 rz
  obtain rfl : w1 = Value.ref f := e1
  exact sortKey_run KE hu I trivial hd hs rr hk hok q
end Sm

set_option Elab.async false
set_option linter.all false
set_option maxRecDepth 100000
/-! SimG: x[::-1]; sorted by a def as the key. -/
namespace Sm
open PySem PySem.Spec PyProof.Rows L2 HT
variable [Tb]
section
variable {prog : Program} {w : World} {A : Around} {E : Value → Shared → Prop} {s : Shared}
theorem fm_congr {α β : Type} {f g : α → Option β} : ∀ {l : List α}, (∀ a ∈ l, f a = g a) → l.filterMap f = l.filterMap g
  | [], _ => rfl
  | a :: l, h => by rw [List.filterMap_cons, List.filterMap_cons, h a (List.mem_cons_self ..), fm_congr fun b hb => h b (List.mem_cons_of_mem _ hb)]
theorem rev_pick (xs : Array Value) : ((List.range xs.size).filterMap fun (m : Nat) => xs[(((xs.size : Int) - 1) + (m : Int) * (-1)).toNat]?).toArray = xs.toList.reverse.toArray := by
  have e : ∀ m ∈ List.range xs.size, (fun (m : Nat) => xs[(((xs.size : Int) - 1) + (m : Int) * (-1)).toNat]?) m = (fun k => xs[xs.size - 1 - k]?) m := fun m hm => by
    have hm := List.mem_range.mp hm
    have : (((xs.size : Int) - 1) + (m : Int) * (-1)).toNat = xs.size - 1 - m := by omega
    show xs[(((xs.size : Int) - 1) + (m : Int) * (-1)).toNat]? = xs[xs.size - 1 - m]?
    rw [this]
  have e2 : (List.range xs.size).filterMap (fun (m : Nat) => xs[(((xs.size : Int) - 1) + (m : Int) * (-1)).toNat]?) = ((List.range xs.size).map fun k => xs.size - 1 - k).filterMap (xs[·]?) := by
    rw [List.filterMap_map]
    exact fm_congr e
  rw [e2, PySem.W.krv_range, List.filterMap_reverse, PySem.W.krv_all]
theorem getItem_tuple_rev {t sl : Addr} {items : Array Value} {vl vu vs : Value} {Q : Value → Shared → Prop} (ht : IsTup s.heap t items) (hs : s.heap.IsSliceOf sl vl vu vs) (pl : IsPart vl none) (pu : IsPart vu none) (ps : IsPart vs (some (-1)))
    (h : Q (.ref s.heap.objs.size) { s with heap := s.heap.push { cls := .type "tuple", data := .seq items.toList.reverse.toArray } })
    (hsz : items.size ≤ sizeLine) : wpAny (model prog w) A (getItem (.ref t) (.ref sl)) Q E s := by
  have htake : sizeOk (.seq items.toList.reverse.toArray) := by
    show items.toList.reverse.toArray.size ≤ sizeLine
    rw [List.size_toArray, List.length_reverse, Array.length_toList]
    exact hsz
  obtain ⟨os, hos, hcs, hds⟩ := id hs
  have hTs : s.TypeIs (.ref sl) "slice" := ⟨os, hos, hcs⟩
  have sA : ∀ {A : Around} {E : Value → Shared → Prop} {Q : Int × Int × Nat → Shared → Prop}, Q ((items.size : Int) - 1, -1, items.size) s → wpAny (model prog w) A (Builtin.Slice.sliceApplied (.ref sl) (pure (items.size : Int))) Q E s := fun {A E Q} h => by
    unfold Builtin.Slice.sliceApplied Builtin.Slice.sliceFields
    refine wpAny_bind (wpAny_bind (wpAny_field hos hds (x := vl) rfl (wpAny_bind (wpAny_field hos hds (x := vu) rfl (wpAny_bind (wpAny_field hos hds (x := vs) rfl (wpAny_pure ?_)))))))
    refine wpAny_bind (slicePart_ ps ?_)
    show wpAny _ _ (if ((-1 : Int) == 0) = true then _ else _) _ _ s
    rw [if_neg (by decide)]
    refine wpAny_bind (slicePart_ pl (wpAny_bind (slicePart_ pu (wpAny_bind (wpAny_pure ?_)))))
    show wpAny _ _ (pure (((items.size : Int) - 1), (-1 : Int), Builtin.Slice.slicePlaces ((items.size : Int) - 1) (-1) (-1))) _ _ s
    have e : Builtin.Slice.slicePlaces ((items.size : Int) - 1) (-1) (-1) = items.size := by
      unfold Builtin.Slice.slicePlaces
      have h1 : ¬ ((-1 : Int) > 0) := by decide
      rw [if_neg h1]
      have h2 : (- (-1 : Int)) = 1 := by decide
      rw [h2, Int.ediv_one]
      split <;> omega
    rw [e]
    exact wpAny_pure h
  unfold getItem
  try with_reducible refine wpAny_holding ?_
  first | refine wpAny_bind (wpAny_pure ?_) | skip
  refine wpAny_bind (wpAny_sequenceKey ht.typeIs (by decide) ?_)
  refine wpAny_bind (wpAny_callSpecial?_slot (name := Str.ofString "__getitem__") ht.typeIs PyProof.Rows.slot_tuple_getitem
    (wpAny_call_entry PyProof.Rows.slot_tuple_getitem ht.typeIs entry_tuple_getitem ?_ (args_tuple_getitem _ _)))
  show wpAny _ _ (Builtin.Tuple.tupleItemsOf (.ref t) >>= _) _ _ s
  refine wpAny_bind (tupleItemsOf_ ht ?_)
  refine wpAny_bind (wpAny_typeOf hTs ?_)
  rw [if_pos (by decide)]
  refine wpAny_bind (sA ?_)
  have hno : ¬ (((((items.size : Int) - 1) == 0 && (-1 : Int) == 1) && items.size == items.size) = true) := by
    intro q
    rw [Bool.and_eq_true, Bool.and_eq_true] at q
    exact absurd q.1.2 (by decide)
  show wpAny _ _ (if ((((items.size : Int) - 1) == 0 && (-1 : Int) == 1) && items.size == items.size) = true then _ else _) _ _ s
  rw [if_neg hno, rev_pick]
  first
    | exact wpAny_bind (m := Builtin.Tuple.tupleExact _) (wpAny_newObj_type (wpAny_pure ⟨_, rfl, wpAny_pure h⟩) htake)
    | exact wpAny_bind (m := Builtin.Tuple.tupleExact _) (wpAny_newObj_type (wpAny_bind (wpAny_pure (wpAny_pure ⟨_, rfl, wpAny_pure h⟩))) htake)
    | exact wpAny_bind (wpAny_bind (m := Builtin.Tuple.tupleExact _) (wpAny_newObj_type (wpAny_pure (wpAny_pure ⟨_, rfl, wpAny_pure h⟩)) htake))
    | exact wpAny_bind (wpAny_bind (m := Builtin.Tuple.tupleExact _) (wpAny_newObj_type (wpAny_pure ⟨_, rfl, wpAny_pure h⟩) htake))
end
section
variable {X : Cx}
def tRevT (K : PySem.W.Frag) (te : TE) : TE := fun σ H Q => te σ H fun x H1 => ∃ a xs, x = .ref a ∧ ((SqL K H1 a xs ∧ ∀ p, H1 p = none → Q (.ref p) (upd H1 p (.lst xs.reverse))) ∨ (SqT K H1 a xs ∧ ∀ p, H1 p = none → Q (.ref p) (upd H1 p (.tup xs.reverse))))
theorem pe_rev {e : Expr} {te : TE} {k : Nat} {p1 p2 p3 pos : Pos} (he : PE X e te) : PE X (.Subscript e (.Slice none none (some (.UnaryOp .USub (.Constant (.int 1) k p1) p2)) p3) pos) (tRevT X.K te) := by
  refine ⟨fun pins s σ H Q I h => ?_⟩
  refine Subscript_ (thn (he.run pins s σ H _ I h) fun v s1 ⟨x, H1, I1, r1, q1⟩ => ?_)
  obtain ⟨a, xs, ex, q⟩ := q1
  subst ex
  cases r1
  have hst : PO X (some (.UnaryOp .USub (.Constant (.int 1) k p1) p2)) (tPart (tUn (rU fun i => .int (-i)) (tC (.int 1)))) := po_some (pe_un un_neg pe_int)
  refine wpAny_Slice (thn (po_none.run pins s1 σ H1 (fun o H2 => o = none ∧ H2 = H1) I1 ⟨rfl, rfl⟩) fun vl s2 ⟨l, H2, I2, pl, el, e2⟩ => ?_)
  subst el e2
  refine thn (po_none.run pins s2 σ H2 (fun o H3 => o = none ∧ H3 = H2) I2 ⟨rfl, rfl⟩) fun vu s3 ⟨u, H3, I3, pu, eu, e3⟩ => ?_
  subst eu e3
  refine thn (hst.run pins s3 σ H3 (fun o H4 => o = some (-1) ∧ H4 = H3) I3 ⟨1, rfl, -1, rfl, rfl, rfl⟩) fun vs s4 ⟨o, H4, I4, ps, eo, e4⟩ => ?_
  subst eo e4
  have I5 : Inv X pins σ H4 { s4 with heap := s4.heap.push { cls := .type "slice", data := .fields #[vl, vu, vs] } } := I4.kept (t' := s4.toks) fun b ob q => Heap.get?_push_of_some _ q
  show wpAny (model X.prog X.w) X.A (subscriptTail e (.Slice none none (some (.UnaryOp .USub (.Constant (.int 1) k p1) p2)) p3) (.ref a) (.ref s4.heap.objs.size)) (EP X pins σ Q) X.xe { s4 with heap := s4.heap.push { cls := .type "slice", data := .fields #[vl, vu, vs] } }
  rcases q with ⟨hx, q⟩ | ⟨hx, q⟩
  · obtain ⟨its, r, ht, hz⟩ := I5.list hx
    have hlen := r.length
    refine tail_any (ops := [.ref a, .ref s4.heap.objs.size]) ht.isList.typeIs (PySem.slot_list_getitem.lookup) ?_ (by with_unfolding_all rfl)
    refine wpAny_getItem_list_slice ht.isList (Heap.IsSliceOf.new _ vl vu vs) pl pu ps (by decide) ?_ (by rw [List.size_toArray]; omega)
    rw [PySem.W.krv_pick]
    refine ⟨.ref _, _, I5.laid (t' := s4.toks) (o := .lst xs.reverse) (fun b ob q => Heap.get?_push_of_some _ q) (Nat.le_refl _) ?_, rfl, q _ (I5.hok.fresh (Nat.le_refl _))⟩
    exact ⟨by rw [List.length_reverse]; exact hz, _, 0, r.reverse, Heap.get?_push_size _ rfl⟩
  · obtain ⟨its, r, ht, hz⟩ := I5.tuple hx
    have hlen := r.length
    refine tail_any (ops := [.ref a, .ref s4.heap.objs.size]) ht.typeIs (PyProof.Rows.slot_tuple_getitem.lookup) ?_ (by with_unfolding_all rfl)
    refine getItem_tuple_rev ht (Heap.IsSliceOf.new _ vl vu vs) pl pu ps ?_ (by rw [List.size_toArray]; omega)
    refine ⟨.ref _, _, I5.laid (t' := s4.toks) (o := .tup xs.reverse) (fun b ob q => Heap.get?_push_of_some _ q) (Nat.le_refl _) ?_, rfl, q _ (I5.hok.fresh (Nat.le_refl _))⟩
    exact ⟨by rw [List.length_reverse]; exact hz, _, r.reverse, IsTup.new _ _⟩
def revD : PyData → Option PyData
  | .list xs => some (.list xs.reverse)
  | .tuple xs => some (.tuple xs.reverse)
  | _ => none
theorem Reps.rev {K : PySem.W.Frag} {F : Fz} {H : Hp} : ∀ {vs : List V} {ds : List PyData}, Reps K F H vs ds → Reps K F H vs.reverse ds.reverse
  | _, _, .nil => .nil
  | _, _, .cons h r => by rw [List.reverse_cons, List.reverse_cons]; exact r.rev.append (.cons h .nil)
theorem s_rev {e : Expr} {fe : EF} {k : Nat} {p1 p2 p3 pos : Pos} (he : SE X e fe) : SE X (.Subscript e (.Slice none none (some (.UnaryOp .USub (.Constant (.int 1) k p1) p2)) p3) pos) (una revD fe) := PE.imp (pe_rev he) fun σ H Q h => by
  obtain ⟨B, F, env, d, env', R, e, k⟩ := h
  obtain ⟨x, h1, h3⟩ := una_some e
  refine ⟨B, F, env, x, env', R, h1, fun v F1 H1 E1 R1 r1 => ?_⟩
  have dm := R1.dom
  unfold revD at h3
  split at h3
  · cases h3
    cases r1 with
    | lst h r => exact ⟨_, _, rfl, .inl ⟨h.sq, fun p hp => newLst dm hp r.rev fun v F' H' n q => k v F' H' (E1.trans (.of_new n)) (R1.alloc n) q⟩⟩
  · cases h3
    cases r1 with
    | tup h r => exact ⟨_, _, rfl, .inr ⟨h.sq, fun p hp => newTup dm hp r.rev fun v F' H' n q => k v F' H' (E1.trans (.of_new n)) (R1.alloc n) q⟩⟩
  · cases h3
/-! ### sorted(xs, key=a def) -/
def sortKD (den : List PyData → Option PyData) : List PyData → Option (List PyData)
  | [.list xs] => match keysOf (fun d => den [d]) xs with
    | some kz => if sortOkB kz = true then some (pairsOfK xs kz) else none
    | none => none
  | _ => none
theorem h_sortK {k : Nat} {g : Str} {ps : List Str} {den : List PyData → Option PyData} {e : Expr} {fs : LF} {p pg pos kp : Pos} (h : Has X.prog X.w X.K X.mg X.base k g ps (spP X.K 1 den)) (hr : Room (k + 2) X.A) (hm : X.mg "sorted" = none) (ha : SA X [e] fs) (hps : ps.length = 1 := by rfl)
    (hg : Gl X "sorted" := by rfl) (hgg : Gl X g := by rfl) (hdb : (g == ("__debug__" : Str)) = false := by decide)
    (he : backTo pos (starEach [e] X.env) = (false, eval e X.env) :: backTo pos (starEach [] X.env) := by rfl) (hpl : (backTo pos (starEach [e] X.env)).any (·.1) = false := by rfl)
    (hall : (backToKw pos (keywordEach [⟨some "key", .Name g pg, kp⟩] X.env)).all (·.1.isSome) = true := by rfl) (hnone : (backToKw pos (keywordEach [⟨some "key", .Name g pg, kp⟩] X.env)).any (·.1.isNone) = false := by rfl) (hks : (backToKw pos (keywordEach [⟨some "key", .Name g pg, kp⟩] X.env)).filterMap (·.1) = [Str.ofString "key"] := by rfl) :
    SL X (.Call (.Name "sorted" p) [e] [⟨some "key", .Name g pg, kp⟩] pos) (calL (sortKD den) fs) := by
  obtain ⟨f, fd, F, hmf, hkp, hb⟩ := h.ex
  have hu : X.A.units + 70 < cLine := by have := hr.un; omega
  refine PE.imp (pe_callBK (cr_sortKey (keyer_fn F hr hb hps) hu) hg hm (by decide +kernel) ha (pk_cons (pe_glob hgg hmf (show RelV (V.ref f) (Value.ref f) from rfl) hdb) pk_nil) (by decide) (by decide) he hpl hall hnone hks) fun σ H Q h => ?_
  obtain ⟨B, Fz, env, d, env', R, e, kk⟩ := h
  obtain ⟨x, h1, h3⟩ := calL_some e
  refine ⟨B, Fz, env, x, env', R, h1, fun vs F1 H1 E1 R1 r1 => ?_⟩
  show rSortKey X (fun d => den [d]) (.ref f) vs [.ref f] H1 Q
  unfold sortKD at h3
  split at h3
  · split at h3
    · split at h3
      · rename_i kz hkz hok
        cases h3
        obtain ⟨v, rfl, rv⟩ := r1.one
        cases rv with
        | lst hh rr =>
          refine ⟨F1, _, _, _, kz, rfl, rfl, R1.dom, hh.sq, rr, hkz, hok, fun p ys F' H' n hp hH hF ry => ?_⟩
          exact kk p ys F' H' (E1.trans (.of_new n)) (R1.alloc n) (E1.f5 _ hp) hH hF ry
      · cases h3
    · cases h3
  · cases h3
end
theorem sumAD_nats (l : List Nat) : sumAD [.list (l.map fun a => .int (a : Nat))] = some (.int (l.sum : Nat)) := sumD_nats l
theorem cr_sortedR {X : Cx} {k : Nat} (hr : Room k X.A) : CallR X (.builtin "sorted") (rSortedD X.K) := cr_sortedD (by have := hr.un; omega)
theorem op_inR {X : Cx} {k : Nat} (hr : Room k X.A) : OpR X (compareOp .In) (rInA X.K) := op_inA (by have := hr.un; omega)
theorem op_notInR {X : Cx} {k : Nat} (hr : Room k X.A) : OpR X (compareOp .NotIn) (rNotInA X.K) := op_notInA (by have := hr.un; omega)
end Sm

set_option Elab.async false
set_option linter.all false
set_option maxRecDepth 100000
set_option maxHeartbeats 4000000
/-! SimH: sorted(xs, key=lambda x: ..), the lambda without captured names. -/
namespace Sm
open PySem PySem.Spec PyProof.Rows L2
variable [Tb]
/-- the def's code object has a table that is told -/
def LamAt (base : Heap) (mg : Str → Option Value) (cdv : Value) (q : Str) : Prop :=
  ∃ c P, cdv = .ref c ∧ LamX.TabB base mg c P ∧ (P, q) ∈ Tb.T ∧ ∀ p ∈ Tb.T, p.1 = P → p.2 = q
section
variable {X : Cx} {pins : List (Addr × Obj)} {σ : L2.St} {F : Fz} {H : Hp} {s : Shared}
/-- a table has grown -/
theorem New.tab {P c : Addr} {q : Str} {ps more : Array Value} (hd : Dom F H) (hP : H P = some (.tbl ps)) (hc : H c = none) (hm : (P, q) ∈ Tb.T) (hu : ∀ p ∈ Tb.T, p.1 = P → p.2 = q) (ht : TriplesOk (ps ++ more).toList)
    (ha : ∀ (pos : Pos) (cv : Value), codeAmong pos (ps ++ more).toList = some cv → codeAmong pos ps.toList = some cv ∨ cv = .ref c) :
    New F H F (upd (upd H P (.tbl (ps ++ more))) c (LamX.CodeO c q)) := by
  have nPc : P ≠ c := ne_of_none hP hc
  have keep : ∀ b o, H b = some o → NT o → upd (upd H P (.tbl (ps ++ more))) c (LamX.CodeO c q) b = some o := fun b o e nt => by
    have h1 : b ≠ c := ne_of_none e hc
    have h2 : b ≠ P := fun z => by
      rw [z, hP] at e
      cases e
      exact nt _ rfl
    rw [upd_ne h1, upd_ne h2]
    exact e
  refine ⟨fun _ z => z, fun a z => .inl z, fun a o e => ?_, fun a f => ?_, fun p hp => ?_⟩
  · by_cases h : a = P
    · rw [h, hP] at e
      cases e
      exact ⟨.tbl (ps ++ more), by rw [h, upd_ne nPc, upd_same], .inr ⟨⟨_, rfl⟩, _, rfl⟩⟩
    · exact .of (by rw [upd_ne (ne_of_none e hc), upd_ne h]; exact e)
  · obtain ⟨o, e, nt⟩ := hd.ne a f
    exact ⟨o, keep a o e nt, nt⟩
  · by_cases hb : p.1 = P
    · rw [hu p hp hb, hb]
      refine ⟨ps ++ more, by rw [upd_ne nPc, upd_same], ht, fun pos cv e => ?_⟩
      obtain ⟨qs, g1, g2, g3⟩ := hd.tb (P, q) hm
      have g1 : H P = some (.tbl qs) := g1
      rw [hP] at g1
      cases g1
      rcases ha pos cv e with z | z
      · obtain ⟨c0, z1, z2⟩ := g3 pos cv z
        exact ⟨c0, z1, keep _ _ z2 fun ps => LamX.codeO_ne ps⟩
      · exact ⟨c, z, upd_same⟩
    · obtain ⟨qs, g1, g2, g3⟩ := hd.tb p hp
      refine ⟨qs, by rw [upd_ne (ne_of_none g1 hc), upd_ne hb]; exact g1, g2, fun pos cv e => ?_⟩
      obtain ⟨c0, z1, z2⟩ := g3 pos cv e
      exact ⟨c0, z1, keep _ _ z2 fun ps => LamX.codeO_ne ps⟩
abbrev lamO (q : Str) (params : Arguments) (body : Expr) (scope : Scope) (pm : Value) (c' : Addr) (ctv : Value) : Obj := PySem.W.kla_obj "<lambda>" q params body scope [] pm c' ctv
/-- the lambda is made -/
theorem lam_new {params : Arguments} {body : Expr} {scope : Scope} {pos : Pos} {E : Value → Shared → Prop} {Q : Value → Shared → Prop} (I : Inv X pins σ H s) (hd : Dom F H) (LA : LamAt X.base X.mg X.env.code (X.env.qual ++ "<lambda>")) (hdef : defaultsOf params X.env = ([], []))
    (hfree : ∀ y ∈ scope.names, y.2 ≠ .free) (hclo : cloFrom X.env.cells scope.names [] = [])
    (h : ∀ (f c' : Addr) (pm ctv : Value) (H1 : Hp) (s' : Shared), Inv X pins σ H1 s' → New F H F H1 → s'.heap.get? f = some (lamO (X.env.qual ++ "<lambda>") params body scope pm c' ctv) → FpOk X pins H1 f → H1 c' = some (LamX.CodeO c' (X.env.qual ++ "<lambda>")) → Q (.ref f) s') :
    wpAny (model X.prog X.w) X.A (eval (.Lambda params body scope pos) X.env) Q E s := by
  obtain ⟨c, P, hcode, TB, hm, hu⟩ := LA
  obtain ⟨ps, hP, ht, ha⟩ := hd.tb _ hm
  have hP : H P = some (.tbl ps) := hP
  have inP : s.heap.get? P = some { cls := .none, data := .fields ps } := I.hok P _ hP
  have clo := closure_ok (scope := scope) (env := X.env) fun y hy e => absurd e (hfree y hy)
  rw [hclo] at clo
  refine PySem.W.kla_eval hdef ?_
  cases hc : codeAmong pos ps.toList with
  | none =>
    refine PySem.W.kla_makeFunction clo I.ok.glob (I.mod.glob.keeps I.bk) hcode (TB.code.keeps I.bk) inP ht hc TB.gP (TB.bm.keeps I.bk) fun c' ctv g tk old low above rec_ tab => ?_
    obtain ⟨c2, oc, vs, t, e2, hoc, hdc, hvc⟩ := rec_
    cases e2
    have big : s.heap.objs.size ≤ g.objs.size := Nat.le_trans low (Nat.le_of_lt above)
    have nC : H c' = none := I.hok.fresh low
    have eL : (ps ++ #[rawInt pos.line, rawInt pos.col, .ref c']).toList = ps.toList ++ [rawInt pos.line, rawInt pos.col, .ref c'] := by simp
    have N : New F H F (upd (upd H P (.tbl (ps ++ #[rawInt pos.line, rawInt pos.col, .ref c']))) c' (LamX.CodeO c' (X.env.qual ++ "<lambda>"))) :=
      .tab hd hP nC hm hu (by rw [eL]; exact PySem.TriplesOk_snoc _ _ _ _ ht) fun p' cv e => LamX.among_app _ ht (by rw [eL] at e; exact e)
    have nf : upd (upd H P (.tbl (ps ++ #[rawInt pos.line, rawInt pos.col, .ref c']))) c' (LamX.CodeO c' (X.env.qual ++ "<lambda>")) g.objs.size = none := by
      rw [upd_ne (Nat.ne_of_gt above), upd_ne (Nat.ne_of_gt (Nat.lt_of_lt_of_le (Heap.lt_size inP) big))]
      exact I.hok.fresh big
    exact h _ c' _ ctv _ _
      (LamX.inv_table I hP (fun b o n e => Heap.get?_push_of_some _ (old b o n e)) (Heap.get?_push_of_some _ tab) low ⟨oc, vs, t, Heap.get?_push_of_some _ hoc, hdc, hvc⟩)
      N (Heap.get?_push_size _ rfl) (I.fpOk big nf) upd_same
  | some cv =>
    obtain ⟨c', e, hco⟩ := ha pos cv hc
    subst e
    refine PySem.W.kla_makeFunctionHit clo I.ok.glob (I.mod.glob.keeps I.bk) hcode (TB.code.keeps I.bk) inP ht hc (TB.bm.keeps I.bk) fun ctv g tk old big => ?_
    exact h _ c' _ ctv H _ (I.kept fun b o e => Heap.get?_push_of_some _ (old b o e)) (.refl hd) (Heap.get?_push_size _ rfl) (I.fpOk big (I.hok.fresh big)) hco

/-- what the lambda tells -/
def lamD (n : Nat) (fe : EF) (d : PyData) : Option PyData := match fe (entry n [d]) with
  | some (r, _) => some r
  | none => none
theorem keyer_lam {N : List Str} {y q : Str} {params : Arguments} {body : Expr} {scope : Scope} {f c' : Addr} {pm ctv : Value} {k : Nat} {fe : EF} (S : FnScope N [y] scope) (hr : Room (k + 3) X.A) (hq : True)
    (hbind : ∀ v : Value, bindArgs (PySem.W.kla_fn "<lambda>" q params body scope [] pm (.ref c') ctv) ⟨[v], []⟩ = pure [(y, v)])
    (hbody : ∀ (A : Around) (outer : List Env) (s : Shared) (H : Hp), Room k (A.deeper (envOfC q scope s.heap.objs.size f (.ref c'))) → SE (cxOf CX0 X.prog X.w X.K X.mg X.base N q scope f (.ref c') A outer s H E0).nox body fe) :
    Keyer X (fun pins H => (f, lamO q params body scope pm c' ctv) ∈ pins ∧ H c' = some (LamX.CodeO c' q)) (.ref f) (lamD N.length fe) where
  okm := fun pins ps F F' H H' h n => ⟨List.mem_append_left _ h.1, (n.f3 _ _ h.2).get fun ps => LamX.codeO_ne ps⟩
  call := fun pins s σ Fz H x v d k' I ok hd rx r e => by
    obtain ⟨hp, hco⟩ := ok
    have ho : s.heap.get? f = some (lamO q params body scope pm c' ctv) := (I.pin _ (List.mem_append_right _ hp)).1
    obtain ⟨⟨oc, vs, t, hoc, hdc, hvc⟩, _, _⟩ := I.hok c' _ hco
    have hr2 := hr.in1.in1
    have e0 := I.env0.in1.in1
    have rc : codeAny (model X.prog X.w) X.A.in1.in1 (.call (.ref f) ⟨[v], []⟩) (CR CX0 X.stack X.prog X.w H s (fun y H' => ∃ F', New Fz H F' H' ∧ Rep X.K F' H' y k') E0) s := by
      refine PySem.W.kla_callFunE hr2.depth ho rfl S.co S.gen rfl ⟨c', oc, vs, t, rfl, hoc, hdc, hvc⟩ ?_
      rw [hbind]
      refine wpAny_pure (wpAny_newFunctionEnv_cells S.kind (fun y hy => ?_) fun env he s1 start1 => ?_)
      · obtain rfl := List.mem_singleton.mp hy
        exact (S.par _ (by simp)).imp id fun q => ⟨q, PySem.W.cellsFrom_some _ _ _ (.inl q)⟩
      subst he
      refine ⟨I.nolimit.keeps start1.toInCall.keep, ?_⟩
      have J : Inv (cxOf CX0 X.prog X.w X.K X.mg X.base N q scope f (.ref c') X.A.in1.in1 X.stack s H E0) [] (L2.start N [x]) H s1 := inv_start S hr2.hd e0 rfl (us := [v]) (.cons r .nil) start1
      have hN : 1 ≤ N.length := by have := congrArg List.length S.pre; simp at this; omega
      unfold lamD at e
      split at e
      · rename_i r' e1 h1
        cases e
        have R := rel_entry (K := X.K) (N := N) hd (.cons rx .nil : Reps X.K Fz H [x] [d]) hN
        have run := (hbody X.A.in1.in1 X.stack s H (hr2.deeper _)).nox.run [] s1 (L2.start N [x]) H (fun y H' => ∃ F', New Fz H F' H' ∧ Rep X.K F' H' y k') J
          ⟨_, Fz, _, _, e1, R, h1, fun v F' H' _ R' rv => ⟨F', ⟨R'.sub, R'.new, fun a o e => R'.old a o e (fun z => nomatch z), R'.dom⟩, rv⟩⟩
        refine PySem.W.kla_codeExpr (wpAny_mono run (fun u s' hq => ?_) fun e s' hq => hq)
        obtain ⟨w', H', J', rv, q⟩ := hq
        exact ⟨w', H', J'.os, J'.bare, J'.base, J'.hok, rv, q⟩
      · cases e
    refine wpAny_call (codeAny_mono rc fun r' s' hq => ?_)
    cases r' with
    | error e => exact hq.elim
    | ok fl =>
      cases fl with
      | ret u =>
        obtain ⟨y, H', I', ry, F', n, q⟩ := I.after hq
        exact ⟨y, F', H', I', n, ry, q⟩
      | next => exact False.elim hq
      | brk => exact False.elim hq
      | cont => exact False.elim hq
/-- sorted(e, key=lambda y: ..) -/
theorem h_sortLam {N : List Str} {y : Str} {params : Arguments} {body e : Expr} {scope : Scope} {k : Nat} {fe : EF} {fs : LF} {p kp pos lpos : Pos} (LA : LamAt X.base X.mg X.env.code (X.env.qual ++ "<lambda>")) (S : FnScope N [y] scope) (hr : Room (k + 3) X.A) (hm : X.mg "sorted" = none) (ha : SA X [e] fs)
    (hbody : ∀ (f c' : Addr) (A : Around) (outer : List Env) (s : Shared) (H : Hp), Room k (A.deeper (envOfC (X.env.qual ++ "<lambda>") scope s.heap.objs.size f (.ref c'))) → SE (cxOf CX0 X.prog X.w X.K X.mg X.base N (X.env.qual ++ "<lambda>") scope f (.ref c') A outer s H E0).nox body fe)
    (hdef : defaultsOf params X.env = ([], []) := by rfl) (hfree : ∀ y ∈ scope.names, y.2 ≠ .free := by decide) (hclo : cloFrom X.env.cells scope.names [] = [] := by rfl)
    (hbind : ∀ (c' : Addr) (pm ctv : Value) (v : Value), bindArgs (PySem.W.kla_fn "<lambda>" (X.env.qual ++ "<lambda>") params body scope [] pm (.ref c') ctv) ⟨[v], []⟩ = pure [(y, v)] := by exact fun _ _ _ _ => rfl)
    (hg : Gl X "sorted" := by rfl)
    (he : backTo pos (starEach [e] X.env) = (false, eval e X.env) :: backTo pos (starEach [] X.env) := by rfl) (hpl : (backTo pos (starEach [e] X.env)).any (·.1) = false := by rfl)
    (hall : (backToKw pos (keywordEach [⟨some "key", .Lambda params body scope lpos, kp⟩] X.env)).all (·.1.isSome) = true := by rfl) (hnone : (backToKw pos (keywordEach [⟨some "key", .Lambda params body scope lpos, kp⟩] X.env)).any (·.1.isNone) = false := by rfl) (hks : (backToKw pos (keywordEach [⟨some "key", .Lambda params body scope lpos, kp⟩] X.env)).filterMap (·.1) = [Str.ofString "key"] := by rfl) :
    SL X (.Call (.Name "sorted" p) [e] [⟨some "key", .Lambda params body scope lpos, kp⟩] pos) (calL (sortKD fun ds => lamD N.length fe (ds.headD .none)) fs) := by
  have hu : X.A.units + 70 < cLine := by have := hr.un; omega
  refine ⟨fun pins s σ H Q I h => ?_⟩
  obtain ⟨B, Fz, env, d, env', R, e', kk⟩ := h
  obtain ⟨x, h1, h3⟩ := calL_some e'
  refine wpAny_Call_Name_kw (ld_blt I hg hm (show bootBuiltins "sorted" = some (.builtin "sorted") by decide +kernel) ?_ (by decide) (by decide))
  refine PyProof.Rows.callWith_kw (thn (ha.run pos pins s σ H (fun vs H1 => ∃ F1, Ext σ env Fz H env' F1 H1 ∧ Rel X.K B F1 env' σ H1 ∧ Reps X.K F1 H1 vs x) I ⟨B, Fz, env, x, env', R, h1, fun vs F1 H1 E1 R1 r1 => ⟨F1, E1, R1, r1⟩⟩) fun us s1 hv => ?_) he hpl hall hnone
  obtain ⟨vs, H1, I1, rv, F1, E1, R1, r1⟩ := hv
  show wpAny _ _ (evalAll ((do let v ← eval (.Lambda params body scope lpos) X.env; standAt pos; pure v) :: (backToKw pos (keywordEach [] X.env)).map (·.2))) _ _ _
  refine wpAny_evalAll_cons (wpAny_bind (lam_new I1 R1.dom LA hdef hfree hclo fun f c' pm ctv H2 s2 I2 N2 hf fpf hco => wpAny_bind (wpAny_standAt (wpAny_pure (wpAny_evalAll_nil ?_)))))
  rw [hks]
  unfold sortKD at h3
  split at h3
  · split at h3
    · split at h3
      · rename_i kz hkz hok
        cases h3
        obtain ⟨v, rfl, rv'⟩ := r1.one
        obtain ⟨w1, rfl, e1⟩ := vals1 rv
        cases N2.rep rv' with
        | lst hh rr =>
          obtain rfl : w1 = Value.ref _ := e1
          have I3 : Inv X (pins ++ [(f, lamO (X.env.qual ++ "<lambda>") params body scope pm c' ctv)]) σ H2 s2 := I2.pins_of fun q hq => by
            rcases List.mem_append.mp hq with z | z
            · exact I2.pin q (List.mem_append_right _ z)
            · obtain rfl := List.mem_singleton.mp z
              exact ⟨hf, fpf.1, fpf.2.1, fpf.2.2.1, fun v z => nomatch z⟩
          refine wpAny_mono (sortKey_run (Q := Q) (keyer_lam (pm := pm) (ctv := ctv) (c' := c') (f := f) S hr trivial (hbind c' pm ctv) fun A outer s H => hbody f c' A outer s H) hu I3 ⟨by simp, hco⟩ N2.f4 hh.sq rr hkz hok fun p ys F' H' n hp hH hF ry => ?_) (fun u s' z => ?_) fun _ _ z => z
          · exact kk p ys F' H' (E1.trans (.of_new (N2.trans n))) (R1.alloc (N2.trans n)) (E1.f5 _ (N2.nn hp)) hH hF ry
          · obtain ⟨v, H', I', r, q⟩ := z
            exact ⟨v, H', I'.unpinned, r, q⟩
      · cases h3
    · cases h3
  · cases h3
end
/-- the def's function object and its code -/
def CodeAt (K : PySem.W.Frag) (f : Addr) (cdv : Value) : Prop := ∃ oc od fd osl, K.lookup f = some ⟨oc, od, .func fd, osl⟩ ∧ fd.code = cdv
section
variable {P : Program} {w : World} {K : PySem.W.Frag} {mg : Str → Option Value} {base : Heap}
/-- a def that makes lambdas: its walk knows its code object -/
structure WalkedC (P : Program) (w : World) (K : PySem.W.Frag) (mg : Str → Option Value) (base : Heap) (N : List Str) (qual : Str) (st : Stmt) (f : Addr) (k : Nat) (fr : Bool) (g : SF) : Prop where
  body : ∀ (cdv : Value) (A : Around) (outer : List Env) (s : Shared) (H : Hp) (E : XK), CodeAt K f cdv → Room k (A.deeper (envOfC qual (defScope st) s.heap.objs.size f cdv)) →
    SSs fr (cxOf CX0 P w K mg base N qual (defScope st) f cdv A outer s H E).nox (defBody st) g
theorem okC {x qual : Str} {st : Stmt} {f : Addr} {fd : FuncData} {N ps : List Str} {k : Nat} {sp : Sp} (F : Fun K x qual st f fd) (S : FnScope N ps (defScope st)) (len : ∀ vs H Q E, sp vs H Q E → vs.length = ps.length)
    (hbody : ∀ (cdv : Value) (A : Around) (outer : List Env) (s : Shared) (H : Hp) (vs : List V) (Q : VK) (E : XK), CodeAt K f cdv → Room k (A.deeper (envOfC qual (defScope st) s.heap.objs.size f cdv)) → sp vs H Q E →
      ∃ t, PSs (cxOf CX0 P w K mg base N qual (defScope st) f cdv A outer s H E).nox (defBody st) t ∧ t { nx := fun _ H' => Q .non H', rt := Q } (L2.start N vs) H) : FnOk P w K mg base CX0 (k + 1) f fd ps sp := by
  obtain ⟨oc, od, kV, doc, pm, an, cdv, ct, osl, rfl, lk, hcd⟩ := F.ex
  refine fn_of lk hcd S len fun A outer s H vs Q E hr hs => ?_
  obtain ⟨t, h, q⟩ := hbody cdv A outer s H vs Q E ⟨_, _, _, _, lk, rfl⟩ hr hs
  exact ⟨t, h.nox, q⟩
variable {x qual p1 : Str} {st : Stmt} {f : Addr} {fd : FuncData} {N ps : List Str} {k : Nat} {g : SF}
theorem fn_PC (F : Fun K x qual st f fd) (S : FnScope N ps (defScope st)) (W : WalkedC P w K mg base N qual st f k false g) : FnOk P w K mg base CX0 (k + 1) f fd ps (spP K ps.length (denP N.length g)) :=
  okC F S (fun vs H Q E h => spP_len h) fun cdv A outer s H vs Q E hc hr h => ⟨_, W.body cdv A outer s H E hc hr, run_P (pre_len S) h⟩
theorem fn_LC (F : Fun K x qual st f fd) (S : FnScope N ps (defScope st)) (W : WalkedC P w K mg base N qual st f k true g) : FnOk P w K mg base CX0 (k + 1) f fd ps (spL K ps.length (denL N.length g)) :=
  okC F S (fun vs H Q E h => spL_len h) fun cdv A outer s H vs Q E hc hr h => ⟨_, W.body cdv A outer s H E hc hr, run_L (pre_len S) h⟩
theorem fn_MC (F : Fun K x qual st f fd) (S : FnScope N (p1 :: ps) (defScope st)) (W : WalkedC P w K mg base N qual st f k false g) : FnOk P w K mg base CX0 (k + 1) f fd (p1 :: ps) (spM K ps.length (denM N.length g)) :=
  okC F S (fun vs H Q E h => spM_len h) fun cdv A outer s H vs Q E hc hr h => ⟨_, W.body cdv A outer s H E hc hr, run_M (pre_len S) h⟩
theorem fn_MLC (F : Fun K x qual st f fd) (S : FnScope N (p1 :: ps) (defScope st)) (W : WalkedC P w K mg base N qual st f k true g) : FnOk P w K mg base CX0 (k + 1) f fd (p1 :: ps) (spML K ps.length (denML N.length g)) :=
  okC F S (fun vs H Q E h => spML_len h) fun cdv A outer s H vs Q E hc hr h => ⟨_, W.body cdv A outer s H E hc hr, run_ML (pre_len S) h⟩
omit [Tb] in
theorem codeAt_ref {c : Addr} {oc : Value} {od : Option Addr} {fd : FuncData} {sl : Array (Option Value)} {cdv : Value} (l : K.lookup f = some ⟨oc, od, .func fd, sl⟩) (e : fd.code = .ref c) (h : CodeAt K f cdv) : cdv = .ref c := by
  obtain ⟨_, _, _, _, h1, h2⟩ := h
  rw [l] at h1
  cases h1
  exact h2.symm.trans e
end
end Sm

set_option Elab.async false
set_option linter.all false
set_option maxRecDepth 100000
set_option maxHeartbeats 4000000
namespace Lw
open PySem PySem.Spec PyProof.Rows L2 Sm

/-! ### _law_take -/
def g__law_take : SF := (seqF (iteS (tst (bin gtD (ixO 0 (cst (.int 0))) (cst (.int 0)))) (seqF (asgF (cal divmodD (aCons (ixO 0 (cst (.int 0))) (aCons (vr 1) aNil))) (gT 2 (gCons' (gIx 0 (cst (.int 0))) (gCons' (gN 2) gNil'))))
  (retF (vr 2))) nxF)
  (seqF (asgF (bin addD (ixO 0 (cst (.int 2))) (cst (.int 1))) (gIx 0 (cst (.int 2))))
  (seqF (asgF (bin modD (cal intOf (aCons (bin addD (bin mulD (ixO 0 (cst (.int 1))) (cst (.int 39373))) (bin mulD (cst (.int 14173)) (ixO 0 (cst (.int 2))))) aNil)) (cst (.int 2147483477))) (gN 3))
  (seqF (asgF (bin modD (cal intOf (aCons (bin addD (bin mulD (vr 3) (bin addD (bin modD (cal intOf (aCons (vr 3) aNil)) (cst (.int 4957))) (cst (.int 30029)))) (ixO 0 (cst (.int 2)))) aNil)) (cst (.int 2147483477))) (gIx 0 (cst (.int 1))))
  (retF (bin modD (cal intOf (aCons (bin divD (ixO 0 (cst (.int 1))) (cst (.int 911))) aNil)) (vr 1)))))))
def d__law_take : List PyData → List PyData → Option (PyData × List PyData) := denM 4 g__law_take

/-! ### _law_of -/
def g__law_of : SF := (retF (bin ixD (vr 1) (calM 0 (fun ps ds => if ds.length = 1 then d__law_take ps ds else none) (aCons (cal lenD (aCons (vr 1) aNil)) aNil))))
def d__law_of : List PyData → List PyData → Option (PyData × List PyData) := denM 2 g__law_of

/-! ### _law_products -/
def le3__law_products : EF := (bin addD (vr 5) (tup (aCons (vr 6) aNil)))
def lb2__law_products : SF := (asgF (bin addD (vr 4) (frz (lcF (rng2 (aCons (iteE (tst (bin neD (vr 5) (tup aNil))) (bin ixD (vr 5) (una negD (cst (.int 1)))) (cst (.int 1))) (aCons (bin addD (vr 0) (cst (.int 1))) aNil))) (gN 6) yesF le3__law_products [6]))) (gN 4))
def lb1__law_products : SF := (seqF (asgF (frz (lst aNil)) (gN 4))
  (seqF (forS (itF (vr 2)) (gN 5) lb2__law_products)
  (asgF (vr 4) (gN 2))))
def ke4__law_products : EF := (una revD (vr 0))
def g__law_products : SF := (seqF (asgF (frz (lst (aCons (tup aNil) aNil))) (gN 2))
  (seqF (forS (rng1 (aCons (vr 1) aNil)) (gN 3) lb1__law_products)
  (retF (frz (calL (sortKD fun ds => lamD 1 ke4__law_products (ds.headD .none)) (aCons (vr 2) aNil))))))
def d__law_products : List PyData → Option PyData := denP 7 g__law_products

/-! ### _law_lots -/
def le3__law_lots : EF := (tup (aCons (bin addD (vr 5) (tup (aCons (bin ixD (vr 0) (vr 7)) aNil))) (aCons (bin addD (vr 7) (cst (.int 1))) aNil)))
def lb2__law_lots : SF := (asgF (bin addD (vr 4) (frz (lcF (rng2 (aCons (vr 6) (aCons (cal lenD (aCons (vr 0) aNil)) aNil))) (gN 7) yesF le3__law_lots [7]))) (gN 4))
def lb1__law_lots : SF := (seqF (asgF (frz (lst aNil)) (gN 4))
  (seqF (forS (itF (vr 2)) (gT 2 (gCons' (gN 5) (gCons' (gN 6) gNil'))) lb2__law_lots)
  (asgF (vr 4) (gN 2))))
def le4__law_lots : EF := (bin ixD (vr 8) (cst (.int 0)))
def g__law_lots : SF := (seqF (asgF (frz (lst (aCons (tup (aCons (tup aNil) (aCons (cst (.int 0)) aNil))) aNil))) (gN 2))
  (seqF (forS (rng1 (aCons (vr 1) aNil)) (gN 3) lb1__law_lots)
  (retF (frz (lcF (itF (vr 2)) (gN 8) yesF le4__law_lots [8])))))
def d__law_lots : List PyData → Option PyData := denP 9 g__law_lots

/-! ### _law_room -/
def le2__law_room : EF := (vr 6)
def lb1__law_room : SF := (seqF (asgO (lcF (itF (vr 2)) (gN 6) (andF (tst (bin inD (slF (vr 6) (oSo (cst (.int 1))) oNo) (vr 4))) (andF (tst (bin inD (slF (vr 6) oNo (oSo (cst (.int 2)))) (vr 4))) (tst (bin inD (tup (aCons (bin ixD (vr 6) (cst (.int 0))) (aCons (bin ixD (vr 6) (cst (.int 2))) aNil))) (vr 4))))) le2__law_room [6]) 5)
  (asgF (cal max2D (aCons (vr 3) (aCons (cal lenD (aCons (vr 5) aNil)) aNil))) (gN 3)))
def g__law_room : SF := (seqF (parF [2, 3] (mVa (cal (fun ds => if ds.length = 2 then d__law_products ds else none) (aCons (vr 0) (aCons (cst (.int 3)) aNil))) (mVa (cst (.int 0)) mNil)))
  (seqF (forS (itF (cal (fun ds => if ds.length = 2 then d__law_lots ds else none) (aCons (cal (fun ds => if ds.length = 2 then d__law_products ds else none) (aCons (vr 0) (aCons (cst (.int 2)) aNil))) (aCons (vr 1) aNil)))) (gN 4) lb1__law_room)
  (retF (vr 3))))
def d__law_room : List PyData → Option PyData := denP 7 g__law_room

/-! ### _law_sequence -/
def g__law_sequence : SF := (seqF (asgF (calM 0 (fun ps ds => if ds.length = 1 then d__law_of ps ds else none) (aCons (tup (aCons (cst (.int 0)) (aCons (cst (.int 1)) (aCons (cst (.int 2)) (aCons (cst (.int 3)) (aCons (cst (.int 3)) (aCons (cst (.int 4)) (aCons (cst (.int 2)) (aCons (cst (.int 3)) (aCons (cst (.int 4)) (aCons (una negD (cst (.int 1))) aNil))))))))))) aNil)) (gN 1))
  (seqF (asgF (iteE (tst (bin geD (vr 1) (cst (.int 0)))) (cal lenD (aCons (cal (fun ds => if ds.length = 2 then d__law_products ds else none) (aCons (vr 1) (aCons (cst (.int 2)) aNil))) aNil)) (cst (.int 2))) (gN 2))
  (seqF (asgF (calM 0 (fun ps ds => if ds.length = 1 then d__law_of ps ds else none) (aCons (tup (aCons (calM 0 (fun ps ds => if ds.length = 1 then d__law_take ps ds else none) (aCons (bin addD (vr 2) (cst (.int 1))) aNil)) (aCons (calM 0 (fun ps ds => if ds.length = 1 then d__law_take ps ds else none) (aCons (bin addD (vr 2) (cst (.int 1))) aNil)) (aCons (vr 2) (aCons (bin addD (vr 2) (cst (.int 1))) (aCons (una negD (cst (.int 1))) aNil)))))) aNil)) (gN 3))
  (seqF (asgF (iteE (andF (tst (bin geD (vr 1) (cst (.int 0)))) (tst (chF leD leD (cst (.int 0)) (vr 3) (vr 2)))) (cal (fun ds => if ds.length = 2 then d__law_room ds else none) (aCons (vr 1) (aCons (vr 3) aNil))) (cst (.int 3))) (gN 4))
  (seqF (asgF (calM 0 (fun ps ds => if ds.length = 1 then d__law_of ps ds else none) (aCons (tup (aCons (vr 4) (aCons (vr 4) (aCons (bin addD (vr 4) (cst (.int 1))) (aCons (bin addD (vr 4) (cst (.int 2))) (aCons (calM 0 (fun ps ds => if ds.length = 1 then d__law_take ps ds else none) (aCons (bin addD (vr 4) (cst (.int 1))) aNil)) (aCons (cst (.int 0)) (aCons (una negD (cst (.int 1))) aNil)))))))) aNil)) (gN 5))
  (seqF (asgF (calM 0 (fun ps ds => if ds.length = 1 then d__law_of ps ds else none) (aCons (tup (aCons (cst (.int 1)) (aCons (cst (.int 1)) (aCons (cst (.int 1)) (aCons (cst (.int 1)) (aCons (cst (.int 1)) (aCons (cst (.int 1)) (aCons (cst (.int 1)) (aCons (cst (.int 1)) (aCons (cst (.int 1)) (aCons (cst (.int 1)) (aCons (cst (.int 1)) (aCons (cst (.int 1)) (aCons (cst (.int 0)) (aCons (cst (.int 2)) (aCons (una negD (cst (.int 1))) aNil)))))))))))))))) aNil)) (gN 6))
  (retF (slF (tup (aCons (vr 6) (aCons (vr 1) (aCons (vr 3) (aCons (vr 5) aNil))))) oNo (oSo (calM 0 (fun ps ds => if ds.length = 1 then d__law_of ps ds else none) (aCons (tup (aCons (cst (.int 4)) (aCons (cst (.int 4)) (aCons (cst (.int 4)) (aCons (cst (.int 4)) (aCons (cst (.int 4)) (aCons (cst (.int 4)) (aCons (cst (.int 4)) (aCons (cst (.int 4)) (aCons (cst (.int 3)) (aCons (cst (.int 3)) (aCons (cst (.int 2)) (aCons (cst (.int 1)) aNil))))))))))))) aNil)))))))))))
def d__law_sequence : List PyData → List PyData → Option (PyData × List PyData) := denM 7 g__law_sequence

/-! ### _law_wide -/
def le1__law_wide : EF := (bin addD (vr 3) (cst (.int 1)))
def g__law_wide : SF := (seqF (parF [1, 2] (mOw (lcF (rng1 (aCons (bin addD (cst (.int 4)) (calM 0 (fun ps ds => if ds.length = 1 then d__law_take ps ds else none) (aCons (cst (.int 5)) aNil))) aNil)) (gN 3) yesF le1__law_wide [3]) (mVa (cst .none) mNil)))
  (seqF (iteS (tst (bin eqD (calM 0 (fun ps ds => if ds.length = 1 then d__law_take ps ds else none) (aCons (cst (.int 2)) aNil)) (cst (.int 0)))) (seqF (asgF (bin addD (cst (.int 2)) (calM 0 (fun ps ds => if ds.length = 1 then d__law_take ps ds else none) (aCons (bin subD (lenO 1) (cst (.int 2))) aNil))) (gN 2))
  (asgF (bin addD (bin addD (ixO 1 (vr 2)) (cst (.int 1))) (calM 0 (fun ps ds => if ds.length = 1 then d__law_take ps ds else none) (aCons (cst (.int 2)) aNil))) (gIx 1 (vr 2)))) nxF)
  (retF (tup (aCons (cal tupOf (aCons (vr 1) aNil)) (aCons (vr 2) aNil))))))
def d__law_wide : List PyData → List PyData → Option (PyData × List PyData) := denM 4 g__law_wide

/-! ### _law_thin -/
def lb1__law_thin : SF := (seqF (appF 1 (iteE (tst (bin gtD (calM 0 (fun ps ds => if ds.length = 1 then d__law_take ps ds else none) (aCons (cst (.int 4)) aNil)) (cst (.int 0)))) (ixO 1 (una negD (cst (.int 1)))) (calM 0 (fun ps ds => if ds.length = 1 then d__law_of ps ds else none) (aCons (tup (aCons (cst (.int 0)) (aCons (cst (.int 1)) (aCons (cst (.int 2)) (aCons (cst (.int 0)) (aCons (una negD (cst (.int 1))) aNil)))))) aNil))))
  (iteS (orF (tst (bin ltD (ixO 1 (una negD (cst (.int 1)))) (cst (.int 0)))) (tst (bin gtD (ixO 1 (una negD (cst (.int 1)))) (ixO 1 (una negD (cst (.int 2))))))) (seqF (asgF (vr 3) (gN 2))
  bkF) nxF))
def le2__law_thin : EF := (calM 0 (fun ps ds => if ds.length = 1 then d__law_take ps ds else none) (aCons (cst (.int 3)) aNil))
def g__law_thin : SF := (seqF (parF [1, 2] (mOw (lst (aCons (cst (.int 1)) (aCons (calM 0 (fun ps ds => if ds.length = 1 then d__law_take ps ds else none) (aCons (cst (.int 2)) aNil)) aNil))) (mVa (cst .none) mNil)))
  (seqF (forS (rng2 (aCons (cst (.int 2)) (aCons (bin addD (cst (.int 3)) (calM 0 (fun ps ds => if ds.length = 1 then d__law_take ps ds else none) (aCons (cst (.int 6)) aNil))) aNil))) (gN 3) lb1__law_thin)
  (seqF (asgF (iteE (tst (bin notND (vr 2) (cst .none))) (frz (lcF (rng1 (aCons (bin subD (cst (.int 8)) (lenO 1)) aNil)) (gN 5) yesF le2__law_thin [5])) (frz (lst aNil))) (gN 4))
  (retF (tup (aCons (cal tupOf (aCons (bin addD (vr 1) (vr 4)) aNil)) (aCons (vr 2) aNil)))))))
def d__law_thin : List PyData → List PyData → Option (PyData × List PyData) := denM 6 g__law_thin

/-! ### _law_searched -/
def g__law_searched : SF := (seqF (iteS (tst (bin neD (bin ixD (vr 0) (cst (.int 0))) (cst (.int 1)))) (retF (cst (.int 0))) nxF)
  (seqF (iteS (andF (tst (bin gtD (cal lenD (aCons (vr 0) aNil)) (cst (.int 1)))) (tst (bin ltD (bin ixD (vr 0) (cst (.int 1))) (cst (.int 0))))) (retF (cst (.int 1))) nxF)
  (seqF (iteS (andF (tst (bin gtD (cal lenD (aCons (vr 0) aNil)) (cst (.int 2)))) (orF (tst (bin ltD (bin ixD (vr 0) (cst (.int 2))) (cst (.int 0)))) (tst (bin gtD (bin ixD (vr 0) (cst (.int 2))) (cal lenD (aCons (cal (fun ds => if ds.length = 2 then d__law_products ds else none) (aCons (bin ixD (vr 0) (cst (.int 1))) (aCons (cst (.int 2)) aNil))) aNil)))))) (retF (cst (.int 2))) nxF)
  (seqF (iteS (andF (tst (bin gtD (cal lenD (aCons (vr 0) aNil)) (cst (.int 3)))) (orF (tst (bin ltD (bin ixD (vr 0) (cst (.int 3))) (cst (.int 0)))) (tst (bin gtD (bin ixD (vr 0) (cst (.int 3))) (cal (fun ds => if ds.length = 2 then d__law_room ds else none) (aCons (bin ixD (vr 0) (cst (.int 1))) (aCons (bin ixD (vr 0) (cst (.int 2))) aNil))))))) (retF (cst (.int 3))) nxF)
  (retF (cst .none))))))
def d__law_searched : List PyData → Option PyData := denP 1 g__law_searched

/-! ### is_whole -/
def g_is_whole : SF := (retF (iteE (tst (una (isiD "int") (vr 0))) (val (notF (tst (una (isiD "bool") (vr 0))))) (cst (.bool false))))
def d_is_whole : List PyData → Option PyData := denP 1 g_is_whole

/-! ### is_between -/
def g_is_between : SF := (retF (iteE (tst (cal (fun ds => if ds.length = 1 then d_is_whole ds else none) (aCons (vr 0) aNil))) (chF leD leD (vr 1) (vr 0) (vr 2)) (cst (.bool false))))
def d_is_between : List PyData → Option PyData := denP 3 g_is_between

/-! ### check_sequence -/
def lb1_check_sequence : SF := (iteS (notF (tst (cal (fun ds => if ds.length = 3 then d_is_between ds else none) (aCons (vr 2) (aCons (una negD (cst (.int 1000000))) (aCons (cst (.int 1000000)) aNil)))))) noF nxF)
def g_check_sequence : SF := (seqF (iteS (orF (notF (tst (una (isiD "tuple") (vr 0)))) (notF (tst (chF leD leD (cst (.int 1)) (cal lenD (aCons (vr 0) aNil)) (cst (.int 8)))))) noF nxF)
  (forS (enuF (aCons (vr 0) aNil)) (gT 2 (gCons' (gN 1) (gCons' (gN 2) gNil'))) lb1_check_sequence))
def d_check_sequence : List PyData → Option PyData := denP 3 g_check_sequence

/-! ### greatest_top -/
def wc1_greatest_top : TF := (tst (bin leD (cal combD (aCons (vr 3) (aCons (vr 1) aNil))) (vr 0)))
def lb1_greatest_top : SF := (parF [2, 3] (mVa (vr 3) (mVa (bin mulD (cst (.int 2)) (vr 3)) mNil)))
def wc2_greatest_top : TF := (tst (bin gtD (bin subD (vr 3) (vr 2)) (cst (.int 1))))
def lb2_greatest_top : SF := (seqF (asgF (bin divD (bin addD (vr 2) (vr 3)) (cst (.int 2))) (gN 4))
  (iteS (tst (bin leD (cal combD (aCons (vr 4) (aCons (vr 1) aNil))) (vr 0))) (asgF (vr 4) (gN 2)) (asgF (vr 4) (gN 3))))
def g_greatest_top : SF := (seqF (parF [2, 3] (mVa (vr 1) (mVa (vr 1) mNil)))
  (seqF (whF wc1_greatest_top lb1_greatest_top FU)
  (seqF (whF wc2_greatest_top lb2_greatest_top FU)
  (retF (vr 2)))))
def d_greatest_top : List PyData → Option PyData := denP 5 g_greatest_top

/-! ### expansion_by -/
def wc1_expansion_by : TF := (tst (bin gtD (vr 3) (cst (.int 0))))
def lb1_expansion_by : SF := (seqF (appF 2 (cal (fun ds => if ds.length = 2 then d_greatest_top ds else none) (aCons (vr 3) (aCons (vr 4) aNil))))
  (parF [3, 4] (mVa (bin subD (vr 3) (cal combD (aCons (ixO 2 (una negD (cst (.int 1)))) (aCons (vr 4) aNil)))) (mVa (bin subD (vr 4) (cst (.int 1))) mNil))))
def g_expansion_by : SF := (seqF (parF [2, 3, 4] (mOw (lst aNil) (mVa (vr 0) (mVa (vr 1) mNil))))
  (seqF (whF wc1_expansion_by lb1_expansion_by FU)
  (retF (cal tupOf (aCons (vr 2) aNil)))))
def d_expansion_by : List PyData → Option PyData := denP 5 g_expansion_by

/-! ### most_next_by -/
def le1_most_next_by : EF := (cal combD (aCons (bin addD (vr 4) (cst (.int 1))) (aCons (bin addD (bin subD (vr 1) (vr 3)) (cst (.int 1))) aNil)))
def g_most_next_by : SF := (seqF (asgO (lcF (enuF (aCons (cal (fun ds => if ds.length = 2 then d_expansion_by ds else none) (aCons (vr 0) (aCons (vr 1) aNil))) aNil)) (gT 2 (gCons' (gN 3) (gCons' (gN 4) gNil'))) yesF le1_most_next_by [3, 4]) 2)
  (retF (cal sumAD (aCons (vr 2) aNil))))
def d_most_next_by : List PyData → Option PyData := denP 5 g_most_next_by

/-! ### fails_at -/
def g_fails_at : SF := (seqF (iteS (tst (bin eqD (vr 1) (cst (.int 0)))) (retF (bin neD (bin ixD (vr 0) (cst (.int 0))) (cst (.int 1)))) nxF)
  (seqF (iteS (tst (bin ltD (bin ixD (vr 0) (vr 1)) (cst (.int 0)))) (retF (cst (.bool true))) nxF)
  (retF (iteE (tst (bin gtD (vr 1) (cst (.int 1)))) (bin gtD (bin ixD (vr 0) (vr 1)) (cal (fun ds => if ds.length = 2 then d_most_next_by ds else none) (aCons (bin ixD (vr 0) (bin subD (vr 1) (cst (.int 1)))) (aCons (bin subD (vr 1) (cst (.int 1))) aNil)))) (cst (.bool false))))))
def d_fails_at : List PyData → Option PyData := denP 2 g_fails_at

/-! ### fault_by -/
def lb1_fault_by : SF := (iteS (tst (cal (fun ds => if ds.length = 2 then d_fails_at ds else none) (aCons (vr 0) (aCons (vr 1) aNil)))) (retF (frz (lst (aCons (vr 1) aNil)))) nxF)
def g_fault_by : SF := (seqF (forS (rng1 (aCons (cal lenD (aCons (vr 0) aNil)) aNil)) (gN 1) lb1_fault_by)
  (retF (frz (lst aNil))))
def d_fault_by : List PyData → Option PyData := denP 2 g_fault_by

/-! ### first_fault -/
def lb1_first_fault : SF := (retF (vr 1))
def g_first_fault : SF := (seqF (dropF (cal (fun ds => if ds.length = 1 then d_check_sequence ds else none) (aCons (vr 0) aNil)))
  (seqF (forS (itF (cal (fun ds => if ds.length = 1 then d_fault_by ds else none) (aCons (vr 0) aNil))) (gN 1) lb1_first_fault)
  (retF (cst .none))))
def d_first_fault : List PyData → Option PyData := denP 2 g_first_fault

/-! ### is_m_sequence -/
def g_is_m_sequence : SF := (seqF (dropF (cal (fun ds => if ds.length = 1 then d_check_sequence ds else none) (aCons (vr 0) aNil)))
  (retF (bin eqD (cal (fun ds => if ds.length = 1 then d_fault_by ds else none) (aCons (vr 0) aNil)) (frz (lst aNil)))))
def d_is_m_sequence : List PyData → Option PyData := denP 1 g_is_m_sequence

/-! ### _law_right -/
def lb1__law_right : SF := (seqF (iteS (tst (bin neD (cal reprD (aCons (frz (lst (aCons (cal (fun ds => if ds.length = 1 then d_first_fault ds else none) (aCons (vr 2) aNil)) (aCons (cal (fun ds => if ds.length = 1 ∧ (pmV [0] ds).length = 1 then d_first_fault (pmV [0] ds) else none) (aCons (vr 2) aNil)) aNil)))) aNil)) (cal reprD (aCons (frz (lst (aCons (vr 3) (aCons (vr 3) aNil)))) aNil)))) (retF (cst (.bool false))) nxF)
  (iteS (tst (bin neD (cal reprD (aCons (frz (lst (aCons (cal (fun ds => if ds.length = 1 then d_is_m_sequence ds else none) (aCons (vr 2) aNil)) (aCons (cal (fun ds => if ds.length = 1 ∧ (pmV [0] ds).length = 1 then d_is_m_sequence (pmV [0] ds) else none) (aCons (vr 2) aNil)) aNil)))) aNil)) (cal reprD (aCons (frz (binL repL (frz (lst (aCons (bin isND (vr 3) (cst .none)) aNil))) (cst (.int 2)))) aNil)))) (retF (cst (.bool false))) nxF))
def g__law_right : SF := (seqF (asgF (calM 0 (fun ps ds => if ds.length = 0 then d__law_sequence ps ds else none) aNil) (gN 1))
  (seqF (forS (itF (tup (aCons (tup (aCons (vr 1) (aCons (cal (fun ds => if ds.length = 1 then d__law_searched ds else none) (aCons (vr 1) aNil)) aNil))) (aCons (calM 0 (fun ps ds => if ds.length = 0 then d__law_thin ps ds else none) aNil) (aCons (calM 0 (fun ps ds => if ds.length = 0 then d__law_wide ps ds else none) aNil) aNil))))) (gT 2 (gCons' (gN 2) (gCons' (gN 3) gNil'))) lb1__law_right)
  (retF (cst (.bool true)))))
def d__law_right : List PyData → List PyData → Option (PyData × List PyData) := denM 4 g__law_right

/-! ### _law_pot -/
def lb1__law_pot : SF := (asgF (bin modD (cal intOf (aCons (bin addD (bin addD (bin mulD (vr 2) (cst (.int 50993))) (bin mulD (bin modD (cal intOf (aCons (vr 3) aNil)) (cst (.int 2147483477))) (cst (.int 11)))) (cst (.int 23))) aNil)) (cst (.int 2147483477))) (gN 2))
def g__law_pot : SF := (seqF (asgF (bin addD (cst (.int 60013)) (bin mulD (cst (.int 8087)) (vr 1))) (gN 2))
  (seqF (forS (itF (slF (vr 0) oNo (oSo (cst (.int 9))))) (gN 3) lb1__law_pot)
  (seqF (asgF (iteE (tst (bin ltD (vr 1) (cal lenD (aCons (vr 0) aNil)))) (cal intOf (aCons (bin ixD (vr 0) (vr 1)) aNil)) (cst (.int 0))) (gN 4))
  (seqF (asgF (bin modD (cal intOf (aCons (bin addD (bin addD (bin mulD (vr 2) (cst (.int 53))) (bin mulD (bin modD (cal intOf (aCons (vr 4) aNil)) (cst (.int 2147483477))) (cst (.int 40009)))) (cst (.int 7))) aNil)) (cst (.int 2147483477))) (gN 2))
  (retL (lst (aCons (iteE (orF (tst (bin ltD (vr 4) (cst (.int 0)))) (tst (bin geD (vr 4) (bin powD (cst (.int 10)) (cst (.int 15)))))) (cal absD (aCons (vr 4) aNil)) (cst (.int 0))) (aCons (vr 2) (aCons (cst (.int 0)) aNil)))))))))
def d__law_pot : List PyData → Option (List PyData) := denL 5 g__law_pot

/-! ### law -/
def lb1_law : SF := (iteS (notF (tst (calD (fun ps ds => if ds.length = 0 then d__law_right ps ds else none) (calL (fun ds => if ds.length = 2 then d__law_pot ds else none) (aCons (vr 0) (aCons (vr 1) aNil))) aNil))) (retF (cst (.bool false))) nxF)
def g_law : SF := (seqF (forS (rng1 (aCons (cal max2D (aCons (cst (.int 2)) (aCons (cal min2D (aCons (cal lenD (aCons (vr 0) aNil)) (aCons (cst (.int 6)) aNil))) aNil))) aNil)) (gN 1) lb1_law)
  (retF (cst (.bool true))))
def d_law : List PyData → Option PyData := denP 2 g_law
end Lw

set_option Elab.async false
set_option linter.all false
set_option maxRecDepth 100000
/-! Ctake: draws (take) -/
namespace Lw
open PySem PySem.Spec PyProof.Rows L2 Sm Pl
def Pot (ps : List PyData) : Prop := ∃ a b c : Int, ps = [.int a, .int b, .int c]
def mixS (b c : Int) : Int := (b * 39373 + 14173 * (c + 1)) % 2147483477
def mixB (b c : Int) : Int := (mixS b c * (mixS b c % 4957 + 30029) + (c + 1)) % 2147483477
theorem take_ok {ps : List PyData} (h : Pot ps) {few : Int} (h0 : 0 < few) (h1 : few < 1073741824) : ∃ (r : Nat) (ps' : List PyData), d__law_take ps [.int few] = some (.int r, ps') ∧ Pot ps' ∧ (r : Int) < few := by
  obtain ⟨a, b, c, rfl⟩ := h
  by_cases ha : 0 < a
  · refine ⟨(a % few).toNat, [.int (a / few), .int b, .int c], ?_, ⟨_, _, _, rfl⟩, ?_⟩
    · have := Int.emod_nonneg a (b := few) (by omega)
      rw [Int.toNat_of_nonneg this]
      simp [d__law_take, denM, g__law_take, entryM, entry, vr, ha, divmodD_int ⟨h0, h1⟩]
    · have := Int.emod_nonneg a (b := few) (by omega)
      have := Int.emod_lt_of_pos a h0
      omega
  · have e1 : ∀ x : Int, mulD (.int x) (.int 39373) = some (.int (x * 39373)) := fun x => mulD_int (mulOk_r ⟨by decide, by decide⟩)
    have e2 : ∀ x : Int, mulD (.int 14173) (.int x) = some (.int (14173 * x)) := fun x => mulD_int (mulOk_l ⟨by decide, by decide⟩)
    have e3 : ∀ x : Int, modD (.int x) (.int 2147483477) = some (.int (x % 2147483477)) := fun x => modD_int (by decide)
    have e4 : ∀ x : Int, modD (.int x) (.int 4957) = some (.int (x % 4957)) := fun x => modD_int (by decide)
    have e5 : ∀ x y : Int, mulD (.int x) (.int (y % 4957 + 30029)) = some (.int (x * (y % 4957 + 30029))) := fun x y => mulD_int (mulOk_r (by have := Int.emod_nonneg y (b := 4957) (by decide); have := Int.emod_lt_of_pos y (b := 4957) (by decide); omega))
    have e6 : ∀ x : Int, divD (.int x) (.int 911) = some (.int (x.fdiv 911)) := fun x => divD_int (divOk_of (by decide))
    have e7 : ∀ x : Int, modD (.int x) (.int few) = some (.int (x % few)) := fun x => modD_int h0
    have n1 := Int.emod_nonneg ((mixB b c).fdiv 911) (b := few) (by omega)
    have n2 := Int.emod_lt_of_pos ((mixB b c).fdiv 911) h0
    refine ⟨((mixB b c).fdiv 911 % few).toNat, [.int a, .int (mixB b c), .int (c + 1)], ?_, ⟨_, _, _, rfl⟩, by omega⟩
    rw [Int.toNat_of_nonneg n1]
    simp [d__law_take, denM, g__law_take, entryM, entry, vr, ha, e1, e2, e3, e4, e5, e6, e7, mixB, mixS]
end Lw

set_option Elab.async false
set_option linter.all false
set_option maxRecDepth 100000
/-! Cof: draws of things (of) -/
namespace Lw
open PySem PySem.Spec PyProof.Rows L2 Sm Pl
theorem of_ok {ps : List PyData} (h : Pot ps) {ds : List PyData} (h0 : 0 < ds.length) (h1 : ds.length < 1000) : ∃ (d : PyData) (ps' : List PyData), d__law_of ps [.tuple ds] = some (d, ps') ∧ Pot ps' ∧ d ∈ ds := by
  obtain ⟨r, ps', e, hp, hr⟩ := take_ok h (few := ds.length) (by omega) (by omega)
  have hr : r < ds.length := by omega
  refine ⟨ds[r], ps', ?_, hp, List.getElem_mem _⟩
  simp [d__law_of, denM, g__law_of, entryM, entry, vr, e, ixD, atI_cast, hr]
end Lw

set_option Elab.async false
set_option linter.all false
set_option maxRecDepth 100000
/-! Claw: the pot of a lap. -/
namespace Lw
open PySem PySem.Spec PyProof.Rows L2 Sm Pl
theorem m_r (x : Int) {y : Int} (h : 0 ≤ y) (h2 : y < 18446744073709551616) : mulD (.int x) (.int y) = some (.int (x * y)) := mulD_int (mulOk_rn h h2)
theorem md (x : Int) : modD (.int x) (.int 2147483477) = some (.int (x % 2147483477)) := modD_int (by decide)
theorem pt_step {S L : PyData} {m c : Int} {s4 : Sl} : ∃ q : Int, lb1__law_pot [.va S, .va L, .va (.int m), .va (.int c), s4] = some (.nx, [.va S, .va L, .va (.int q), .va (.int c), s4]) := by
  refine ⟨(m * 50993 + c % 2147483477 * 11 + 23) % 2147483477, ?_⟩
  have e1 := fun x => m_r x (y := 50993) (by decide) (by decide)
  have e2 := fun x => m_r x (y := 11) (by decide) (by decide)
  simp [lb1__law_pot, vr, e1, e2, md]
theorem pt_loop {S L : PyData} (ms : List Int) (m : Int) (x : Sl) : ∃ (q : Int) (y : Sl), forF (gN 3) lb1__law_pot (ms.map .int) [.va S, .va L, .va (.int m), x, .no] = some (.nx, [.va S, .va L, .va (.int q), y, .no]) := by
  induction ms generalizing m x with
  | nil => exact ⟨m, x, rfl⟩
  | cons c ms ih =>
    obtain ⟨q, hq⟩ := pt_step (S := S) (L := L) (m := m) (c := c) (s4 := .no)
    obtain ⟨r, y, hr⟩ := ih q (.va (.int c))
    exact ⟨r, y, (forF_nx rfl hq).trans hr⟩
def ptO : SF := asgF (iteE (tst (Sm.bin ltD (vr 1) (cal lenD (aCons (vr 0) aNil)))) (cal intOf (aCons (Sm.bin ixD (vr 0) (vr 1)) aNil)) (cst (.int 0))) (gN 4)
theorem pt_own {ns : List Int} {j : Nat} {m : Int} {y : Sl} : ∃ c : Int, ptO [.va (scrD ns), .va (.int j), .va (.int m), y, .no] = some (.nx, [.va (scrD ns), .va (.int j), .va (.int m), y, .va (.int c)]) := by
  by_cases h : j < ns.length
  · refine ⟨ns[j], ?_⟩
    have e : atI (ns.map PyData.int) (j : Int) = some (.int ns[j]) := by rw [atI_cast]; simp [h]
    simp [ptO, vr, scrD, ixD, e, h]
  · refine ⟨0, ?_⟩
    simp [ptO, vr, scrD, h]
def ptM : SF := asgF (Sm.bin modD (cal intOf (aCons (Sm.bin addD (Sm.bin addD (Sm.bin mulD (vr 2) (cst (.int 53))) (Sm.bin mulD (Sm.bin modD (cal intOf (aCons (vr 4) aNil)) (cst (.int 2147483477))) (cst (.int 40009)))) (cst (.int 7))) aNil)) (cst (.int 2147483477))) (gN 2)
theorem pt_mix {S L : PyData} {m c : Int} {y : Sl} : ∃ q : Int, ptM [.va S, .va L, .va (.int m), y, .va (.int c)] = some (.nx, [.va S, .va L, .va (.int q), y, .va (.int c)]) := by
  refine ⟨(m * 53 + c % 2147483477 * 40009 + 7) % 2147483477, ?_⟩
  have e1 := fun x => m_r x (y := 53) (by decide) (by decide)
  have e2 := fun x => m_r x (y := 40009) (by decide) (by decide)
  simp [ptM, vr, e1, e2, md]
def ptR : SF := retL (lst (aCons (iteE (orF (tst (Sm.bin ltD (vr 4) (cst (.int 0)))) (tst (Sm.bin geD (vr 4) (Sm.bin powD (cst (.int 10)) (cst (.int 15)))))) (cal absD (aCons (vr 4) aNil)) (cst (.int 0))) (aCons (vr 2) (aCons (cst (.int 0)) aNil))))
theorem pt_ret {S L : PyData} {m c : Int} {y : Sl} : ∃ ps, Pot ps ∧ ptR [.va S, .va L, .va (.int m), y, .va (.int c)] = some (.rt (.list ps), [.va S, .va L, .va (.int m), y, .va (.int c)]) := by
  have pw : powD (.int 10) (.int 15) = some (.int 1000000000000000) := by have := powD_int (i := 10) (j := 15) (by decide); simpa using this
  by_cases h : c < 0
  · exact ⟨_, ⟨_, m, 0, rfl⟩, by simp [ptR, vr, pw, h]; rfl⟩
  · by_cases h2 : 1000000000000000 ≤ c
    · exact ⟨_, ⟨_, m, 0, rfl⟩, by simp [ptR, vr, pw, h, h2]; rfl⟩
    · exact ⟨_, ⟨0, m, 0, rfl⟩, by simp [ptR, vr, pw, h, h2]⟩
theorem pt_first {ns : List Int} {j : Nat} : ∃ m : Int, (asgF (Sm.bin addD (cst (.int 60013)) (Sm.bin mulD (cst (.int 8087)) (vr 1))) (gN 2)) [.va (scrD ns), .va (.int j), .no, .no, .no] = some (.nx, [.va (scrD ns), .va (.int j), .va (.int m), .no, .no]) := by
  have := mulD_int (i := 8087) (j := j) (mulOk_ln (by decide) (by decide))
  exact ⟨60013 + 8087 * j, by simp [vr, this]⟩
theorem pt_it {ns : List Int} {L : PyData} {m : Int} : ∃ ms : List Int, (itF (slF (vr 0) oNo (oSo (cst (.int 9))))) [.va (scrD ns), .va L, .va (.int m), .no, .no] = some (ms.map .int, [.va (scrD ns), .va L, .va (.int m), .no, .no]) := by
  obtain ⟨ms, h⟩ := cutD_map ns none (some 9)
  refine ⟨ms, ?_⟩
  have e : slD (scrD ns) none (some 9) = some (.list (ms.map .int)) := by
    show some (PyData.list (Sm.cutD (ns.map .int) none (some 9))) = _
    rw [h]
  simp [vr, e]
theorem pot_ok (ns : List Int) (j : Nat) : ∃ ps, d__law_pot [scrD ns, .int j] = some ps ∧ Pot ps := by
  obtain ⟨m, h1⟩ := pt_first (ns := ns) (j := j)
  obtain ⟨ms, h2⟩ := pt_it (ns := ns) (L := .int j) (m := m)
  obtain ⟨q, y, h3⟩ := pt_loop (S := scrD ns) (L := .int j) ms m .no
  obtain ⟨c, h4⟩ := pt_own (ns := ns) (j := j) (m := q) (y := y)
  obtain ⟨q2, h5⟩ := pt_mix (S := scrD ns) (L := .int j) (m := q) (c := c) (y := y)
  obtain ⟨ps, hp, h6⟩ := pt_ret (S := scrD ns) (L := .int j) (m := q2) (c := c) (y := y)
  exact ⟨ps, denL_rt ((seqF_nx h1).trans ((seqF_nx ((forS_eq h2).trans h3)).trans ((seqF_nx h4).trans ((seqF_nx h5).trans h6)))), hp⟩
/-- the laps: lo at least, at most hi -/
theorem lw_rng {lo hi : Nat} (hlo : lo ≤ 100) (hhi : hi ≤ 100) (ns : List Int) (h : ns.length ≤ 63) : ∃ n : Nat, (rng1 (aCons (cal max2D (aCons (cst (.int lo)) (aCons (cal min2D (aCons (cal lenD (aCons (vr 0) aNil)) (aCons (cst (.int hi)) aNil))) aNil))) aNil)) [.va (scrD ns), .no] = some (rngL 0 n, [.va (scrD ns), .no]) := by
  refine ⟨(if (if (hi : Int) < (ns.length : Nat) then (hi : Int) else ((ns.length : Nat) : Int)) > lo then (if (hi : Int) < (ns.length : Nat) then (hi : Int) else ((ns.length : Nat) : Int)) else lo).toNat, rng1_eq (by omega) ?_⟩
  have e : (((if (if (hi : Int) < (ns.length : Nat) then (hi : Int) else ((ns.length : Nat) : Int)) > lo then (if (hi : Int) < (ns.length : Nat) then (hi : Int) else ((ns.length : Nat) : Int)) else (lo : Int)).toNat : Nat) : Int) = (if (if (hi : Int) < (ns.length : Nat) then (hi : Int) else ((ns.length : Nat) : Int)) > lo then (if (hi : Int) < (ns.length : Nat) then (hi : Int) else ((ns.length : Nat) : Int)) else lo) := by omega
  rw [e]
  simp [vr, scrD]
end Lw

set_option Elab.async false
set_option linter.all false
set_option maxRecDepth 100000
set_option maxHeartbeats 4000000
/-! K11a: the law's lots and rooms, typed. -/
namespace Lw
open PySem PySem.Spec PyProof.Rows L2 Sm
/-! ### lots of pairs -/
def pr (p : Nat × Nat) : PyData := .tuple [.int (p.1 : Nat), .int (p.2 : Nat)]
def tr (p : Nat × Nat × Nat) : PyData := .tuple [.int (p.1 : Nat), .int (p.2.1 : Nat), .int (p.2.2 : Nat)]
theorem pr_hd (ps : List (Nat × Nat)) : PyData.hasDictAll (ps.map pr) = false := by
  induction ps with
  | nil => rfl
  | cons p ps ih => simp [pr, PyData.hasDictAll, PyData.hasDict] at ih ⊢; exact ih
theorem pr_lay (ps : List (Nat × Nat)) : PyData.canLayAll0 (ps.map pr) = true := by
  induction ps with
  | nil => rfl
  | cons p ps ih => simp [pr, PyData.canLayAll0, PyData.canLay0] at ih ⊢; exact ih
theorem pr_dep (ps : List (Nat × Nat)) : PyData.depthAll (ps.map pr) ≤ 2 := by
  induction ps with
  | nil => simp [PyData.depthAll]
  | cons p ps ih => simp [pr, PyData.depthAll, PyData.depth] at ih ⊢; omega
theorem pr_inOk (p : Nat × Nat) (ps : List (Nat × Nat)) : inOkD (pr p) (ps.map pr) = true := by
  have h1 := pr_hd ps
  have h2 := pr_lay ps
  have h3 := pr_dep ps
  simp only [inOkD, SeqAt.shaped, PyData.hasDict, PyData.hasDictAll, PyData.canLay0, PyData.canLayAll0, PyData.depth, PyData.depthAll, pr] at *
  simp [h1, h2]
  omega
def hasP (p : Nat × Nat) : List (Nat × Nat) → Bool
  | [] => false
  | q :: qs => (Nat.beq q.1 p.1 && Nat.beq q.2 p.2) || hasP p qs
theorem pr_eqv (p q : Nat × Nat) : PyData.eqv (pr q) (pr p) = (Nat.beq q.1 p.1 && Nat.beq q.2 p.2) := by
  rw [Bool.eq_iff_iff]
  simp only [pr, PyData.eqv, PyData.eqvAll, Bool.and_true, Bool.and_eq_true, beq_iff_eq, Nat.beq_eq]
  omega
theorem pr_in (p : Nat × Nat) (ps : List (Nat × Nat)) : inD (pr p) (.tuple (ps.map pr)) = some (.bool (hasP p ps)) := by
  simp only [inD, pr_inOk, if_pos]
  congr 2
  induction ps with
  | nil => rfl
  | cons q qs ih => simp [hasP, pr_eqv, ih]
/-! ### lots -/
def lotT (n : Nat) (p : List Nat × Nat) : List (List Nat × Nat) := (List.range (n - p.2)).map fun i => (p.1 ++ [p.2 + i], p.2 + i + 1)
def lotsT (n : Nat) : Nat → List (List Nat × Nat)
  | 0 => [([], 0)]
  | m + 1 => (lotsT n m).flatMap (lotT n)
def at_ (xs : List PyData) (i : Nat) : PyData := xs.getD i .none
def decL (xs : List PyData) (p : List Nat × Nat) : PyData := .tuple [.tuple (p.1.map (at_ xs)), .int (p.2 : Nat)]
def llE (xs : List PyData) (M F T : PyData) (acc : List PyData) (l a : Sl) : En := [.va (.list xs), .va M, .va F, .va T, .va (.list acc), l, a, .no, .no]
section
variable {xs : List PyData} {M F T : PyData}
theorem ll_turn {acc : List PyData} {p : List Nat × Nat} (hp : p.2 ≤ xs.length) (hx : xs.length ≤ 100) (hl : p.1.length ≤ 100) (ha : acc.length ≤ 2000) :
    lb2__law_lots (llE xs M F T acc (.va (.tuple (p.1.map (at_ xs)))) (.va (.int (p.2 : Nat)))) = some (.nx, llE xs M F T (acc ++ (lotT xs.length p).map (decL xs)) (.va (.tuple (p.1.map (at_ xs)))) (.va (.int (p.2 : Nat)))) := by
  have e1 : (rng2 (aCons (vr 6) (aCons (cal lenD (aCons (vr 0) aNil)) aNil))) (llE xs M F T acc (.va (.tuple (p.1.map (at_ xs)))) (.va (.int (p.2 : Nat)))) = some ((List.range (xs.length - p.2)).map (fun i => PyData.int ((p.2 : Int) + (i : Nat))), llE xs M F T acc (.va (.tuple (p.1.map (at_ xs)))) (.va (.int (p.2 : Nat)))) := by
    rw [rng2_eq (i := p.2) (j := xs.length) (by omega) (by omega) (by omega) (by omega) (e1 := llE xs M F T acc (.va (.tuple (p.1.map (at_ xs)))) (.va (.int (p.2 : Nat)))) (by simp [llE, vr])]
    rw [rngL_map2, show ((xs.length : Int) - (p.2 : Nat)).toNat = xs.length - p.2 by omega]
  have e2 := lcF_map (fi := rng2 (aCons (vr 6) (aCons (cal lenD (aCons (vr 0) aNil)) aNil))) (g := gN 7) (fe := le3__law_lots) (vs := [7]) (fun i : Nat => PyData.int ((p.2 : Int) + (i : Nat))) (fun i => decL xs (p.1 ++ [p.2 + i], p.2 + i + 1)) (List.range (xs.length - p.2)) e1 (by simp; omega) (by rfl) fun i hi => by
    have hi : i < xs.length - p.2 := by simpa using hi
    have q : atI xs ((p.2 : Int) + (i : Nat)) = some (at_ xs (p.2 + i)) := by
      rw [show (p.2 : Int) + (i : Nat) = ((p.2 + i : Nat) : Int) by omega, atI_cast]
      simp [at_, show p.2 + i < xs.length by omega]
    refine ⟨_, [.va (.list xs), .va M, .va F, .va T, .va (.list acc), .va (.tuple (p.1.map (at_ xs))), .va (.int (p.2 : Nat)), .va (.int ((p.2 : Int) + (i : Nat))), .no], rfl, ?_, rfl⟩
    simp [le3__law_lots, llE, vr, ixD, q, addD, decL, wipeE, show p.1.length ≤ 16777215 by omega]
  have h3 : acc.length + (xs.length - p.2) ≤ 16777216 := by omega
  unfold lb2__law_lots llE at *
  simp only [asgF, Sm.bin, frz, vr, List.getElem?_cons_succ, List.getElem?_cons_zero] at e2 ⊢
  rw [e2]
  simp [addD, lotT, h3]
theorem ll_in (hx : xs.length ≤ 100) : ∀ (ps : List (List Nat × Nat)) (acc : List PyData) (l a : Sl), (∀ p ∈ ps, p.2 ≤ xs.length ∧ p.1.length ≤ 100) → acc.length + (ps.flatMap (lotT xs.length)).length ≤ 2000 →
    ∃ l' a', forF (gT 2 (gCons' (gN 5) (gCons' (gN 6) gNil'))) lb2__law_lots (ps.map (decL xs)) (llE xs M F T acc l a) = some (.nx, llE xs M F T (acc ++ (ps.flatMap (lotT xs.length)).map (decL xs)) l' a')
  | [], acc, l, a, _, _ => ⟨l, a, by simp [forF]⟩
  | p :: ps, acc, l, a, h, hb => by
    obtain ⟨h1, h2⟩ := h p (List.mem_cons_self ..)
    rw [List.flatMap_cons, List.length_append] at hb
    have t := ll_turn (xs := xs) (M := M) (F := F) (T := T) (acc := acc) h1 hx h2 (by omega)
    obtain ⟨l', a', q⟩ := ll_in hx ps (acc ++ (lotT xs.length p).map (decL xs)) _ _ (fun c hc => h c (List.mem_cons_of_mem _ hc)) (by rw [List.length_append, List.length_map]; omega)
    refine ⟨l', a', ?_⟩
    rw [List.map_cons, forF_nx (e1 := llE xs M F T acc (.va (.tuple (p.1.map (at_ xs)))) (.va (.int (p.2 : Nat)))) (by simp [decL, llE]) t, q]
    simp
end
def lotsB (n : Nat) : Bool := (List.range 11).all fun m => (lotsT n m).all (fun p => decide (p.2 ≤ n) && decide (p.1.length ≤ 100) && p.1.all fun i => decide (i < n)) && decide ((lotsT n m).length ≤ 2000)
theorem lots_b : ∀ n, n ≤ 10 → lotsB n = true := by decide +kernel
theorem lots_is {n m : Nat} (hn : n ≤ 10) (hm : m ≤ 10) : (∀ p ∈ lotsT n m, p.2 ≤ n ∧ p.1.length ≤ 100 ∧ ∀ i ∈ p.1, i < n) ∧ (lotsT n m).length ≤ 2000 := by
  have h := lots_b n hn
  simp only [lotsB, List.all_eq_true, List.mem_range, Bool.and_eq_true, decide_eq_true_eq] at h
  obtain ⟨h1, h2⟩ := h m (by omega)
  exact ⟨fun p hp => ⟨(h1 p hp).1.1, (h1 p hp).1.2, (h1 p hp).2⟩, h2⟩
theorem lots_ok {xs : List PyData} {m : Nat} (hx : xs.length ≤ 10) (hm : m ≤ 10) : d__law_lots [.list xs, .int m] = some (.list ((lotsT xs.length m).map fun p => .tuple (p.1.map (at_ xs)))) := by
  have h0 : asgF (frz (lst (aCons (tup (aCons (tup aNil) (aCons (cst (.int 0)) aNil))) aNil))) (gN 2) (entry 9 [.list xs, .int m]) = some (.nx, [.va (.list xs), .va (.int m), .va (.list ((lotsT xs.length 0).map (decL xs))), .no, .no, .no, .no, .no, .no]) := by
    simp [entry, lotsT, decL]
  have h1 : (rng1 (aCons (vr 1) aNil)) [.va (.list xs), .va (.int m), .va (.list ((lotsT xs.length 0).map (decL xs))), .no, .no, .no, .no, .no, .no] = some (rngL 0 m, [.va (.list xs), .va (.int m), .va (.list ((lotsT xs.length 0).map (decL xs))), .no, .no, .no, .no, .no, .no]) := rng1_eq (by omega) (by simp [vr])
  obtain ⟨e', h2, T, A, l, a, rfl⟩ := forF_rng (g := gN 3) (b := lb1__law_lots) (lo := 0) (n := m) (fun t e => ∃ T A l a, e = [.va (.list xs), .va (.int m), .va (.list ((lotsT xs.length t).map (decL xs))), T, A, l, a, .no, .no]) (env := [.va (.list xs), .va (.int m), .va (.list ((lotsT xs.length 0).map (decL xs))), .no, .no, .no, .no, .no, .no]) ⟨_, _, _, _, rfl⟩ fun t e ht ⟨T, A, l, a, he⟩ => by
    subst he
    obtain ⟨k1, k2⟩ := lots_is hx (m := t) (by omega)
    obtain ⟨_, k3⟩ := lots_is hx (m := t + 1) (by omega)
    obtain ⟨l', a', q⟩ := ll_in (xs := xs) (M := .int m) (F := .list ((lotsT xs.length t).map (decL xs))) (T := .int (t : Nat)) (by omega) (lotsT xs.length t) [] l a (fun p hp => ⟨(k1 p hp).1, (k1 p hp).2.1⟩) (by rw [List.length_nil, Nat.zero_add]; exact k3)
    refine ⟨_, _, rfl, ?_, .va (.int (t : Nat)), .va (.list ((lotsT xs.length (t + 1)).map (decL xs))), l', a', rfl⟩
    rw [Int.zero_add]
    unfold lb1__law_lots
    rw [seqF_nx (e1 := llE xs (.int m) (.list ((lotsT xs.length t).map (decL xs))) (.int (t : Nat)) [] l a) (by simp [llE])]
    rw [seqF_nx ((forS_eq (ds := (lotsT xs.length t).map (decL xs)) (e1 := llE xs (.int m) (.list ((lotsT xs.length t).map (decL xs))) (.int (t : Nat)) [] l a) (by simp [llE, vr])).trans q)]
    simp [llE, vr, lotsT]
  have e3 := lcF_map (fi := itF (vr 2)) (g := gN 8) (fe := le4__law_lots) (vs := [8]) (env := [.va (.list xs), .va (.int m), .va (.list ((lotsT xs.length m).map (decL xs))), T, A, l, a, .no, .no]) (env1 := [.va (.list xs), .va (.int m), .va (.list ((lotsT xs.length m).map (decL xs))), T, A, l, a, .no, .no]) (decL xs) (fun p => .tuple (p.1.map (at_ xs))) (lotsT xs.length m) (by simp [vr]) (by have := (lots_is hx hm).2; omega) (by simp) fun p hp =>
    ⟨_, [.va (.list xs), .va (.int m), .va (.list ((lotsT xs.length m).map (decL xs))), T, A, l, a, .no, .va (decL xs p)], rfl, by simp [le4__law_lots, vr, decL, ixD, atI], by simp⟩
  have h4 : (retF (frz (lcF (itF (vr 2)) (gN 8) yesF le4__law_lots [8]))) [.va (.list xs), .va (.int m), .va (.list ((lotsT xs.length m).map (decL xs))), T, A, l, a, .no, .no] = some (.rt (.list ((lotsT xs.length m).map fun p => .tuple (p.1.map (at_ xs)))), [.va (.list xs), .va (.int m), .va (.list ((lotsT xs.length m).map (decL xs))), T, A, l, a, .no, .no]) := by
    simp only [retF, frz, e3]
    simp
  exact denP_rt ((seqF_nx h0).trans ((seqF_nx ((forS_eq h1).trans h2)).trans h4))
/-! ### rooms -/
def inL (lot : List (Nat × Nat)) (c : Nat × Nat × Nat) : Bool := hasP (c.2.1, c.2.2) lot && (hasP (c.1, c.2.1) lot && hasP (c.1, c.2.2) lot)
def roomStep (cs : List (Nat × Nat × Nat)) (best : Nat) (lot : List (Nat × Nat)) : Nat := max best (cs.filter (inL lot)).length
def lotOf (ps : List (Nat × Nat)) (p : List Nat × Nat) : List (Nat × Nat) := p.1.map fun i => ps.getD i (0, 0)
def roomN (ps : List (Nat × Nat)) (cs : List (Nat × Nat × Nat)) (m : Nat) : Nat := ((lotsT ps.length m).map (lotOf ps)).foldl (roomStep cs) 0
theorem tr_from (c : Nat × Nat × Nat) : slD (tr c) (some 1) none = some (pr (c.2.1, c.2.2)) := rfl
theorem tr_to (c : Nat × Nat × Nat) : slD (tr c) none (some 2) = some (pr (c.1, c.2.1)) := rfl
theorem tr_0 (c : Nat × Nat × Nat) : ixD (tr c) (.int 0) = some (.int (c.1 : Nat)) := rfl
theorem tr_2 (c : Nat × Nat × Nat) : ixD (tr c) (.int 2) = some (.int (c.2.2 : Nat)) := rfl
theorem pr_mk (a b : Nat) : PyData.tuple [.int (a : Nat), .int (b : Nat)] = pr (a, b) := rfl
theorem room_turn {V M : PyData} {cs : List (Nat × Nat × Nat)} {best : Nat} {lot : List (Nat × Nat)} {s5 : Sl} (hc : cs.length ≤ 1000) : ∃ s, lb1__law_room [.va V, .va M, .va (.list (cs.map tr)), .va (.int (best : Nat)), .va (.tuple (lot.map pr)), s5, .no] = some (.nx, [.va V, .va M, .va (.list (cs.map tr)), .va (.int (roomStep cs best lot : Nat)), .va (.tuple (lot.map pr)), s, .no]) := by
  have e := lcF_flt (fi := itF (vr 2)) (g := gN 6) (ft := andF (tst (Sm.bin inD (slF (vr 6) (oSo (cst (.int 1))) oNo) (vr 4))) (andF (tst (Sm.bin inD (slF (vr 6) oNo (oSo (cst (.int 2)))) (vr 4))) (tst (Sm.bin inD (tup (aCons (Sm.bin ixD (vr 6) (cst (.int 0))) (aCons (Sm.bin ixD (vr 6) (cst (.int 2))) aNil))) (vr 4)))))
    (fe := le2__law_room) (vs := [6]) (env := [.va V, .va M, .va (.list (cs.map tr)), .va (.int (best : Nat)), .va (.tuple (lot.map pr)), s5, .no]) (env1 := [.va V, .va M, .va (.list (cs.map tr)), .va (.int (best : Nat)), .va (.tuple (lot.map pr)), s5, .no]) tr (inL lot) tr cs (by simp [vr]) (by omega) (by simp) fun c hcm => by
    have t1 : tst (Sm.bin inD (slF (vr 6) (oSo (cst (.int 1))) oNo) (vr 4)) [.va V, .va M, .va (.list (cs.map tr)), .va (.int (best : Nat)), .va (.tuple (lot.map pr)), s5, .va (tr c)] = some (hasP (c.2.1, c.2.2) lot, [.va V, .va M, .va (.list (cs.map tr)), .va (.int (best : Nat)), .va (.tuple (lot.map pr)), s5, .va (tr c)]) := by simp [vr, tr_from, pr_in]
    have t2 : tst (Sm.bin inD (slF (vr 6) oNo (oSo (cst (.int 2)))) (vr 4)) [.va V, .va M, .va (.list (cs.map tr)), .va (.int (best : Nat)), .va (.tuple (lot.map pr)), s5, .va (tr c)] = some (hasP (c.1, c.2.1) lot, [.va V, .va M, .va (.list (cs.map tr)), .va (.int (best : Nat)), .va (.tuple (lot.map pr)), s5, .va (tr c)]) := by simp [vr, tr_to, pr_in]
    have t3 : tst (Sm.bin inD (tup (aCons (Sm.bin ixD (vr 6) (cst (.int 0))) (aCons (Sm.bin ixD (vr 6) (cst (.int 2))) aNil))) (vr 4)) [.va V, .va M, .va (.list (cs.map tr)), .va (.int (best : Nat)), .va (.tuple (lot.map pr)), s5, .va (tr c)] = some (hasP (c.1, c.2.2) lot, [.va V, .va M, .va (.list (cs.map tr)), .va (.int (best : Nat)), .va (.tuple (lot.map pr)), s5, .va (tr c)]) := by simp [vr, tr_0, tr_2, pr_mk, pr_in]
    refine ⟨_, [.va V, .va M, .va (.list (cs.map tr)), .va (.int (best : Nat)), .va (.tuple (lot.map pr)), s5, .va (tr c)], rfl, ?_, fun _ => by simp, fun _ => ⟨[.va V, .va M, .va (.list (cs.map tr)), .va (.int (best : Nat)), .va (.tuple (lot.map pr)), s5, .va (tr c)], by simp [le2__law_room, vr], by simp⟩⟩
    simp only [wipeE, gN, List.set_cons_succ, List.set_cons_zero]
    cases q1 : hasP (c.2.1, c.2.2) lot <;> cases q2 : hasP (c.1, c.2.1) lot <;> simp only [andF, t1, t2, t3, q1, q2, inL, Bool.true_and, Bool.false_and]
  refine ⟨.va (.list ((cs.filter (inL lot)).map tr)), ?_⟩
  have hm : (if best < (cs.filter (inL lot)).length then (((cs.filter (inL lot)).length : Nat) : Int) else (best : Nat)) = (roomStep cs best lot : Nat) := by
    unfold roomStep
    split <;> omega
  unfold lb1__law_room
  rw [seqF_nx (e1 := [.va V, .va M, .va (.list (cs.map tr)), .va (.int (best : Nat)), .va (.tuple (lot.map pr)), .ow false ((cs.filter (inL lot)).map tr), .no]) (by simp only [asgO, e]; simp)]
  simp [vr, hm]
theorem at_pr {ps : List (Nat × Nat)} {i : Nat} (h : i < ps.length) : at_ (ps.map pr) i = pr (ps.getD i (0, 0)) := by
  simp [at_, h, List.getD, List.getElem?_map, List.getElem?_eq_getElem h]
theorem room_ok {v m : Nat} {ps : List (Nat × Nat)} {cs : List (Nat × Nat × Nat)} (h2 : d__law_products [.int v, .int 2] = some (.list (ps.map pr))) (h3 : d__law_products [.int v, .int 3] = some (.list (cs.map tr))) (hp : ps.length ≤ 10) (hc : cs.length ≤ 1000) (hm : m ≤ 10) : d__law_room [.int v, .int m] = some (.int (roomN ps cs m : Nat)) := by
  have hl := lots_ok (xs := ps.map pr) (m := m) (by simpa using hp) hm
  rw [List.length_map] at hl
  have hl2 : ((lotsT ps.length m).map fun p => PyData.tuple (p.1.map (at_ (ps.map pr)))) = ((lotsT ps.length m).map (lotOf ps)).map fun lot => PyData.tuple (lot.map pr) := by
    rw [List.map_map]
    refine List.map_congr_left fun p hpm => ?_
    have := (lots_is hp hm).1 p hpm
    simp only [Function.comp, lotOf, List.map_map]
    congr 1
    refine List.map_congr_left fun i hi => ?_
    exact at_pr (this.2.2 i hi)
  rw [hl2] at hl
  have h0 : parF [2, 3] (mVa (cal (fun ds => if ds.length = 2 then d__law_products ds else none) (aCons (vr 0) (aCons (cst (.int 3)) aNil))) (mVa (cst (.int 0)) mNil)) (entry 7 [.int v, .int m]) = some (.nx, [.va (.int v), .va (.int m), .va (.list (cs.map tr)), .va (.int (0 : Nat)), .no, .no, .no]) := by
    simp [entry, vr, h3]
  have h1 : (itF (cal (fun ds => if ds.length = 2 then d__law_lots ds else none) (aCons (cal (fun ds => if ds.length = 2 then d__law_products ds else none) (aCons (vr 0) (aCons (cst (.int 2)) aNil))) (aCons (vr 1) aNil)))) [.va (.int v), .va (.int m), .va (.list (cs.map tr)), .va (.int (0 : Nat)), .no, .no, .no] = some (((lotsT ps.length m).map (lotOf ps)).map fun lot => PyData.tuple (lot.map pr), [.va (.int v), .va (.int m), .va (.list (cs.map tr)), .va (.int (0 : Nat)), .no, .no, .no]) := by
    simp only [itF, cal, aCons, aNil, vr, cst, List.getElem?_cons_succ, List.getElem?_cons_zero]
    simp [h2, hl]
  obtain ⟨j', h4, _⟩ := forF_fold (g := gN 4) (b := lb1__law_room) (fun (b : Nat) (j : Sl × Sl) => [.va (.int v), .va (.int m), .va (.list (cs.map tr)), .va (.int (b : Nat)), j.1, j.2, .no]) (fun lot => PyData.tuple (lot.map pr)) (roomStep cs) (fun _ => True) ((lotsT ps.length m).map (lotOf ps)) 0 (.no, .no) trivial fun b j lot _ _ => by
    obtain ⟨s, q⟩ := room_turn (V := .int v) (M := .int m) (cs := cs) (best := b) (lot := lot) (s5 := j.2) hc
    exact ⟨_, (.va (.tuple (lot.map pr)), s), rfl, q, trivial⟩
  exact denP_rt (e := [.va (.int v), .va (.int m), .va (.list (cs.map tr)), .va (.int (roomN ps cs m : Nat)), j'.1, j'.2, .no]) ((seqF_nx h0).trans ((seqF_nx ((forS_eq h1).trans h4)).trans (by simp [vr, roomN])))
end Lw

set_option Elab.async false
set_option linter.all false
set_option maxRecDepth 1000000
set_option maxHeartbeats 0
/-! K11b: printed: products, rooms, what is most next, for the numbers that are met. -/
namespace Lw
open PySem PySem.Spec PyProof.Rows L2 Sm
def pS : Nat → List (Nat × Nat)
  | 0 => []
  | 1 => [(1, 1)]
  | 2 => [(1, 1), (1, 2), (2, 2)]
  | 3 => [(1, 1), (1, 2), (2, 2), (1, 3), (2, 3), (3, 3)]
  | 4 => [(1, 1), (1, 2), (2, 2), (1, 3), (2, 3), (3, 3), (1, 4), (2, 4), (3, 4), (4, 4)]
  | _ => []
def cS : Nat → List (Nat × Nat × Nat)
  | 0 => []
  | 1 => [(1, 1, 1)]
  | 2 => [(1, 1, 1), (1, 1, 2), (1, 2, 2), (2, 2, 2)]
  | 3 => [(1, 1, 1), (1, 1, 2), (1, 2, 2), (2, 2, 2), (1, 1, 3), (1, 2, 3), (2, 2, 3), (1, 3, 3), (2, 3, 3), (3, 3, 3)]
  | 4 => [(1, 1, 1), (1, 1, 2), (1, 2, 2), (2, 2, 2), (1, 1, 3), (1, 2, 3), (2, 2, 3), (1, 3, 3), (2, 3, 3), (3, 3, 3), (1, 1, 4), (1, 2, 4), (2, 2, 4), (1, 3, 4), (2, 3, 4), (3, 3, 4), (1, 4, 4), (2, 4, 4), (3, 4, 4), (4, 4, 4)]
  | _ => []
theorem p2_0 : d__law_products [.int 0, .int 2] = some (.list ((pS 0).map pr)) := by kernel_rfl
theorem p3_0 : d__law_products [.int 0, .int 3] = some (.list ((cS 0).map tr)) := by kernel_rfl
theorem p2_1 : d__law_products [.int 1, .int 2] = some (.list ((pS 1).map pr)) := by kernel_rfl
theorem p3_1 : d__law_products [.int 1, .int 3] = some (.list ((cS 1).map tr)) := by kernel_rfl
theorem p2_2 : d__law_products [.int 2, .int 2] = some (.list ((pS 2).map pr)) := by kernel_rfl
theorem p3_2 : d__law_products [.int 2, .int 3] = some (.list ((cS 2).map tr)) := by kernel_rfl
theorem p2_3 : d__law_products [.int 3, .int 2] = some (.list ((pS 3).map pr)) := by kernel_rfl
theorem p3_3 : d__law_products [.int 3, .int 3] = some (.list ((cS 3).map tr)) := by kernel_rfl
theorem p2_4 : d__law_products [.int 4, .int 2] = some (.list ((pS 4).map pr)) := by kernel_rfl
theorem p3_4 : d__law_products [.int 4, .int 3] = some (.list ((cS 4).map tr)) := by kernel_rfl
def nx2 : Nat → Nat
  | 0 => 0
  | 1 => 1
  | 2 => 2
  | 3 => 4
  | 4 => 5
  | 5 => 7
  | 6 => 10
  | 7 => 11
  | 8 => 13
  | 9 => 16
  | 10 => 20
  | _ => 0
def roomB (v : Nat) : Bool := (List.range ((pS v).length + 1)).all fun m => Nat.beq (roomN (pS v) (cS v) m) (nx2 m)
theorem room_b0 : roomB 0 = true := by decide +kernel
theorem room_b1 : roomB 1 = true := by decide +kernel
theorem room_b2 : roomB 2 = true := by decide +kernel
theorem room_b3 : roomB 3 = true := by decide +kernel
theorem room_b4 : roomB 4 = true := by decide +kernel
theorem room_is {v m : Nat} (hv : v ≤ 4) (hm : m ≤ (pS v).length) : roomN (pS v) (cS v) m = nx2 m := by
  have h : roomB v = true := by
    rcases (by omega : v = 0 ∨ v = 1 ∨ v = 2 ∨ v = 3 ∨ v = 4) with rfl | rfl | rfl | rfl | rfl
    · exact room_b0
    · exact room_b1
    · exact room_b2
    · exact room_b3
    · exact room_b4
  simp only [roomB, List.all_eq_true, List.mem_range] at h
  exact Nat.eq_of_beq_eq_true (h m (by omega))
theorem p2_is {v : Nat} (hv : v ≤ 4) : d__law_products [.int v, .int 2] = some (.list ((pS v).map pr)) := by
  rcases (by omega : v = 0 ∨ v = 1 ∨ v = 2 ∨ v = 3 ∨ v = 4) with rfl | rfl | rfl | rfl | rfl
  · exact p2_0
  · exact p2_1
  · exact p2_2
  · exact p2_3
  · exact p2_4
theorem p3_is {v : Nat} (hv : v ≤ 4) : d__law_products [.int v, .int 3] = some (.list ((cS v).map tr)) := by
  rcases (by omega : v = 0 ∨ v = 1 ∨ v = 2 ∨ v = 3 ∨ v = 4) with rfl | rfl | rfl | rfl | rfl
  · exact p3_0
  · exact p3_1
  · exact p3_2
  · exact p3_3
  · exact p3_4
/-- how many pairs -/
def nx1_ : Nat → Nat
  | 0 => 0
  | 1 => 1
  | 2 => 3
  | 3 => 6
  | 4 => 10
  | _ => 0
theorem pS_len {v : Nat} (hv : v ≤ 4) : (pS v).length = nx1_ v ∧ (pS v).length ≤ 10 ∧ (cS v).length ≤ 20 := by
  rcases (by omega : v = 0 ∨ v = 1 ∨ v = 2 ∨ v = 3 ∨ v = 4) with rfl | rfl | rfl | rfl | rfl <;> decide
theorem room_v {v m : Nat} (hv : v ≤ 4) (hm : m ≤ nx1_ v) : d__law_room [.int v, .int m] = some (.int (nx2 m : Nat)) := by
  obtain ⟨h1, h2, h3⟩ := pS_len hv
  rw [← room_is hv (by omega)]
  exact room_ok (p2_is hv) (p3_is hv) h2 (by omega) (by omega)
/-! ### what is most next -/
def mnx (n k : Nat) : Nat := if k = 1 then nx1_ n else if k = 2 then nx2 n else if n ≤ 1 then n else k + 2
def mnOk (n k : Nat) : Bool := (decide (k = 1) && decide (n ≤ 4)) || (decide (k = 2) && decide (n ≤ 10)) || (decide (3 ≤ k) && decide (k ≤ 6) && (decide (n ≤ 1) || decide (n = k + 1)))
theorem mn_0_1 : d_most_next_by [.int 0, .int 1] = some (.int 0) := by kernel_rfl
theorem mn_1_1 : d_most_next_by [.int 1, .int 1] = some (.int 1) := by kernel_rfl
theorem mn_2_1 : d_most_next_by [.int 2, .int 1] = some (.int 3) := by kernel_rfl
theorem mn_3_1 : d_most_next_by [.int 3, .int 1] = some (.int 6) := by kernel_rfl
theorem mn_4_1 : d_most_next_by [.int 4, .int 1] = some (.int 10) := by kernel_rfl
theorem mn_0_2 : d_most_next_by [.int 0, .int 2] = some (.int 0) := by kernel_rfl
theorem mn_1_2 : d_most_next_by [.int 1, .int 2] = some (.int 1) := by kernel_rfl
theorem mn_2_2 : d_most_next_by [.int 2, .int 2] = some (.int 2) := by kernel_rfl
theorem mn_3_2 : d_most_next_by [.int 3, .int 2] = some (.int 4) := by kernel_rfl
theorem mn_4_2 : d_most_next_by [.int 4, .int 2] = some (.int 5) := by kernel_rfl
theorem mn_5_2 : d_most_next_by [.int 5, .int 2] = some (.int 7) := by kernel_rfl
theorem mn_6_2 : d_most_next_by [.int 6, .int 2] = some (.int 10) := by kernel_rfl
theorem mn_7_2 : d_most_next_by [.int 7, .int 2] = some (.int 11) := by kernel_rfl
theorem mn_8_2 : d_most_next_by [.int 8, .int 2] = some (.int 13) := by kernel_rfl
theorem mn_9_2 : d_most_next_by [.int 9, .int 2] = some (.int 16) := by kernel_rfl
theorem mn_10_2 : d_most_next_by [.int 10, .int 2] = some (.int 20) := by kernel_rfl
theorem mn_0_3 : d_most_next_by [.int 0, .int 3] = some (.int 0) := by kernel_rfl
theorem mn_1_3 : d_most_next_by [.int 1, .int 3] = some (.int 1) := by kernel_rfl
theorem mn_4_3 : d_most_next_by [.int 4, .int 3] = some (.int 5) := by kernel_rfl
theorem mn_0_4 : d_most_next_by [.int 0, .int 4] = some (.int 0) := by kernel_rfl
theorem mn_1_4 : d_most_next_by [.int 1, .int 4] = some (.int 1) := by kernel_rfl
theorem mn_5_4 : d_most_next_by [.int 5, .int 4] = some (.int 6) := by kernel_rfl
theorem mn_0_5 : d_most_next_by [.int 0, .int 5] = some (.int 0) := by kernel_rfl
theorem mn_1_5 : d_most_next_by [.int 1, .int 5] = some (.int 1) := by kernel_rfl
theorem mn_6_5 : d_most_next_by [.int 6, .int 5] = some (.int 7) := by kernel_rfl
theorem mn_0_6 : d_most_next_by [.int 0, .int 6] = some (.int 0) := by kernel_rfl
theorem mn_1_6 : d_most_next_by [.int 1, .int 6] = some (.int 1) := by kernel_rfl
theorem mn_7_6 : d_most_next_by [.int 7, .int 6] = some (.int 8) := by kernel_rfl
theorem mn_is {n k : Nat} (h : mnOk n k = true) : d_most_next_by [.int n, .int k] = some (.int (mnx n k : Nat)) := by
  simp only [mnOk, Bool.or_eq_true, Bool.and_eq_true, decide_eq_true_eq] at h
  rcases h with (⟨rfl, h⟩ | ⟨rfl, h⟩) | ⟨⟨h1, h2⟩, h⟩
  · rcases (by omega : n = 0 ∨ n = 1 ∨ n = 2 ∨ n = 3 ∨ n = 4) with rfl | rfl | rfl | rfl | rfl
    · exact mn_0_1
    · exact mn_1_1
    · exact mn_2_1
    · exact mn_3_1
    · exact mn_4_1
  · rcases (by omega : n = 0 ∨ n = 1 ∨ n = 2 ∨ n = 3 ∨ n = 4 ∨ n = 5 ∨ n = 6 ∨ n = 7 ∨ n = 8 ∨ n = 9 ∨ n = 10) with rfl | rfl | rfl | rfl | rfl | rfl | rfl | rfl | rfl | rfl | rfl
    · exact mn_0_2
    · exact mn_1_2
    · exact mn_2_2
    · exact mn_3_2
    · exact mn_4_2
    · exact mn_5_2
    · exact mn_6_2
    · exact mn_7_2
    · exact mn_8_2
    · exact mn_9_2
    · exact mn_10_2
  · rcases (by omega : k = 3 ∨ k = 4 ∨ k = 5 ∨ k = 6) with rfl | rfl | rfl | rfl
    · rcases (by omega : n = 0 ∨ n = 1 ∨ n = 4) with rfl | rfl | rfl
      · exact mn_0_3
      · exact mn_1_3
      · exact mn_4_3
    · rcases (by omega : n = 0 ∨ n = 1 ∨ n = 5) with rfl | rfl | rfl
      · exact mn_0_4
      · exact mn_1_4
      · exact mn_5_4
    · rcases (by omega : n = 0 ∨ n = 1 ∨ n = 6) with rfl | rfl | rfl
      · exact mn_0_5
      · exact mn_1_5
      · exact mn_6_5
    · rcases (by omega : n = 0 ∨ n = 1 ∨ n = 7) with rfl | rfl | rfl
      · exact mn_0_6
      · exact mn_1_6
      · exact mn_7_6
end Lw

set_option Elab.async false
set_option linter.all false
set_option maxRecDepth 100000
set_option maxHeartbeats 4000000
/-! K11c: the first fault of a row. -/
namespace Lw
open PySem PySem.Spec PyProof.Rows L2 Sm
abbrev iR (row : List Int) : PyData := .tuple (row.map .int)
theorem whole_int (v : Int) : d_is_whole [.int v] = some (.bool true) := by
  simp [d_is_whole, denP, g_is_whole, entry, vr, isiD, tyOf]
  rfl
theorem between_int (v lo hi : Int) : d_is_between [.int v, .int lo, .int hi] = some (.bool (decide (lo ≤ v) && decide (v ≤ hi))) := by
  have e := whole_int v
  by_cases h : lo ≤ v <;> simp [d_is_between, denP, g_is_between, entry, vr, e, h]
theorem ix_row {row : List Int} {i : Nat} (h : i < row.length) : ixD (iR row) (.int (i : Nat)) = some (.int (row.getD i 0)) := by
  show atI (row.map PyData.int) (i : Int) = _
  rw [atI_cast]
  simp [h]
def failsT (row : List Int) (i : Nat) : Bool :=
  if i = 0 then !decide (row.getD 0 0 = 1) else if row.getD i 0 < 0 then true else if 1 < i then decide (((mnx (row.getD (i - 1) 0).toNat (i - 1) : Nat) : Int) < row.getD i 0) else false
theorem fails_0 {R : PyData} {a : Int} (e : ixD R (.int 0) = some (.int a)) : d_fails_at [R, .int 0] = some (.bool (!decide (a = 1))) := by
  simp [d_fails_at, denP, g_fails_at, entry, vr, e]
theorem fails_neg {R : PyData} {i a : Int} (h0 : i ≠ 0) (e : ixD R (.int i) = some (.int a)) (h : a < 0) : d_fails_at [R, .int i] = some (.bool true) := by
  simp [d_fails_at, denP, g_fails_at, entry, vr, e, h0, h]
theorem fails_1 {R : PyData} {i a : Int} (h0 : i ≠ 0) (e : ixD R (.int i) = some (.int a)) (h : ¬ a < 0) (h1 : ¬ 1 < i) : d_fails_at [R, .int i] = some (.bool false) := by
  simp [d_fails_at, denP, g_fails_at, entry, vr, e, h0, h, h1]
theorem fails_2 {R : PyData} {i a b q : Int} (h0 : i ≠ 0) (e : ixD R (.int i) = some (.int a)) (h : ¬ a < 0) (h1 : 1 < i) (e1 : ixD R (.int (i - 1)) = some (.int b)) (e2 : d_most_next_by [.int b, .int (i - 1)] = some (.int q)) : d_fails_at [R, .int i] = some (.bool (decide (q < a))) := by
  simp [d_fails_at, denP, g_fails_at, entry, vr, e, h0, h, h1, e1, e2]
theorem fails_ok {row : List Int} {i : Nat} (h : i < row.length) (hg : 2 ≤ i → 0 ≤ row.getD (i - 1) 0 ∧ mnOk (row.getD (i - 1) 0).toNat (i - 1) = true) : d_fails_at [iR row, .int (i : Nat)] = some (.bool (failsT row i)) := by
  have e0 := ix_row h
  by_cases h0 : i = 0
  · subst h0
    unfold failsT
    rw [if_pos rfl]
    exact fails_0 e0
  · have e2 : ¬ ((i : Nat) : Int) = 0 := by omega
    unfold failsT
    rw [if_neg h0]
    by_cases h1 : row.getD i 0 < 0
    · rw [if_pos h1]
      exact fails_neg e2 e0 h1
    · rw [if_neg h1]
      by_cases h2 : 1 < i
      · obtain ⟨g1, g2⟩ := hg h2
        have e3 : ixD (iR row) (.int ((i : Int) - 1)) = some (.int (row.getD (i - 1) 0)) := by
          rw [show (i : Int) - 1 = ((i - 1 : Nat) : Int) by omega]
          exact ix_row (by omega)
        have e4 : d_most_next_by [.int (row.getD (i - 1) 0), .int ((i : Int) - 1)] = some (.int (mnx (row.getD (i - 1) 0).toNat (i - 1) : Nat)) := by
          have := mn_is g2
          rw [show (((row.getD (i - 1) 0).toNat : Nat) : Int) = row.getD (i - 1) 0 by omega, show ((i - 1 : Nat) : Int) = (i : Int) - 1 by omega] at this
          exact this
        rw [if_pos h2]
        exact fails_2 e2 e0 h1 (by omega) e3 e4
      · rw [if_neg h2]
        exact fails_1 e2 e0 h1 (by omega)
def faultT (row : List Int) : Option Nat := (List.range row.length).findSome? fun t => if failsT row t = true then some t else none
def GoodRow (row : List Int) : Prop := ∀ i, 2 ≤ i → i < row.length → (∀ s, s < i → failsT row s = false) → 0 ≤ row.getD (i - 1) 0 ∧ mnOk (row.getD (i - 1) 0).toNat (i - 1) = true
def faultL (row : List Int) : List PyData := match faultT row with
  | some t => [.int (t : Nat)]
  | none => []
theorem find_map {α β γ : Type} (f : α → Option β) (g : β → γ) : ∀ l : List α, (l.findSome? fun a => (f a).map g) = (l.findSome? f).map g
  | [] => rfl
  | a :: l => by
    rw [List.findSome?_cons, List.findSome?_cons]
    cases f a with
    | none => exact find_map f g l
    | some b => rfl
theorem fault_ok {row : List Int} (hg : GoodRow row) (hl : row.length ≤ 8) : d_fault_by [iR row] = some (.list (faultL row)) := by
  have h1 : (rng1 (aCons (cal lenD (aCons (vr 0) aNil)) aNil)) (entry 2 [iR row]) = some (rngL 0 row.length, [.va (iR row), .no]) := rng1_eq (by omega) (by simp [entry, vr])
  obtain ⟨j, h2⟩ := forF_rfind (g := gN 1) (b := lb1_fault_by) (lo := 0) (fun j : Sl => [.va (iR row), j]) (fun t => (if failsT row t = true then some t else none).map fun t => PyData.list [.int (t : Nat)]) row.length (fun t ht hs j => by
    have e := fails_ok (row := row) (i := t) ht fun h2 => hg t h2 ht fun s hs' => by
      have := hs s hs'
      cases q : failsT row s with
      | false => rfl
      | true => simp [q] at this
    refine ⟨_, .va (.int (t : Nat)), rfl, ?_⟩
    rw [Int.zero_add]
    cases q : failsT row t <;> simp [lb1_fault_by, vr, e, q, retOr]) .no
  rw [find_map] at h2
  have h3 : forS (rng1 (aCons (cal lenD (aCons (vr 0) aNil)) aNil)) (gN 1) lb1_fault_by (entry 2 [iR row]) = some (retOr ((faultT row).map fun t => PyData.list [.int (t : Nat)]), [.va (iR row), j]) := (forS_eq h1).trans h2
  cases q : faultT row with
  | none =>
    rw [q] at h3
    simp only [faultL, q]
    exact denP_rt (e := [.va (iR row), j]) ((seqF_nx h3).trans (by simp))
  | some t =>
    rw [q] at h3
    simp only [faultL, q]
    exact denP_rt (e := [.va (iR row), j]) (seqF_rt h3)
theorem enu_ints (l : List Int) : enuL (l.map .int) = l.zipIdx.map fun p => PyData.tuple [.int (p.2 : Nat), .int p.1] := by
  unfold enuL
  rw [List.zipIdx_map, List.map_map]
  rfl
theorem checkSeq {row : List Int} (h0 : 1 ≤ row.length) (h1 : row.length ≤ 8) (hb : ∀ v ∈ row, -1000000 ≤ v ∧ v ≤ 1000000) : d_check_sequence [iR row] = some .none := by
  have e1 : (iteS (orF (notF (tst (una (isiD "tuple") (vr 0)))) (notF (tst (chF leD leD (cst (.int 1)) (cal lenD (aCons (vr 0) aNil)) (cst (.int 8)))))) noF nxF) (entry 3 [iR row]) = some (.nx, [.va (iR row), .no, .no]) := by
    have h2 : (1 : Int) ≤ row.length := by omega
    have h3 : (row.length : Int) ≤ 8 := by omega
    have kt : kitB "tuple" "tuple" = some true := by decide +kernel
    have h4 : (1 : Nat) ≤ row.length := h0
    simp [entry, vr, isiD, tyOf, kt, h3, h4, h1]
    rw [decide_eq_true h2]
    rfl
  have e2 : (enuF (aCons (vr 0) aNil)) [.va (iR row), .no, .no] = some (row.zipIdx.map fun p => PyData.tuple [.int (p.2 : Nat), .int p.1], [.va (iR row), .no, .no]) := by
    rw [← enu_ints]
    simp [enuF, vr]
  obtain ⟨j, e3, _⟩ := forF_fold (g := gT 2 (gCons' (gN 1) (gCons' (gN 2) gNil'))) (b := lb1_check_sequence) (fun (_ : Unit) (j : Sl × Sl) => [.va (iR row), j.1, j.2]) (fun p : Int × Nat => PyData.tuple [.int (p.2 : Nat), .int p.1]) (fun _ _ => ()) (fun _ => True) row.zipIdx () (.no, .no) trivial fun _ j p hp _ => by
    have hv := hb p.1 (List.fst_mem_of_mem_zipIdx hp)
    have e := between_int p.1 (-1000000) 1000000
    refine ⟨_, (.va (.int (p.2 : Nat)), .va (.int p.1)), rfl, ?_, trivial⟩
    simp [lb1_check_sequence, vr, e, hv.1, hv.2]
  have e4 := (seqF_nx e1).trans ((forS_eq e2).trans e3)
  show denP 3 g_check_sequence [iR row] = _
  unfold denP
  rw [show g_check_sequence (entry 3 [iR row]) = some (.nx, [.va (iR row), j.1, j.2]) from e4]
def dueD (f : Option Nat) : PyData := match f with
  | some t => .int (t : Nat)
  | none => .none
theorem first_ok {row : List Int} (hg : GoodRow row) (h0 : 1 ≤ row.length) (h1 : row.length ≤ 8) (hb : ∀ v ∈ row, -1000000 ≤ v ∧ v ≤ 1000000) : d_first_fault [iR row] = some (dueD (faultT row)) ∧ d_is_m_sequence [iR row] = some (.bool (isNone (dueD (faultT row)))) := by
  have e1 := checkSeq h0 h1 hb
  have e2 := fault_ok hg h1
  cases q : faultT row with
  | none =>
    simp only [faultL, q] at e2
    exact ⟨by simp [d_first_fault, denP, g_first_fault, entry, vr, e1, e2, forS, forF, dueD], by simp [d_is_m_sequence, denP, g_is_m_sequence, entry, vr, e1, e2, dueD]; rfl⟩
  | some t =>
    simp only [faultL, q] at e2
    exact ⟨by simp [d_first_fault, denP, g_first_fault, lb1_first_fault, entry, vr, e1, e2, forS, forF, dueD], by simp [d_is_m_sequence, denP, g_is_m_sequence, entry, vr, e1, e2, dueD]; rfl⟩
end Lw

set_option Elab.async false
set_option linter.all false
set_option maxRecDepth 100000
set_option maxHeartbeats 4000000
/-! K11d: the drawn rows. -/
namespace Lw
open PySem PySem.Spec PyProof.Rows L2 Sm
def sq1 : EF := (calM 0 (fun ps ds => if ds.length = 1 then d__law_of ps ds else none) (aCons (tup (aCons (cst (.int 0)) (aCons (cst (.int 1)) (aCons (cst (.int 2)) (aCons (cst (.int 3)) (aCons (cst (.int 3)) (aCons (cst (.int 4)) (aCons (cst (.int 2)) (aCons (cst (.int 3)) (aCons (cst (.int 4)) (aCons (una negD (cst (.int 1))) aNil))))))))))) aNil))
def sq2 : EF := (iteE (tst (Sm.bin geD (vr 1) (cst (.int 0)))) (cal lenD (aCons (cal (fun ds => if ds.length = 2 then d__law_products ds else none) (aCons (vr 1) (aCons (cst (.int 2)) aNil))) aNil)) (cst (.int 2)))
def sq3 : EF := (calM 0 (fun ps ds => if ds.length = 1 then d__law_of ps ds else none) (aCons (tup (aCons (calM 0 (fun ps ds => if ds.length = 1 then d__law_take ps ds else none) (aCons (Sm.bin addD (vr 2) (cst (.int 1))) aNil)) (aCons (calM 0 (fun ps ds => if ds.length = 1 then d__law_take ps ds else none) (aCons (Sm.bin addD (vr 2) (cst (.int 1))) aNil)) (aCons (vr 2) (aCons (Sm.bin addD (vr 2) (cst (.int 1))) (aCons (una negD (cst (.int 1))) aNil)))))) aNil))
def sq4 : EF := (iteE (andF (tst (Sm.bin geD (vr 1) (cst (.int 0)))) (tst (chF leD leD (cst (.int 0)) (vr 3) (vr 2)))) (cal (fun ds => if ds.length = 2 then d__law_room ds else none) (aCons (vr 1) (aCons (vr 3) aNil))) (cst (.int 3)))
def sq5 : EF := (calM 0 (fun ps ds => if ds.length = 1 then d__law_of ps ds else none) (aCons (tup (aCons (vr 4) (aCons (vr 4) (aCons (Sm.bin addD (vr 4) (cst (.int 1))) (aCons (Sm.bin addD (vr 4) (cst (.int 2))) (aCons (calM 0 (fun ps ds => if ds.length = 1 then d__law_take ps ds else none) (aCons (Sm.bin addD (vr 4) (cst (.int 1))) aNil)) (aCons (cst (.int 0)) (aCons (una negD (cst (.int 1))) aNil)))))))) aNil))
def sq6 : EF := (calM 0 (fun ps ds => if ds.length = 1 then d__law_of ps ds else none) (aCons (tup (aCons (cst (.int 1)) (aCons (cst (.int 1)) (aCons (cst (.int 1)) (aCons (cst (.int 1)) (aCons (cst (.int 1)) (aCons (cst (.int 1)) (aCons (cst (.int 1)) (aCons (cst (.int 1)) (aCons (cst (.int 1)) (aCons (cst (.int 1)) (aCons (cst (.int 1)) (aCons (cst (.int 1)) (aCons (cst (.int 0)) (aCons (cst (.int 2)) (aCons (una negD (cst (.int 1))) aNil)))))))))))))))) aNil))
def sq7 : EF := (slF (tup (aCons (vr 6) (aCons (vr 1) (aCons (vr 3) (aCons (vr 5) aNil))))) oNo (oSo (calM 0 (fun ps ds => if ds.length = 1 then d__law_of ps ds else none) (aCons (tup (aCons (cst (.int 4)) (aCons (cst (.int 4)) (aCons (cst (.int 4)) (aCons (cst (.int 4)) (aCons (cst (.int 4)) (aCons (cst (.int 4)) (aCons (cst (.int 4)) (aCons (cst (.int 4)) (aCons (cst (.int 3)) (aCons (cst (.int 3)) (aCons (cst (.int 2)) (aCons (cst (.int 1)) aNil))))))))))))) aNil))))
abbrev sE (p : List PyData) (a b c d e f : Sl) : En := [.ow true p, a, b, c, d, e, f]
section
variable {p p1 p2 p3 : List PyData} {a b c d e f : Sl}
theorem sq1_run {z : PyData} (h : d__law_of p [.tuple [.int 0, .int 1, .int 2, .int 3, .int 3, .int 4, .int 2, .int 3, .int 4, .int (-1)]] = some (z, p1)) : sq1 (sE p a b c d e f) = some (z, sE p1 a b c d e f) := by
  simp [sq1, vr, h]
theorem sq2_no : sq2 (sE p (.va (.int (-1))) b c d e f) = some (.int 2, sE p (.va (.int (-1))) b c d e f) := by
  simp [sq2, vr]
theorem sq2_run {v : Nat} (hv : v ≤ 4) : sq2 (sE p (.va (.int v)) b c d e f) = some (.int (nx1_ v : Nat), sE p (.va (.int v)) b c d e f) := by
  have h := p2_is hv
  have h0 : (0 : Int) ≤ v := by omega
  simp [sq2, vr, h, h0, (pS_len hv).1]
theorem sq3_run {q x y : Int} {z : PyData} (h1 : d__law_take p [.int (q + 1)] = some (.int x, p1)) (h2 : d__law_take p1 [.int (q + 1)] = some (.int y, p2)) (h3 : d__law_of p2 [.tuple [.int x, .int y, .int q, .int (q + 1), .int (-1)]] = some (z, p3)) :
    sq3 (sE p a (.va (.int q)) c d e f) = some (z, sE p3 a (.va (.int q)) c d e f) := by
  simp [sq3, vr, h1, h2, h3]
theorem sq4_run {v m : Nat} {q : Int} (hv : v ≤ 4) (hm : m ≤ nx1_ v) (hq : q = nx1_ v) : sq4 (sE p (.va (.int v)) (.va (.int q)) (.va (.int m)) d e f) = some (.int (nx2 m : Nat), sE p (.va (.int v)) (.va (.int q)) (.va (.int m)) d e f) := by
  have h := room_v hv hm
  subst hq
  have h0 : (0 : Int) ≤ v := by omega
  have h1 : (0 : Int) ≤ m := by omega
  have h2 : (m : Int) ≤ nx1_ v := by omega
  simp [sq4, vr, h, h0, h1, h2, hm]
theorem sq4_no {v s q : Int} (h : v < 0 ∨ s < 0 ∨ q < s) : sq4 (sE p (.va (.int v)) (.va (.int q)) (.va (.int s)) d e f) = some (.int 3, sE p (.va (.int v)) (.va (.int q)) (.va (.int s)) d e f) := by
  by_cases h0 : 0 ≤ v
  · by_cases h1 : 0 ≤ s
    · have h2 : ¬ s ≤ q := by omega
      simp [sq4, vr, h0, h1, h2]
    · simp [sq4, vr, h0, h1]
  · simp [sq4, vr, h0]
theorem sq5_run {q x : Int} {z : PyData} (h1 : d__law_take p [.int (q + 1)] = some (.int x, p1)) (h3 : d__law_of p1 [.tuple [.int q, .int q, .int (q + 1), .int (q + 2), .int x, .int 0, .int (-1)]] = some (z, p2)) :
    sq5 (sE p a b c (.va (.int q)) e f) = some (z, sE p2 a b c (.va (.int q)) e f) := by
  simp [sq5, vr, h1, h3]
theorem sq6_run {z : PyData} (h : d__law_of p [.tuple [.int 1, .int 1, .int 1, .int 1, .int 1, .int 1, .int 1, .int 1, .int 1, .int 1, .int 1, .int 1, .int 0, .int 2, .int (-1)]] = some (z, p1)) : sq6 (sE p a b c d e f) = some (z, sE p1 a b c d e f) := by
  simp [sq6, vr, h]
theorem sq7_run {w x y z : Int} {k : Nat} {B D : Sl} (h : d__law_of p [.tuple [.int 4, .int 4, .int 4, .int 4, .int 4, .int 4, .int 4, .int 4, .int 3, .int 3, .int 2, .int 1]] = some (.int k, p1)) :
    sq7 (sE p (.va (.int x)) B (.va (.int y)) D (.va (.int z)) (.va (.int w))) = some (iR ([w, x, y, z].take k), sE p1 (.va (.int x)) B (.va (.int y)) D (.va (.int z)) (.va (.int w))) := by
  have hc := cutD_to [PyData.int w, .int x, .int y, .int z] k
  simp [sq7, vr, h, slD, hc]
end
/-- a drawn row -/
def SeqRow (row : List Int) : Prop := ∃ (w x y z : Int) (k : Nat), row = [w, x, y, z].take k ∧ 1 ≤ k ∧ k ≤ 4 ∧ -1 ≤ w ∧ w ≤ 2 ∧ -1 ≤ x ∧ x ≤ 4 ∧ -1 ≤ y ∧ y ≤ 11 ∧ -1 ≤ z ∧ z ≤ 22
theorem nx1_le {v : Nat} (hv : v ≤ 4) : nx1_ v ≤ 10 := by
  rcases (by omega : v = 0 ∨ v = 1 ∨ v = 2 ∨ v = 3 ∨ v = 4) with rfl | rfl | rfl | rfl | rfl <;> decide
theorem nx2_le {m : Nat} (hm : m ≤ 10) : nx2 m ≤ 20 := by
  have : ∀ m, m ≤ 10 → nx2 m ≤ 20 := by decide
  exact this m hm
theorem seq_ok {p : List PyData} (hp : Pot p) : ∃ row p', d__law_sequence p [] = some (iR row, p') ∧ Pot p' ∧ SeqRow row := by
  obtain ⟨z1, p1, e1, hp1, m1⟩ := of_ok hp (ds := [.int 0, .int 1, .int 2, .int 3, .int 3, .int 4, .int 2, .int 3, .int 4, .int (-1)]) (by decide) (by decide)
  obtain ⟨x, hx, hx1, hx2⟩ : ∃ x : Int, z1 = .int x ∧ -1 ≤ x ∧ x ≤ 4 := by
    simp only [List.mem_cons, List.not_mem_nil, or_false] at m1
    rcases m1 with rfl | rfl | rfl | rfl | rfl | rfl | rfl | rfl | rfl | rfl <;> exact ⟨_, rfl, by decide, by decide⟩
  subst hx
  obtain ⟨q, hq, hq0, hq1, hq2⟩ : ∃ q : Int, (∀ p b c d e f, sq2 (sE p (.va (.int x)) b c d e f) = some (.int q, sE p (.va (.int x)) b c d e f)) ∧ 0 ≤ q ∧ q ≤ 10 ∧ (0 ≤ x → q = nx1_ x.toNat) := by
    by_cases h : 0 ≤ x
    · obtain ⟨v, rfl⟩ := Int.eq_ofNat_of_zero_le h
      have := nx1_le (v := v) (by omega)
      exact ⟨nx1_ v, fun p b c d e f => sq2_run (by omega), by omega, by omega, fun _ => by simp⟩
    · obtain rfl : x = -1 := by omega
      exact ⟨2, fun p b c d e f => sq2_no, by decide, by decide, fun h => absurd h (by decide)⟩
  obtain ⟨t1, p2, e2, hp2, g1⟩ := take_ok hp1 (few := q + 1) (by omega) (by omega)
  obtain ⟨t2, p3, e3, hp3, g2⟩ := take_ok hp2 (few := q + 1) (by omega) (by omega)
  obtain ⟨z2, p4, e4, hp4, m2⟩ := of_ok hp3 (ds := [.int t1, .int t2, .int q, .int (q + 1), .int (-1)]) (by simp) (by simp)
  obtain ⟨y, hy, hy1, hy2⟩ : ∃ y : Int, z2 = .int y ∧ -1 ≤ y ∧ y ≤ q + 1 := by
    simp only [List.mem_cons, List.not_mem_nil, or_false] at m2
    rcases m2 with rfl | rfl | rfl | rfl | rfl <;> exact ⟨_, rfl, by omega, by omega⟩
  subst hy
  obtain ⟨r, hr, hr0, hr1⟩ : ∃ r : Int, (∀ p d e f, sq4 (sE p (.va (.int x)) (.va (.int q)) (.va (.int y)) d e f) = some (.int r, sE p (.va (.int x)) (.va (.int q)) (.va (.int y)) d e f)) ∧ 0 ≤ r ∧ r ≤ 20 := by
    by_cases h : x < 0 ∨ y < 0 ∨ q < y
    · exact ⟨3, fun p d e f => sq4_no h, by decide, by decide⟩
    · have h0 : 0 ≤ x := by omega
      have hq3 := hq2 h0
      obtain ⟨v, rfl⟩ := Int.eq_ofNat_of_zero_le h0
      obtain ⟨m, rfl⟩ := Int.eq_ofNat_of_zero_le (show 0 ≤ y by omega)
      have hq3 : q = nx1_ v := by simpa using hq3
      have := nx2_le (m := m) (by omega)
      exact ⟨nx2 m, fun p d e f => sq4_run (by omega) (by omega) hq3, by omega, by omega⟩
  obtain ⟨t3, p5, e5, hp5, g3⟩ := take_ok hp4 (few := r + 1) (by omega) (by omega)
  obtain ⟨z3, p6, e6, hp6, m3⟩ := of_ok hp5 (ds := [.int r, .int r, .int (r + 1), .int (r + 2), .int t3, .int 0, .int (-1)]) (by simp) (by simp)
  obtain ⟨z, hz, hz1, hz2⟩ : ∃ z : Int, z3 = .int z ∧ -1 ≤ z ∧ z ≤ 22 := by
    simp only [List.mem_cons, List.not_mem_nil, or_false] at m3
    rcases m3 with rfl | rfl | rfl | rfl | rfl | rfl | rfl <;> exact ⟨_, rfl, by omega, by omega⟩
  subst hz
  obtain ⟨z4, p7, e7, hp7, m4⟩ := of_ok hp6 (ds := [.int 1, .int 1, .int 1, .int 1, .int 1, .int 1, .int 1, .int 1, .int 1, .int 1, .int 1, .int 1, .int 0, .int 2, .int (-1)]) (by decide) (by decide)
  obtain ⟨w, hw, hw1, hw2⟩ : ∃ w : Int, z4 = .int w ∧ -1 ≤ w ∧ w ≤ 2 := by
    simp only [List.mem_cons, List.not_mem_nil, or_false] at m4
    rcases m4 with rfl | rfl | rfl | rfl | rfl | rfl | rfl | rfl | rfl | rfl | rfl | rfl | rfl | rfl | rfl <;> exact ⟨_, rfl, by decide, by decide⟩
  subst hw
  obtain ⟨z5, p8, e8, hp8, m5⟩ := of_ok hp7 (ds := [.int 4, .int 4, .int 4, .int 4, .int 4, .int 4, .int 4, .int 4, .int 3, .int 3, .int 2, .int 1]) (by decide) (by decide)
  obtain ⟨k, hk, hk1, hk2⟩ : ∃ k : Nat, z5 = .int k ∧ 1 ≤ k ∧ k ≤ 4 := by
    simp only [List.mem_cons, List.not_mem_nil, or_false] at m5
    rcases m5 with rfl | rfl | rfl | rfl | rfl | rfl | rfl | rfl | rfl | rfl | rfl | rfl
    all_goals first | exact ⟨4, rfl, by decide, by decide⟩ | exact ⟨3, rfl, by decide, by decide⟩ | exact ⟨2, rfl, by decide, by decide⟩ | exact ⟨1, rfl, by decide, by decide⟩
  subst hk
  refine ⟨[w, x, y, z].take k, p8, ?_, hp8, w, x, y, z, k, rfl, hk1, hk2, hw1, hw2, hx1, hx2, hy1, by omega, hz1, hz2⟩
  refine denM_rt (e := sE p8 (.va (.int x)) (.va (.int q)) (.va (.int y)) (.va (.int r)) (.va (.int z)) (.va (.int w))) ?_ rfl
  exact (seqF_nx (asgF_eq (sq1_run e1) rfl)).trans ((seqF_nx (asgF_eq (hq _ _ _ _ _ _) rfl)).trans ((seqF_nx (asgF_eq (sq3_run e2 e3 e4) rfl)).trans ((seqF_nx (asgF_eq (hr _ _ _ _) rfl)).trans ((seqF_nx (asgF_eq (sq5_run e5 e6) rfl)).trans ((seqF_nx (asgF_eq (sq6_run e7) rfl)).trans (retF_eq (sq7_run e8)))))))
end Lw

set_option Elab.async false
set_option linter.all false
set_option maxRecDepth 100000
set_option maxHeartbeats 4000000
/-! K11e: what the search tells of a drawn row. -/
namespace Lw
open PySem PySem.Spec PyProof.Rows L2 Sm
def RowOk (row : List Int) (f : Option Nat) : Prop := faultT row = f ∧ GoodRow row ∧ 1 ≤ row.length ∧ row.length ≤ 8 ∧ ∀ v ∈ row, -1000000 ≤ v ∧ v ≤ 1000000
def goodB (row : List Int) : Bool := (List.range row.length).all fun i => decide (i < 2) || !((List.range i).all fun s => !failsT row s) || (decide (0 ≤ row.getD (i - 1) 0) && mnOk (row.getD (i - 1) 0).toNat (i - 1))
theorem good_of {row : List Int} (h : goodB row = true) : GoodRow row := fun i h2 hi hs => by
  simp only [goodB, List.all_eq_true, List.mem_range] at h
  have h1 := h i hi
  have h3 : ((List.range i).all fun s => !failsT row s) = true := by
    simp only [List.all_eq_true, List.mem_range]
    intro s hs'
    simp [hs s hs']
  have h4 : decide (i < 2) = false := by simp; omega
  rw [h3, h4] at h1
  simpa using h1
theorem s_0 {w : Int} {r : List Int} (h : w ≠ 1) : d__law_searched [iR (w :: r)] = some (.int 0) := by
  simp [d__law_searched, denP, g__law_searched, entry, vr, ixD, h]
theorem s_n1 : d__law_searched [iR [1]] = some .none := by
  simp [d__law_searched, denP, g__law_searched, entry, vr, ixD]
theorem s_1 {x : Int} {r : List Int} (h : x < 0) : d__law_searched [iR (1 :: x :: r)] = some (.int 1) := by
  have : (1 : Int) < ((r.length : Int) + 1 + 1) := by omega
  simp [d__law_searched, denP, g__law_searched, entry, vr, ixD, h, this]
theorem s_n2 {x : Int} (h : ¬ x < 0) : d__law_searched [iR [1, x]] = some .none := by
  simp [d__law_searched, denP, g__law_searched, entry, vr, ixD, h]
theorem s_2 {v : Nat} {y : Int} {r : List Int} (hv : v ≤ 4) (h : y < 0 ∨ (nx1_ v : Int) < y) : d__law_searched [iR (1 :: (v : Int) :: y :: r)] = some (.int 2) := by
  have h0 : ¬ (v : Int) < 0 := by omega
  have h1 : (1 : Int) < ((r.length : Int) + 1 + 1 + 1) := by omega
  have h2 : (2 : Int) < ((r.length : Int) + 1 + 1 + 1) := by omega
  have e := p2_is hv
  have el := (pS_len hv).1
  by_cases hy : y < 0
  · simp [d__law_searched, denP, g__law_searched, entry, vr, ixD, h0, h1, h2, hy]
  · have hy2 : (nx1_ v : Int) < y := h.resolve_left hy
    simp [d__law_searched, denP, g__law_searched, entry, vr, ixD, h0, h1, h2, hy, e, el, hy2]
theorem s_n3 {v m : Nat} (hv : v ≤ 4) (hm : m ≤ nx1_ v) : d__law_searched [iR [1, (v : Int), (m : Int)]] = some .none := by
  have h0 : ¬ (v : Int) < 0 := by omega
  have h3 : ¬ (m : Int) < 0 := by omega
  have h4 : ¬ (nx1_ v : Int) < m := by omega
  have h5 : ¬ nx1_ v < m := by omega
  have e := p2_is hv
  have el := (pS_len hv).1
  simp [d__law_searched, denP, g__law_searched, entry, vr, ixD, h0, h3, e, el, h4, h5, hm]
theorem s_3 {v m : Nat} {z : Int} (hv : v ≤ 4) (hm : m ≤ nx1_ v) (h : z < 0 ∨ (nx2 m : Int) < z) : d__law_searched [iR [1, (v : Int), (m : Int), z]] = some (.int 3) := by
  have h0 : ¬ (v : Int) < 0 := by omega
  have h3 : ¬ (m : Int) < 0 := by omega
  have h4 : ¬ (nx1_ v : Int) < m := by omega
  have h5 : ¬ nx1_ v < m := by omega
  have e := p2_is hv
  have el := (pS_len hv).1
  have e2 := room_v hv hm
  by_cases hz : z < 0
  · simp [d__law_searched, denP, g__law_searched, entry, vr, ixD, h0, h3, e, el, h4, h5, hz, hm]
  · have hz2 : (nx2 m : Int) < z := h.resolve_left hz
    simp [d__law_searched, denP, g__law_searched, entry, vr, ixD, h0, h3, e, el, h4, h5, hz, e2, hz2, hm]
theorem s_n4 {v m : Nat} {z : Int} (hv : v ≤ 4) (hm : m ≤ nx1_ v) (h : ¬ z < 0) (h2 : ¬ (nx2 m : Int) < z) : d__law_searched [iR [1, (v : Int), (m : Int), z]] = some .none := by
  have h0 : ¬ (v : Int) < 0 := by omega
  have h3 : ¬ (m : Int) < 0 := by omega
  have h4 : ¬ (nx1_ v : Int) < m := by omega
  have h5 : ¬ nx1_ v < m := by omega
  have e := p2_is hv
  have el := (pS_len hv).1
  have e2 := room_v hv hm
  simp [d__law_searched, denP, g__law_searched, entry, vr, ixD, h0, h3, e, el, h4, h5, h, e2, h2, hm]
/-! ### the typed side -/
theorem f_0 {w : Int} {r : List Int} (h : w ≠ 1) : failsT (w :: r) 0 = true := by simp [failsT, h]
theorem f_0n {r : List Int} : failsT (1 :: r) 0 = false := by simp [failsT]
theorem f_1 {w x : Int} {r : List Int} : failsT (w :: x :: r) 1 = decide (x < 0) := by simp [failsT]
theorem f_2 {w y : Int} {v : Nat} {r : List Int} : failsT (w :: (v : Int) :: y :: r) 2 = (decide (y < 0) || decide ((nx1_ v : Int) < y)) := by
  by_cases h : y < 0 <;> simp [failsT, h, mnx]
theorem f_3 {w x z : Int} {m : Nat} {r : List Int} : failsT (w :: x :: (m : Int) :: z :: r) 3 = (decide (z < 0) || decide ((nx2 m : Int) < z)) := by
  by_cases h : z < 0 <;> simp [failsT, h, mnx]
theorem fa_0 {w : Int} {r : List Int} (h : w ≠ 1) : faultT (w :: r) = some 0 := by
  simp only [faultT, List.length_cons, List.range_succ_eq_map, List.findSome?_cons, f_0 h, if_true]
theorem fa_1x {x : Int} {r : List Int} (h : x < 0) : faultT (1 :: x :: r) = some 1 := by
  simp [faultT, List.length_cons, List.range_succ_eq_map, List.findSome?_cons, f_0n, f_1, h]
theorem fa_2x {v : Nat} {y : Int} {r : List Int} (h : y < 0 ∨ (nx1_ v : Int) < y) : faultT (1 :: (v : Int) :: y :: r) = some 2 := by
  have h0 : ¬ (v : Int) < 0 := by omega
  have h1 : (decide (y < 0) || decide ((nx1_ v : Int) < y)) = true := by simpa using h
  simp [faultT, List.length_cons, List.range_succ_eq_map, List.findSome?_cons, f_0n, f_1, f_2, h]
theorem fa_3x {v m : Nat} {z : Int} (hm : m ≤ nx1_ v) (h : z < 0 ∨ (nx2 m : Int) < z) : faultT [1, (v : Int), (m : Int), z] = some 3 := by
  have h2 : ¬ nx1_ v < m := by omega
  simp [faultT, List.length_cons, List.range_succ_eq_map, List.findSome?_cons, f_0n, f_1, f_2, f_3, h, h2, hm]
theorem fa_n1 : faultT [1] = none := by simp [faultT, List.range_succ_eq_map, List.findSome?_cons, f_0n]
theorem fa_n2 {x : Int} (h : ¬ x < 0) : faultT [1, x] = none := by
  simp [faultT, List.range_succ_eq_map, List.findSome?_cons, f_0n, f_1, h]
theorem fa_n3 {v m : Nat} (hm : m ≤ nx1_ v) : faultT [1, (v : Int), (m : Int)] = none := by
  have h2 : ¬ nx1_ v < m := by omega
  simp [faultT, List.range_succ_eq_map, List.findSome?_cons, f_0n, f_1, f_2, h2, hm]
theorem fa_n4 {v m : Nat} {z : Int} (hm : m ≤ nx1_ v) (h : ¬ z < 0) (h3 : ¬ (nx2 m : Int) < z) : faultT [1, (v : Int), (m : Int), z] = none := by
  have h2 : ¬ nx1_ v < m := by omega
  simp [faultT, List.range_succ_eq_map, List.findSome?_cons, f_0n, f_1, f_2, f_3, h, h2, h3, hm]
theorem g2 {w x y : Int} {r : List Int} (hx : x ≤ 4) (hs : ∀ s, s < 2 → failsT (w :: x :: y :: r) s = false) : 0 ≤ x ∧ mnOk x.toNat 1 = true := by
  have h1 := hs 1 (by omega)
  rw [f_1] at h1
  have h1 : ¬ x < 0 := by simpa using h1
  refine ⟨by omega, ?_⟩
  have : x.toNat ≤ 4 := by omega
  simp [mnOk, this]
theorem g3 {w x y z : Int} {r : List Int} (hx : x ≤ 4) (hs : ∀ s, s < 3 → failsT (w :: x :: y :: z :: r) s = false) : 0 ≤ y ∧ mnOk y.toNat 2 = true := by
  obtain ⟨h0, _⟩ := g2 (w := w) (x := x) (y := y) (r := z :: r) hx fun s h => hs s (by omega)
  obtain ⟨v, rfl⟩ := Int.eq_ofNat_of_zero_le h0
  have h2 := hs 2 (by omega)
  rw [f_2] at h2
  have h2 : ¬ y < 0 ∧ ¬ (nx1_ v : Int) < y := by simpa using h2
  have := nx1_le (v := v) (by omega)
  have h3 : y.toNat ≤ 10 := by omega
  exact ⟨by omega, by simp [mnOk, h3]⟩
theorem good_1 {w : Int} : GoodRow [w] := fun i h2 hi _ => by simp at hi; omega
theorem good_2 {w x : Int} : GoodRow [w, x] := fun i h2 hi _ => by simp at hi; omega
theorem good_3 {w x y : Int} (hx : x ≤ 4) : GoodRow [w, x, y] := fun i h2 hi hs => by
  simp at hi
  obtain rfl : i = 2 := by omega
  exact g2 hx hs
theorem good_4 {w x y z : Int} (hx : x ≤ 4) : GoodRow [w, x, y, z] := fun i h2 hi hs => by
  simp at hi
  rcases (by omega : i = 2 ∨ i = 3) with rfl | rfl
  · exact g2 hx hs
  · exact g3 hx hs
theorem seq_all {row : List Int} (h : SeqRow row) : ∃ f, (∀ t, f = some t → t < 8) ∧ d__law_searched [iR row] = some (dueD f) ∧ RowOk row f := by
  obtain ⟨w, x, y, z, k, rfl, hk1, hk2, w1, w2, x1, x2, y1, y2, z1, z2⟩ := h
  have bd : ∀ v ∈ [w, x, y, z].take k, -1000000 ≤ v ∧ v ≤ 1000000 := fun v hv => by
    have := List.mem_of_mem_take hv
    simp only [List.mem_cons, List.not_mem_nil, or_false] at this
    rcases this with rfl | rfl | rfl | rfl <;> omega
  have good : GoodRow ([w, x, y, z].take k) := by
    rcases (by omega : k = 1 ∨ k = 2 ∨ k = 3 ∨ k = 4) with rfl | rfl | rfl | rfl
    · exact good_1
    · exact good_2
    · exact good_3 x2
    · exact good_4 x2
  have len : 1 ≤ ([w, x, y, z].take k).length ∧ ([w, x, y, z].take k).length ≤ 8 := by
    rw [List.length_take]
    simp
    omega
  have fin : ∀ f, (∀ t, f = some t → t < 8) → d__law_searched [iR ([w, x, y, z].take k)] = some (dueD f) → faultT ([w, x, y, z].take k) = f → ∃ f, (∀ t, f = some t → t < 8) ∧ d__law_searched [iR ([w, x, y, z].take k)] = some (dueD f) ∧ RowOk ([w, x, y, z].take k) f := fun f ht h1 h2 => ⟨f, ht, h1, h2, good, len.1, len.2, bd⟩
  have lt : ∀ n : Nat, n < 8 → ∀ t, some n = some t → t < 8 := fun n hn t e => by cases e; exact hn
  have no : ∀ t : Nat, (none : Option Nat) = some t → t < 8 := fun t e => nomatch e
  by_cases hw : w = 1
  · subst hw
    rcases (by omega : k = 1 ∨ 2 ≤ k) with rfl | k2
    · exact fin none no s_n1 fa_n1
    · by_cases hx : x < 0
      · refine fin (some 1) (lt 1 (by omega)) ?_ ?_
        · obtain ⟨j, rfl⟩ : ∃ j, k = j + 2 := ⟨k - 2, by omega⟩
          exact s_1 hx
        · obtain ⟨j, rfl⟩ : ∃ j, k = j + 2 := ⟨k - 2, by omega⟩
          exact fa_1x hx
      · rcases (by omega : k = 2 ∨ 3 ≤ k) with rfl | k3
        · exact fin none no (s_n2 hx) (fa_n2 hx)
        · obtain ⟨v, rfl⟩ := Int.eq_ofNat_of_zero_le (show 0 ≤ x by omega)
          by_cases hy : y < 0 ∨ (nx1_ v : Int) < y
          · refine fin (some 2) (lt 2 (by omega)) ?_ ?_
            · obtain ⟨j, rfl⟩ : ∃ j, k = j + 3 := ⟨k - 3, by omega⟩
              exact s_2 (by omega) hy
            · obtain ⟨j, rfl⟩ : ∃ j, k = j + 3 := ⟨k - 3, by omega⟩
              exact fa_2x hy
          · obtain ⟨m, rfl⟩ := Int.eq_ofNat_of_zero_le (show 0 ≤ y by omega)
            have hm : m ≤ nx1_ v := by omega
            rcases (by omega : k = 3 ∨ k = 4) with rfl | rfl
            · exact fin none no (s_n3 (by omega) hm) (fa_n3 hm)
            · by_cases hz : z < 0 ∨ (nx2 m : Int) < z
              · exact fin (some 3) (lt 3 (by omega)) (s_3 (by omega) hm hz) (fa_3x hm hz)
              · exact fin none no (s_n4 (by omega) hm (by omega) (by omega)) (fa_n4 hm (by omega) (by omega))
  · obtain ⟨j, rfl⟩ : ∃ j, k = j + 1 := ⟨k - 1, by omega⟩
    exact fin (some 0) (lt 0 (by omega)) (s_0 hw) (fa_0 hw)
end Lw

set_option Elab.async false
set_option linter.all false
set_option maxRecDepth 100000
set_option maxHeartbeats 4000000
/-! K11f: thin and wide rows. -/
namespace Lw
open PySem PySem.Spec PyProof.Rows L2 Sm
/-! ### a fault stays the first one -/
theorem fr_some {P : Nat → Bool} {n t : Nat} (h : ((List.range n).findSome? fun t => if P t = true then some t else none) = some t) : t < n ∧ P t = true ∧ ∀ i, i < t → P i = false := by
  induction n with
  | zero => simp at h
  | succ n ih =>
    rw [List.range_succ, List.findSome?_append] at h
    cases q : (List.range n).findSome? fun t => if P t = true then some t else none with
    | some u =>
      rw [q] at h
      cases h
      obtain ⟨h1, h2, h3⟩ := ih q
      exact ⟨by omega, h2, h3⟩
    | none =>
      rw [q] at h
      simp only [List.findSome?_eq_none_iff, List.mem_range] at q
      have h : (if P n = true then some n else none) = some t := by simpa using h
      split at h
      · rename_i hp
        cases h
        refine ⟨by omega, hp, fun i hi => ?_⟩
        have := q i hi
        cases e : P i with
        | false => rfl
        | true => rw [e] at this; simp at this
      · cases h
theorem fr_of {P : Nat → Bool} {n t : Nat} (h1 : t < n) (h2 : P t = true) (h3 : ∀ i, i < t → P i = false) : ((List.range n).findSome? fun t => if P t = true then some t else none) = some t := by
  cases q : (List.range n).findSome? fun t => if P t = true then some t else none with
  | some u =>
    obtain ⟨g1, g2, g3⟩ := fr_some q
    by_cases e : u < t
    · rw [h3 u e] at g2; cases g2
    · by_cases e2 : t < u
      · rw [g3 t e2] at h2; cases h2
      · rw [show u = t by omega]
  | none =>
    simp only [List.findSome?_eq_none_iff, List.mem_range] at q
    have := q t h1
    rw [h2] at this
    simp at this
theorem getD_pre {s m : List Int} {i : Nat} (h : i < s.length) : (s ++ m).getD i 0 = s.getD i 0 := by
  simp [List.getD, List.getElem?_append_left h]
theorem fails_pre {s m : List Int} {i : Nat} (h : i < s.length) : failsT (s ++ m) i = failsT s i := by
  unfold failsT
  rw [getD_pre h, getD_pre (show i - 1 < s.length by omega), getD_pre (show 0 < s.length by omega)]
theorem fault_pre {s m : List Int} {t : Nat} (h : faultT s = some t) (g : GoodRow s) : faultT (s ++ m) = some t ∧ GoodRow (s ++ m) := by
  obtain ⟨h1, h2, h3⟩ := fr_some (P := failsT s) h
  refine ⟨fr_of (P := failsT (s ++ m)) (by simp; omega) (by rw [fails_pre h1]; exact h2) fun i hi => by rw [fails_pre (by omega)]; exact h3 i hi, fun i i2 hi hs => ?_⟩
  have hit : i ≤ t := by
    by_cases e : t < i
    · have := hs t e
      rw [fails_pre h1, h2] at this
      cases this
    · omega
  rw [getD_pre (show i - 1 < s.length by omega)]
  exact g i i2 (by omega) fun j hj => by
    have := hs j hj
    rw [fails_pre (by omega)] at this
    exact this
/-! ### thin rows -/
def rowAB (a b : Nat) : List Int := List.replicate a 1 ++ List.replicate b 0
def lastAB (b : Nat) : Int := if b = 0 then 1 else 0
theorem ab_ok : ∀ a, a ≤ 8 → ∀ b, b ≤ 8 → 1 ≤ a → a + b ≤ 8 → faultT (rowAB a b) = none ∧ goodB (rowAB a b) = true := by decide +kernel
def abB (v : Int) (b0 : Nat) : Bool := (List.range 8).all fun a => (List.range 8).all fun b => !(decide (1 ≤ a) && decide (b0 ≤ b) && decide (2 ≤ a + b) && decide (a + b ≤ 7)) || (decide (faultT (rowAB a b ++ [v]) = some (a + b)) && goodB (rowAB a b ++ [v]))
theorem abB_is {v : Int} {b0 : Nat} (h : abB v b0 = true) {a b : Nat} (h1 : 1 ≤ a) (hb : b0 ≤ b) (h2 : 2 ≤ a + b) (h7 : a + b ≤ 7) : faultT (rowAB a b ++ [v]) = some (a + b) ∧ goodB (rowAB a b ++ [v]) = true := by
  simp only [abB, List.all_eq_true, List.mem_range] at h
  have := h a (by omega) b (by omega)
  rw [decide_eq_true h1, decide_eq_true hb, decide_eq_true h2, decide_eq_true h7] at this
  simpa using this
theorem abB_m : abB (-1) 0 = true := by decide +kernel
theorem abB_1 : abB 1 1 = true := by decide +kernel
theorem abB_2 : abB 2 0 = true := by decide +kernel
theorem ab_bad {a b : Nat} {v : Int} (h1 : 1 ≤ a) (h2 : 2 ≤ a + b) (h7 : a + b ≤ 7) (hv : v = lastAB b ∨ v = 0 ∨ v = 1 ∨ v = 2 ∨ v = -1) (h : v < 0 ∨ lastAB b < v) : faultT (rowAB a b ++ [v]) = some (a + b) ∧ goodB (rowAB a b ++ [v]) = true := by
  have hl : (b = 0 ∧ lastAB b = 1) ∨ (1 ≤ b ∧ lastAB b = 0) := by
    cases b with
    | zero => exact .inl ⟨rfl, rfl⟩
    | succ b => exact .inr ⟨by omega, rfl⟩
  rcases (by omega : v = -1 ∨ (v = 1 ∧ 1 ≤ b) ∨ v = 2) with rfl | ⟨rfl, hb⟩ | rfl
  · exact abB_is abB_m h1 (by omega) h2 h7
  · exact abB_is abB_1 h1 hb h2 h7
  · exact abB_is abB_2 h1 (by omega) h2 h7
theorem ab_last {a b : Nat} (ha : 1 ≤ a) : ∃ ys, rowAB a b = ys ++ [lastAB b] := by
  cases b with
  | zero =>
    obtain ⟨c, rfl⟩ : ∃ c, a = c + 1 := ⟨a - 1, by omega⟩
    exact ⟨List.replicate c 1, by simp [rowAB, lastAB, List.replicate_succ']⟩
  | succ b => exact ⟨List.replicate a 1 ++ List.replicate b 0, by simp [rowAB, lastAB, List.replicate_succ']⟩
theorem ab_next {a b : Nat} (ha : 1 ≤ a) {v : Int} (h0 : 0 ≤ v) (h1 : v ≤ lastAB b) : ∃ a' b', 1 ≤ a' ∧ a' + b' = a + b + 1 ∧ rowAB a b ++ [v] = rowAB a' b' := by
  cases b with
  | zero =>
    have h1 : v ≤ 1 := h1
    rcases (by omega : v = 0 ∨ v = 1) with rfl | rfl
    · exact ⟨a, 1, ha, rfl, by simp [rowAB]⟩
    · exact ⟨a + 1, 0, by omega, rfl, by simp [rowAB, List.replicate_succ']⟩
  | succ b =>
    have h1 : v ≤ 0 := h1
    obtain rfl : v = 0 := by omega
    exact ⟨a, b + 2, ha, rfl, by simp [rowAB, List.replicate_succ']⟩
theorem atI_m1 {α : Type} {xs : List α} {a : α} : atI (xs ++ [a]) (-1) = some a := by
  unfold atI ixN
  rw [if_neg (by decide), if_pos (by simp; omega)]
  have e : (-1 + ((xs ++ [a]).length : Int)).toNat = xs.length := by simp; omega
  show (xs ++ [a])[(-1 + ((xs ++ [a]).length : Int)).toNat]? = _
  rw [e]
  simp
theorem atI_m2 {α : Type} {xs : List α} {a b : α} : atI (xs ++ [a, b]) (-2) = some a := by
  unfold atI ixN
  rw [if_neg (by decide), if_pos (by simp; omega)]
  have e : (-2 + ((xs ++ [a, b]).length : Int)).toNat = xs.length := by simp; omega
  show (xs ++ [a, b])[(-2 + ((xs ++ [a, b]).length : Int)).toNat]? = _
  rw [e]
  simp
abbrev thE (p : List PyData) (found : List PyData) (f : PyData) (s : Sl) : En := [.ow true p, .ow false found, .va f, s, .no, .no]
def thA : SF := appF 1 (iteE (tst (Sm.bin gtD (calM 0 (fun ps ds => if ds.length = 1 then d__law_take ps ds else none) (aCons (cst (.int 4)) aNil)) (cst (.int 0)))) (ixO 1 (una negD (cst (.int 1)))) (calM 0 (fun ps ds => if ds.length = 1 then d__law_of ps ds else none) (aCons (tup (aCons (cst (.int 0)) (aCons (cst (.int 1)) (aCons (cst (.int 2)) (aCons (cst (.int 0)) (aCons (una negD (cst (.int 1))) aNil)))))) aNil)))
def thB : SF := iteS (orF (tst (Sm.bin ltD (ixO 1 (una negD (cst (.int 1)))) (cst (.int 0)))) (tst (Sm.bin gtD (ixO 1 (una negD (cst (.int 1)))) (ixO 1 (una negD (cst (.int 2))))))) (seqF (asgF (vr 3) (gN 2)) bkF) nxF
theorem thA_run {p : List PyData} (hp : Pot p) {ys : List PyData} {l : Int} {f : PyData} {s : Sl} (hl : ys.length ≤ 100) : ∃ p' v, Pot p' ∧ (v = l ∨ v = 0 ∨ v = 1 ∨ v = 2 ∨ v = -1) ∧ thA (thE p (ys ++ [.int l]) f s) = some (.nx, thE p' (ys ++ [.int l, .int v]) f s) := by
  obtain ⟨r, p1, e1, hp1, h1⟩ := take_ok hp (few := 4) (by omega) (by omega)
  have hlen : (ys.length : Int) + 1 ≤ 16777215 := by omega
  have e3 := atI_m1 (xs := ys) (a := PyData.int l)
  by_cases hr : (0 : Int) < r
  · refine ⟨p1, l, hp1, .inl rfl, ?_⟩
    simp [thA, e1, hr, e3, show 0 < r by omega]
    omega
  · obtain ⟨z, p2, e2, hp2, m⟩ := of_ok hp1 (ds := [.int 0, .int 1, .int 2, .int 0, .int (-1)]) (by decide) (by decide)
    obtain ⟨v, rfl, hv⟩ : ∃ v : Int, z = .int v ∧ (v = 0 ∨ v = 1 ∨ v = 2 ∨ v = -1) := by
      simp only [List.mem_cons, List.not_mem_nil, or_false] at m
      rcases m with rfl | rfl | rfl | rfl | rfl
      · exact ⟨_, rfl, by simp⟩
      · exact ⟨_, rfl, by simp⟩
      · exact ⟨_, rfl, by simp⟩
      · exact ⟨_, rfl, by simp⟩
      · exact ⟨_, rfl, by simp⟩
    refine ⟨p2, v, hp2, .inr hv, ?_⟩
    obtain rfl : r = 0 := by omega
    simp [thA, e1, e2]
    omega
theorem thB_no {p ys : List PyData} {l v : Int} {f : PyData} {s : Sl} (h0 : ¬ v < 0) (h1 : ¬ l < v) : thB (thE p (ys ++ [.int l, .int v]) f s) = some (.nx, thE p (ys ++ [.int l, .int v]) f s) := by
  have e1 := atI_m1 (xs := ys ++ [PyData.int l]) (a := PyData.int v)
  have e2 := atI_m2 (xs := ys) (a := PyData.int l) (b := PyData.int v)
  rw [List.append_assoc] at e1
  have e1 : atI (ys ++ [PyData.int l, PyData.int v]) (-1) = some (.int v) := e1
  simp [thB, e1, e2, h0, h1]
theorem thB_yes {p ys : List PyData} {l v : Int} {f k : PyData} (h : v < 0 ∨ l < v) : thB (thE p (ys ++ [.int l, .int v]) f (.va k)) = some (.bk, thE p (ys ++ [.int l, .int v]) k (.va k)) := by
  have e1 := atI_m1 (xs := ys ++ [PyData.int l]) (a := PyData.int v)
  have e2 := atI_m2 (xs := ys) (a := PyData.int l) (b := PyData.int v)
  rw [List.append_assoc] at e1
  have e1 : atI (ys ++ [PyData.int l, PyData.int v]) (-1) = some (.int v) := e1
  by_cases h0 : v < 0
  · simp [thB, e1, e2, h0, vr]
  · have h1 := h.resolve_left h0
    simp [thB, e1, e2, h0, h1, vr]
theorem thin_turn {p : List PyData} (hp : Pot p) {a b : Nat} (ha : 1 ≤ a) (hl : a + b ≤ 50) {k : PyData} : ∃ p' v, Pot p' ∧ (v = lastAB b ∨ v = 0 ∨ v = 1 ∨ v = 2 ∨ v = -1) ∧
    lb1__law_thin (thE p ((rowAB a b).map .int) .none (.va k)) = some (if v < 0 ∨ lastAB b < v then (.bk, thE p' ((rowAB a b ++ [v]).map .int) k (.va k)) else (.nx, thE p' ((rowAB a b ++ [v]).map .int) .none (.va k))) := by
  obtain ⟨ys, hy⟩ := ab_last (a := a) (b := b) ha
  have hlen : ys.length ≤ 100 := by
    have := congrArg List.length hy
    simp [rowAB] at this
    omega
  obtain ⟨p', v, hp', hv, e⟩ := thA_run hp (ys := ys.map .int) (l := lastAB b) (f := .none) (s := .va k) (by simpa using hlen)
  refine ⟨p', v, hp', hv, ?_⟩
  have e1 : (rowAB a b).map PyData.int = ys.map .int ++ [.int (lastAB b)] := by rw [hy]; simp
  have e2 : (rowAB a b ++ [v]).map PyData.int = ys.map .int ++ [.int (lastAB b), .int v] := by rw [hy]; simp
  rw [e1, e2]
  refine (seqF_nx (f := thA) (g := thB) e).trans ?_
  by_cases h : v < 0 ∨ lastAB b < v
  · rw [if_pos h]
    exact thB_yes h
  · rw [if_neg h]
    exact thB_no (fun z => h (.inl z)) (fun z => h (.inr z))
def ksL (s n : Nat) : List PyData := (List.range' s n).map fun i => .int (i : Nat)
theorem thin_loop : ∀ (n a b : Nat) (p : List PyData) (s : Sl), 1 ≤ a → a + b + n ≤ 50 → Pot p → ∃ p' s', Pot p' ∧
    ((∃ a' b', 1 ≤ a' ∧ a' + b' = a + b + n ∧ forF (gN 3) lb1__law_thin (ksL (a + b) n) (thE p ((rowAB a b).map .int) .none s) = some (.nx, thE p' ((rowAB a' b').map .int) .none s')) ∨
     (∃ a' b' v, 1 ≤ a' ∧ a + b ≤ a' + b' ∧ a' + b' < a + b + n ∧ (v = lastAB b' ∨ v = 0 ∨ v = 1 ∨ v = 2 ∨ v = -1) ∧ (v < 0 ∨ lastAB b' < v) ∧ forF (gN 3) lb1__law_thin (ksL (a + b) n) (thE p ((rowAB a b).map .int) .none s) = some (.nx, thE p' ((rowAB a' b' ++ [v]).map .int) (.int ((a' + b' : Nat) : Nat)) s')))
  | 0, a, b, p, s, ha, _, hp => ⟨p, s, hp, .inl ⟨a, b, ha, rfl, rfl⟩⟩
  | n + 1, a, b, p, s, ha, hn, hp => by
    obtain ⟨p1, v, hp1, hv, e⟩ := thin_turn hp ha (b := b) (by omega) (k := .int ((a + b : Nat) : Nat))
    have ek : ksL (a + b) (n + 1) = .int ((a + b : Nat) : Nat) :: ksL (a + b + 1) n := by
      unfold ksL
      rw [List.range'_succ, List.map_cons]
    by_cases h : v < 0 ∨ lastAB b < v
    · rw [if_pos h] at e
      refine ⟨p1, .va (.int ((a + b : Nat) : Nat)), hp1, .inr ⟨a, b, v, ha, by omega, by omega, hv, h, ?_⟩⟩
      rw [ek]
      exact forF_bk rfl e
    · rw [if_neg h] at e
      obtain ⟨a1, b1, ha1, hs, hr⟩ := ab_next (b := b) ha (v := v) (by omega) (by omega)
      obtain ⟨p', s', hp', h2⟩ := thin_loop n a1 b1 p1 (.va (.int ((a + b : Nat) : Nat))) ha1 (by omega) hp1
      refine ⟨p', s', hp', ?_⟩
      rw [hr] at e
      rw [ek, forF_nx (e1 := thE p ((rowAB a b).map .int) .none (.va (.int ((a + b : Nat) : Nat)))) rfl e, ← hs]
      rcases h2 with ⟨a', b', q1, q2, q3⟩ | ⟨a', b', w, q1, q2, q3, q4, q5, q6⟩
      · exact .inl ⟨a', b', q1, by omega, q3⟩
      · exact .inr ⟨a', b', w, q1, by omega, by omega, q4, q5, q6⟩
end Lw

set_option Elab.async false
set_option linter.all false
set_option maxRecDepth 100000
set_option maxHeartbeats 4000000
/-! K11g: thin and wide rows, drawn. -/
namespace Lw
open PySem PySem.Spec PyProof.Rows L2 Sm
def thM : LF := lcF (rng1 (aCons (Sm.bin subD (cst (.int 8)) (lenO 1)) aNil)) (gN 5) yesF le2__law_thin [5]
theorem thM_run {p : List PyData} (hp : Pot p) {fd : List Int} (hl : fd.length ≤ 8) {f : PyData} {s : Sl} : ∃ (p' : List PyData) (more : List Int), Pot p' ∧ thM (thE p (fd.map .int) f s) = some (more.map .int, thE p' (fd.map .int) f s) ∧ more.length = 8 - fd.length ∧ ∀ v ∈ more, (0 : Int) ≤ v ∧ v < 3 := by
  have e1 : (rng1 (aCons (Sm.bin subD (cst (.int 8)) (lenO 1)) aNil)) (thE p (fd.map .int) f s) = some ((List.range (8 - fd.length)).map (fun i => PyData.int ((i : Nat) : Int)), thE p (fd.map .int) f s) := by
    rw [rng1_eq (n := 8 - fd.length) (e1 := thE p (fd.map .int) f s) (by omega) (by simp; omega), rngL_map]
  obtain ⟨ys, p', h2, hp', hlen, hy⟩ := lcF_st (fi := rng1 (aCons (Sm.bin subD (cst (.int 8)) (lenO 1)) aNil)) (g := gN 5) (fe := le2__law_thin) (vs := [5]) (env := thE p (fd.map .int) f s) (env1 := thE p (fd.map .int) f s) (fun p => thE p (fd.map .int) f s) Pot (fun i : Nat => PyData.int (i : Nat)) (fun _ x => ∃ r : Nat, x = .int r ∧ r < 3) (List.range (8 - fd.length)) p e1 (by simp; omega) (by simp) rfl hp fun a _ q hq => by
    obtain ⟨r, q', e, hq', hr⟩ := take_ok hq (few := 3) (by omega) (by omega)
    exact ⟨_, [.ow true q', .ow false (fd.map .int), .va f, s, .no, .va (.int (a : Nat))], .int r, q', rfl, by simp [le2__law_thin, thE, e], ⟨r, rfl, by omega⟩, rfl, hq'⟩
  have key : ∀ l : List PyData, (∀ y ∈ l, ∃ r : Nat, y = .int r ∧ r < 3) → ∃ more : List Int, l = more.map .int ∧ ∀ v ∈ more, (0 : Int) ≤ v ∧ v < 3 := by
    intro l
    induction l with
    | nil => exact fun _ => ⟨[], rfl, fun v hv => nomatch hv⟩
    | cons y l ih =>
      intro h
      obtain ⟨r, rfl, hr⟩ := h y (List.mem_cons_self ..)
      obtain ⟨m, rfl, hm⟩ := ih fun z hz => h z (List.mem_cons_of_mem _ hz)
      refine ⟨(r : Int) :: m, rfl, fun v hv => ?_⟩
      rcases List.mem_cons.mp hv with rfl | hv
      · omega
      · exact hm v hv
  obtain ⟨more, rfl, hm⟩ := key ys fun y h => by
    obtain ⟨_, _, q⟩ := hy y h
    exact q
  refine ⟨p', more, hp', h2, ?_, hm⟩
  simpa using hlen
def thT : SF := seqF (asgF (iteE (tst (Sm.bin notND (vr 2) (cst .none))) (frz thM) (frz (lst aNil))) (gN 4)) (retF (tup (aCons (cal tupOf (aCons (Sm.bin addD (vr 1) (vr 4)) aNil)) (aCons (vr 2) aNil))))
theorem thT_no {p : List PyData} {fd : List Int} (hl : fd.length ≤ 8) {s : Sl} : ∃ e, thT (thE p (fd.map .int) .none s) = some (.rt (.tuple [iR fd, .none]), e) ∧ e[0]? = some (.ow true p) := by
  refine ⟨[.ow true p, .va (.list (fd.map .int)), .va .none, s, .va (.list []), .no], ?_, rfl⟩
  have h16 : fd.length ≤ 16777216 := by omega
  simp [thT, vr, notND, isNone, addD, tupOf, h16]
theorem thT_yes {p : List PyData} (hp : Pot p) {fd : List Int} (hl : fd.length ≤ 8) {t : Nat} {s : Sl} : ∃ (p' : List PyData) (more : List Int) (e : En), Pot p' ∧ thT (thE p (fd.map .int) (.int t) s) = some (.rt (.tuple [iR (fd ++ more), .int t]), e) ∧ e[0]? = some (.ow true p') ∧ more.length = 8 - fd.length ∧ ∀ v ∈ more, (0 : Int) ≤ v ∧ v < 3 := by
  obtain ⟨p', more, hp', e1, hlen, hm⟩ := thM_run hp hl (f := .int t) (s := s)
  refine ⟨p', more, [.ow true p', .va (.list (fd.map .int)), .va (.int t), s, .va (.list (more.map .int)), .no], hp', ?_, rfl, hlen, hm⟩
  have h16 : fd.length + more.length ≤ 16777216 := by omega
  simp [thT, vr, notND, isNone, e1, addD, tupOf, h16]
theorem thin_ok {p : List PyData} (hp : Pot p) : ∃ row f p', d__law_thin p [] = some (.tuple [iR row, dueD f], p') ∧ Pot p' ∧ RowOk row f ∧ ∀ t, f = some t → t < 8 := by
  obtain ⟨x, p1, e1, hp1, hx⟩ := take_ok hp (few := 2) (by omega) (by omega)
  obtain ⟨r, p2, e2, hp2, hr⟩ := take_ok hp1 (few := 6) (by omega) (by omega)
  obtain ⟨a, b, ha, hab, hrow⟩ : ∃ a b, 1 ≤ a ∧ a + b = 2 ∧ [(1 : Int), (x : Nat)] = rowAB a b := by
    rcases (by omega : x = 0 ∨ x = 1) with rfl | rfl
    · exact ⟨1, 1, by omega, rfl, rfl⟩
    · exact ⟨2, 0, by omega, rfl, rfl⟩
  have h0 : (parF [1, 2] (mOw (lst (aCons (cst (.int 1)) (aCons (calM 0 (fun ps ds => if ds.length = 1 then d__law_take ps ds else none) (aCons (cst (.int 2)) aNil)) aNil))) (mVa (cst .none) mNil))) (entryM 6 p []) = some (.nx, thE p1 ((rowAB a b).map .int) .none .no) := by
    rw [← hrow]
    simp [entryM, entry, e1, thE]
  have h1 : (rng2 (aCons (cst (.int 2)) (aCons (Sm.bin addD (cst (.int 3)) (calM 0 (fun ps ds => if ds.length = 1 then d__law_take ps ds else none) (aCons (cst (.int 6)) aNil))) aNil))) (thE p1 ((rowAB a b).map .int) .none .no) = some (ksL (a + b) (r + 1), thE p2 ((rowAB a b).map .int) .none .no) := by
    rw [rng2_eq (i := 2) (j := 3 + r) (by omega) (by omega) (by omega) (by omega) (e1 := thE p2 ((rowAB a b).map .int) .none .no) (by simp [e2])]
    rw [hab, show ((3 : Int) + r - 2).toNat = r + 1 by omega]
    congr 2
    unfold ksL rngL
    rw [List.range'_eq_map_range, List.map_map]
    exact List.map_congr_left fun i _ => by simp
  obtain ⟨p3, s3, hp3, h2⟩ := thin_loop (r + 1) a b p2 .no ha (by omega) hp2
  rcases h2 with ⟨a', b', q1, q2, q3⟩ | ⟨a', b', v, q1, q2, q3, q4, q5, q6⟩
  · have hl : (rowAB a' b').length ≤ 8 := by simp [rowAB]; omega
    obtain ⟨e, h3, h4⟩ := thT_no (p := p3) (fd := rowAB a' b') hl (s := s3)
    obtain ⟨g1, g2⟩ := ab_ok a' (by omega) b' (by omega) q1 (by omega)
    refine ⟨rowAB a' b', none, p3, denM_rt ((seqF_nx h0).trans ((seqF_nx ((forS_eq h1).trans q3)).trans h3)) h4, hp3, ⟨g1, good_of g2, by simp [rowAB]; omega, hl, fun w hw => ?_⟩, fun t h => nomatch h⟩
    simp only [rowAB, List.mem_append, List.mem_replicate] at hw
    omega
  · have hl : (rowAB a' b' ++ [v]).length ≤ 8 := by simp [rowAB]; omega
    obtain ⟨p4, more, e, hp4, h3, h4, h5, h6⟩ := thT_yes hp3 (fd := rowAB a' b' ++ [v]) hl (t := a' + b') (s := s3)
    obtain ⟨g1, g2⟩ := ab_bad q1 (by omega) (by omega) q4 q5
    obtain ⟨g3, g4⟩ := fault_pre (m := more) g1 (good_of g2)
    refine ⟨rowAB a' b' ++ [v] ++ more, some (a' + b'), p4, denM_rt ((seqF_nx h0).trans ((seqF_nx ((forS_eq h1).trans q6)).trans h3)) h4, hp4, ⟨g3, g4, by simp; omega, by rw [List.length_append]; omega, fun w hw => ?_⟩, fun t h => by cases h; omega⟩
    have hlast : lastAB b' = 0 ∨ lastAB b' = 1 := by unfold lastAB; split <;> simp
    rcases List.mem_append.mp hw with hw | hw
    · simp only [rowAB, List.mem_append, List.mem_replicate, List.mem_singleton] at hw
      omega
    · have := h6 w hw
      omega
end Lw

set_option Elab.async false
set_option linter.all false
set_option maxRecDepth 100000
set_option maxHeartbeats 4000000
/-! K11h: wide rows; the law. -/
namespace Lw
open PySem PySem.Spec PyProof.Rows L2 Sm
def wideR (n : Nat) : List Int := (List.range n).map fun k : Nat => ((k : Nat) : Int) + 1
def rowB (row : List Int) (f : Option Nat) : Bool := decide (faultT row = f) && goodB row && decide (1 ≤ row.length) && decide (row.length ≤ 8) && row.all fun v => decide (-1000000 ≤ v) && decide (v ≤ 1000000)
theorem rowB_ok {row : List Int} {f : Option Nat} (h : rowB row f = true) : RowOk row f := by
  simp only [rowB, Bool.and_eq_true, decide_eq_true_eq, List.all_eq_true] at h
  obtain ⟨⟨⟨⟨h1, h2⟩, h3⟩, h4⟩, h5⟩ := h
  exact ⟨h1, good_of h2, h3, h4, h5⟩
def wB : Bool := (List.range 5).all fun t => rowB (wideR (4 + t)) none && (List.range (t + 2)).all fun u => (List.range 2).all fun e => rowB ((wideR (4 + t)).set (2 + u) (((2 + u : Nat) : Int) + 1 + 1 + (e : Nat))) (some (2 + u))
theorem wB_is : wB = true := by decide +kernel
theorem w_no {t : Nat} (ht : t < 5) : RowOk (wideR (4 + t)) none := by
  have h := wB_is
  simp only [wB, List.all_eq_true, List.mem_range, Bool.and_eq_true] at h
  exact rowB_ok (h t ht).1
theorem w_yes {t u e : Nat} (ht : t < 5) (hu : u < t + 2) (he : e < 2) : RowOk ((wideR (4 + t)).set (2 + u) (((2 + u : Nat) : Int) + 1 + 1 + (e : Nat))) (some (2 + u)) := by
  have h := wB_is
  simp only [wB, List.all_eq_true, List.mem_range, Bool.and_eq_true] at h
  exact rowB_ok ((h t ht).2 u hu e he)
abbrev wiE (p : List PyData) (found : List PyData) (f : PyData) : En := [.ow true p, .ow false found, .va f, .no]
def wiA : SF := asgF (Sm.bin addD (cst (.int 2)) (calM 0 (fun ps ds => if ds.length = 1 then d__law_take ps ds else none) (aCons (Sm.bin subD (lenO 1) (cst (.int 2))) aNil))) (gN 2)
def wiB : SF := asgF (Sm.bin addD (Sm.bin addD (ixO 1 (vr 2)) (cst (.int 1))) (calM 0 (fun ps ds => if ds.length = 1 then d__law_take ps ds else none) (aCons (cst (.int 2)) aNil))) (gIx 1 (vr 2))
def wiI : SF := iteS (tst (Sm.bin eqD (calM 0 (fun ps ds => if ds.length = 1 then d__law_take ps ds else none) (aCons (cst (.int 2)) aNil)) (cst (.int 0)))) (seqF wiA wiB) nxF
def wiT : SF := retF (tup (aCons (cal tupOf (aCons (vr 1) aNil)) (aCons (vr 2) aNil)))
theorem wiT_run {p : List PyData} {fd : List Int} {f : PyData} : ∃ e, wiT (wiE p (fd.map .int) f) = some (.rt (.tuple [iR fd, f]), e) ∧ e[0]? = some (.ow true p) :=
  ⟨[.ow true p, .va (.list (fd.map .int)), .va f, .no], by simp [wiT, vr, tupOf], rfl⟩
theorem wiA_run {p p1 : List PyData} {fd : List PyData} {f : PyData} {u : Int} (h : d__law_take p [.int ((fd.length : Int) - 2)] = some (.int u, p1)) : wiA (wiE p fd f) = some (.nx, wiE p1 fd (.int (2 + u))) := by
  simp [wiA, h]
theorem wiB_run {p p1 : List PyData} {fd : List PyData} {i : Nat} {a e : Int} (hi : i < fd.length) (ha : fd[i]? = some (.int a)) (h : d__law_take p [.int 2] = some (.int e, p1)) : wiB (wiE p fd (.int (i : Nat))) = some (.nx, wiE p1 (fd.set i (.int (a + 1 + e))) (.int (i : Nat))) := by
  have ha2 : fd[i] = .int a := by rw [List.getElem?_eq_getElem hi] at ha; exact Option.some.inj ha
  simp [wiB, vr, atI_cast, ha2, h, ixN_nat, hi]
theorem wide_ok {p : List PyData} (hp : Pot p) : ∃ row f p', d__law_wide p [] = some (.tuple [iR row, dueD f], p') ∧ Pot p' ∧ RowOk row f ∧ ∀ t, f = some t → t < 8 := by
  obtain ⟨t, p1, e1, hp1, ht⟩ := take_ok hp (few := 5) (by omega) (by omega)
  have ht : t < 5 := by omega
  have h1 : (rng1 (aCons (Sm.bin addD (cst (.int 4)) (calM 0 (fun ps ds => if ds.length = 1 then d__law_take ps ds else none) (aCons (cst (.int 5)) aNil))) aNil)) (entryM 4 p []) = some ((List.range (4 + t)).map (fun i => PyData.int ((i : Nat) : Int)), [.ow true p1, .no, .no, .no]) := by
    rw [rng1_eq (n := 4 + t) (e1 := [.ow true p1, .no, .no, .no]) (by omega) (by simp [entryM, entry, e1]), rngL_map]
  have h2 := lcF_map (fi := rng1 (aCons (Sm.bin addD (cst (.int 4)) (calM 0 (fun ps ds => if ds.length = 1 then d__law_take ps ds else none) (aCons (cst (.int 5)) aNil))) aNil)) (g := gN 3) (fe := le1__law_wide) (vs := [3]) (env := entryM 4 p []) (env1 := [.ow true p1, .no, .no, .no]) (fun i : Nat => PyData.int (i : Nat)) (fun i : Nat => .int (((i : Nat) : Int) + 1)) (List.range (4 + t)) h1 (by simp; omega) (by simp) fun i _ =>
    ⟨_, [.ow true p1, .no, .no, .va (.int (i : Nat))], rfl, by simp [le1__law_wide, vr], rfl⟩
  have hw : (List.range (4 + t)).map (fun i : Nat => PyData.int (((i : Nat) : Int) + 1)) = (wideR (4 + t)).map .int := by
    unfold wideR
    rw [List.map_map]
    rfl
  rw [hw] at h2
  have h3 : (parF [1, 2] (mOw (lcF (rng1 (aCons (Sm.bin addD (cst (.int 4)) (calM 0 (fun ps ds => if ds.length = 1 then d__law_take ps ds else none) (aCons (cst (.int 5)) aNil))) aNil)) (gN 3) yesF le1__law_wide [3]) (mVa (cst .none) mNil))) (entryM 4 p []) = some (.nx, wiE p1 ((wideR (4 + t)).map .int) .none) := by
    simp only [parF, mOw, h2]
    simp
  obtain ⟨b, p2, e2, hp2, hb⟩ := take_ok hp1 (few := 2) (by omega) (by omega)
  have hlen : ((wideR (4 + t)).map PyData.int).length = 4 + t := by simp [wideR]
  by_cases hb0 : b = 0
  · subst hb0
    obtain ⟨u, p3, e3, hp3, hu⟩ := take_ok hp2 (few := (((wideR (4 + t)).map PyData.int).length : Int) - 2) (by rw [hlen]; omega) (by rw [hlen]; omega)
    rw [hlen] at hu
    have hu : u < t + 2 := by omega
    obtain ⟨e, p4, e4, hp4, he⟩ := take_ok hp3 (few := 2) (by omega) (by omega)
    have he : e < 2 := by omega
    have g1 := wiA_run (f := .none) e3
    rw [show (2 : Int) + (u : Nat) = ((2 + u : Nat) : Int) by omega] at g1
    have g2 := wiB_run (p := p3) (p1 := p4) (fd := (wideR (4 + t)).map .int) (i := 2 + u) (a := ((2 + u : Nat) : Int) + 1) (e := e) (by rw [hlen]; omega) (by simp [wideR, show 2 + u < 4 + t by omega]) e4
    have g3 : wiI (wiE p1 ((wideR (4 + t)).map .int) .none) = some (.nx, wiE p4 (((wideR (4 + t)).set (2 + u) (((2 + u : Nat) : Int) + 1 + 1 + (e : Nat))).map .int) (.int ((2 + u : Nat) : Nat))) := by
      rw [List.map_set]
      have g12 := (seqF_nx (g := wiB) g1).trans g2
      have c : tst (Sm.bin eqD (calM 0 (fun ps ds => if ds.length = 1 then d__law_take ps ds else none) (aCons (cst (.int 2)) aNil)) (cst (.int 0))) (wiE p1 ((wideR (4 + t)).map .int) .none) = some (true, wiE p2 ((wideR (4 + t)).map .int) .none) := by
        have e2 : d__law_take p1 [.int 2] = some (.int 0, p2) := e2
        simp [e2]
      simp only [wiI, iteS, c]
      exact g12
    obtain ⟨E, g4, g5⟩ := wiT_run (p := p4) (fd := (wideR (4 + t)).set (2 + u) (((2 + u : Nat) : Int) + 1 + 1 + (e : Nat))) (f := .int ((2 + u : Nat) : Nat))
    exact ⟨_, some (2 + u), p4, denM_rt ((seqF_nx h3).trans ((seqF_nx (f := wiI) (g := wiT) g3).trans g4)) g5, hp4, w_yes ht hu he, fun s h => by cases h; omega⟩
  · obtain rfl : b = 1 := by omega
    have g3 : wiI (wiE p1 ((wideR (4 + t)).map .int) .none) = some (.nx, wiE p2 ((wideR (4 + t)).map .int) .none) := by
      have e2 : d__law_take p1 [.int 2] = some (.int 1, p2) := e2
      simp [wiI, e2]
    obtain ⟨E, g4, g5⟩ := wiT_run (p := p2) (fd := wideR (4 + t)) (f := .none)
    exact ⟨_, none, p2, denM_rt ((seqF_nx h3).trans ((seqF_nx (f := wiI) (g := wiT) g3).trans g4)) g5, hp2, w_no ht, fun s h => nomatch h⟩
/-! ### the law -/
theorem due_repr {f : Option Nat} (h : ∀ t, f = some t → t < 8) : ∃ x, reprD [.list [dueD f, dueD f]] = some (.str x) := by
  cases f with
  | none => exact repr_one (d := .list [.none, .none]) (by decide +kernel)
  | some t =>
    have := h t rfl
    rcases (by omega : t = 0 ∨ t = 1 ∨ t = 2 ∨ t = 3 ∨ t = 4 ∨ t = 5 ∨ t = 6 ∨ t = 7) with rfl | rfl | rfl | rfl | rfl | rfl | rfl | rfl
    · exact repr_one (d := .list [.int 0, .int 0]) (by decide +kernel)
    · exact repr_one (d := .list [.int 1, .int 1]) (by decide +kernel)
    · exact repr_one (d := .list [.int 2, .int 2]) (by decide +kernel)
    · exact repr_one (d := .list [.int 3, .int 3]) (by decide +kernel)
    · exact repr_one (d := .list [.int 4, .int 4]) (by decide +kernel)
    · exact repr_one (d := .list [.int 5, .int 5]) (by decide +kernel)
    · exact repr_one (d := .list [.int 6, .int 6]) (by decide +kernel)
    · exact repr_one (d := .list [.int 7, .int 7]) (by decide +kernel)
theorem bool_repr (b : Bool) : ∃ x, reprD [.list [.bool b, .bool b]] = some (.str x) := by
  cases b
  · exact repr_one (d := .list [.bool false, .bool false]) (by decide +kernel)
  · exact repr_one (d := .list [.bool true, .bool true]) (by decide +kernel)
theorem rt_turn {P : List PyData} {S R D : PyData} {x y : Str} (h1 : d_first_fault [R] = some D) (h2 : d_is_m_sequence [R] = some (.bool (isNone D))) (h3 : reprD [.list [D, D]] = some (.str x)) (h4 : reprD [.list [.bool (isNone D), .bool (isNone D)]] = some (.str y)) :
    lb1__law_right [.ow true P, .va S, .va R, .va D] = some (.nx, [.ow true P, .va S, .va R, .va D]) := by
  have h5 : repL (.list [.bool (isNone D)]) (.int 2) = some [.bool (isNone D), .bool (isNone D)] := by rfl
  have h6 : isND D .none = some (.bool (isNone D)) := rfl
  simp [lb1__law_right, vr, pmV, h1, h2, h3, h4, h5, h6]
theorem rt_go {P : List PyData} {S : PyData} {row : List Int} {f : Option Nat} (h : RowOk row f) (ht : ∀ t, f = some t → t < 8) : lb1__law_right [.ow true P, .va S, .va (iR row), .va (dueD f)] = some (.nx, [.ow true P, .va S, .va (iR row), .va (dueD f)]) := by
  obtain ⟨rfl, g, l1, l2, b⟩ := h
  obtain ⟨h1, h2⟩ := first_ok g l1 l2 b
  obtain ⟨x, h3⟩ := due_repr ht
  obtain ⟨y, h4⟩ := bool_repr (isNone (dueD (faultT row)))
  exact rt_turn h1 h2 h3 h4
theorem right_ok {p : List PyData} (hp : Pot p) : ∃ p', d__law_right p [] = some (.bool true, p') := by
  obtain ⟨r1, p1, e1, hp1, s1⟩ := seq_ok hp
  obtain ⟨f1, t1, e2, o1⟩ := seq_all s1
  obtain ⟨r2, f2, p2, e3, hp2, o2, t2⟩ := thin_ok hp1
  obtain ⟨r3, f3, p3, e4, hp3, o3, t3⟩ := wide_ok hp2
  have h0 : (asgF (calM 0 (fun ps ds => if ds.length = 0 then d__law_sequence ps ds else none) aNil) (gN 1)) (entryM 4 p []) = some (.nx, [.ow true p1, .va (iR r1), .no, .no]) := by
    simp [entryM, entry, e1]
  have h1 : (itF (tup (aCons (tup (aCons (vr 1) (aCons (cal (fun ds => if ds.length = 1 then d__law_searched ds else none) (aCons (vr 1) aNil)) aNil))) (aCons (calM 0 (fun ps ds => if ds.length = 0 then d__law_thin ps ds else none) aNil) (aCons (calM 0 (fun ps ds => if ds.length = 0 then d__law_wide ps ds else none) aNil) aNil))))) [.ow true p1, .va (iR r1), .no, .no] =
      some ([.tuple [iR r1, dueD f1], .tuple [iR r2, dueD f2], .tuple [iR r3, dueD f3]], [.ow true p3, .va (iR r1), .no, .no]) := by
    simp [vr, e2, e3, e4]
  have h2 : forF (gT 2 (gCons' (gN 2) (gCons' (gN 3) gNil'))) lb1__law_right [.tuple [iR r1, dueD f1], .tuple [iR r2, dueD f2], .tuple [iR r3, dueD f3]] [.ow true p3, .va (iR r1), .no, .no] = some (.nx, [.ow true p3, .va (iR r1), .va (iR r3), .va (dueD f3)]) := by
    rw [forF_nx (e1 := [.ow true p3, .va (iR r1), .va (iR r1), .va (dueD f1)]) (by simp) (rt_go o1 t1), forF_nx (e1 := [.ow true p3, .va (iR r1), .va (iR r2), .va (dueD f2)]) (by simp) (rt_go o2 t2), forF_nx (e1 := [.ow true p3, .va (iR r1), .va (iR r3), .va (dueD f3)]) (by simp) (rt_go o3 t3)]
    rfl
  exact ⟨p3, denM_rt (e := [.ow true p3, .va (iR r1), .va (iR r3), .va (dueD f3)]) ((seqF_nx h0).trans ((seqF_nx ((forS_eq h1).trans h2)).trans rfl)) rfl⟩
theorem lw_step {S j : PyData} {ps p2 : List PyData} (h1 : d__law_pot [S, j] = some ps) (h2 : d__law_right ps [] = some (.bool true, p2)) : lb1_law [.va S, .va j] = some (.nx, [.va S, .va j]) := by
  simp [lb1_law, vr, h1, h2]
theorem law_true (ns : List Int) (h : ns.length ≤ 63) : d_law [scrD ns] = some (.bool true) := by
  obtain ⟨n, h1⟩ := lw_rng (lo := 2) (hi := 6) (by omega) (by omega) ns h
  obtain ⟨e', h2, x, rfl⟩ := forF_rng (g := gN 1) (b := lb1_law) (lo := 0) (n := n) (fun t e => ∃ x, e = [.va (scrD ns), x]) (env := [.va (scrD ns), .no]) ⟨.no, rfl⟩ fun t e ht ⟨x, he⟩ => by
    subst he
    obtain ⟨ps, h4, h5⟩ := pot_ok ns t
    obtain ⟨p2, h6⟩ := right_ok h5
    rw [Int.zero_add]
    exact ⟨_, _, rfl, lw_step h4 h6, _, rfl⟩
  exact denP_rt (e := [.va (scrD ns), x]) ((seqF_nx ((forS_eq h1).trans h2)).trans rfl)
end Lw

set_option Elab.async false
set_option linter.all false
set_option maxRecDepth 100000
set_option maxHeartbeats 4000000
namespace Lw
open PySem PySem.Spec PyProof.Rows L2 Sm
def topS (i : Nat) : Stmt := PySem.Challenge.pw_facenumbers_k11_whole_order_ideals_by_se.main.body.getD i (.Pass ⟨0, 0, 0, 0⟩)
variable [Tb]
structure Txt (K : PySem.W.Frag) (mg : Str → Option Value) : Prop where
  b_divmod : mg "divmod" = none
  b_int : mg "int" = none
  b_len : mg "len" = none
  b_range : mg "range" = none
  b_sorted : mg "sorted" = none
  b_max : mg "max" = none
  b_tuple : mg "tuple" = none
  b_isinstance : mg "isinstance" = none
  b_bool : mg "bool" = none
  b_enumerate : mg "enumerate" = none
  b_sum : mg "sum" = none
  b_repr : mg "repr" = none
  b_abs : mg "abs" = none
  b_min : mg "min" = none
  c_MOST_DEGREE : ∃ t, mg "MOST_DEGREE" = some (.int 8 t)
  c_MOST_NUMBER : ∃ t, mg "MOST_NUMBER" = some (.int 1000000 t)
  f_comb : mg "comb" = some (.builtin "math.comb")

/-! ### _law_take -/
abbrev sd__law_take : Stmt := topS 21
theorem sc__law_take : FnScope ["pot", "few", "figure", "stir"] ["pot", "few"] (defScope sd__law_take) := ⟨rfl, rfl, rfl, by decide +kernel, rfl, by decide +kernel, by decide +kernel⟩
theorem wk__law_take {P : Program} {w : World} {K : PySem.W.Frag} {mg : Str → Option Value} {base : Heap} {f : Addr} {cdv : Value} {A : Around} {outer : List Env} {s : Shared} {H : Hp} {E : XK} (T : Txt K mg) (hr : Room 0 (A.deeper (envOfC "_law_take" (defScope sd__law_take) s.heap.objs.size f cdv))) :
    SSs false (cxOf CX0 P w K mg base ["pot", "few", "figure", "stir"] "_law_take" (defScope sd__law_take) f cdv A outer s H E).nox (defBody sd__law_take) g__law_take :=
  have nd := sc__law_take.nd
  (ss_cons (ss_if (st_cmp op_gt ok_gt (s_ixO (i := 0) s_int) s_int) (ss_cons (ss_asg (s_b call_divmod ok_divmod T.b_divmod bt_divmod (sa_cons (s_ixO (i := 0) s_int) (sa_cons (s_var (i := 1)) sa_nil))) (h_tup rfl (hs_cons (h_ix (i := 0) s_int) (hs_cons (h_of (g_name (i := 2) nd)) hs_nil))))
      (ss_one (ss_ret (s_var (i := 2))))) ss_nil)
      (ss_cons (ss_asg (s_op op_addA ok_addA (s_ixO (i := 0) s_int) s_int) (h_ix (i := 0) s_int))
      (ss_cons (ss_asg (s_op op_mod ok_mod (s_t call_int1 ok_intOf T.b_int bt_int (sa_cons (s_op op_addA ok_addA (s_op op_mulA ok_mul (s_ixO (i := 0) s_int) s_int) (s_op op_mulA ok_mul s_int (s_ixO (i := 0) s_int))) sa_nil)) s_int) (h_of (g_name (i := 3) nd)))
      (ss_cons (ss_asg (s_op op_mod ok_mod (s_t call_int1 ok_intOf T.b_int bt_int (sa_cons (s_op op_addA ok_addA (s_op op_mulA ok_mul (s_var (i := 3)) (s_op op_addA ok_addA (s_op op_mod ok_mod (s_t call_int1 ok_intOf T.b_int bt_int (sa_cons (s_var (i := 3)) sa_nil)) s_int) s_int)) (s_ixO (i := 0) s_int)) sa_nil)) s_int) (h_ix (i := 0) s_int))
      (ss_one (ss_ret (s_op op_mod ok_mod (s_t call_int1 ok_intOf T.b_int bt_int (sa_cons (s_op op_divA ok_div (s_ixO (i := 0) s_int) s_int) sa_nil)) (s_var (i := 1)))))))))
theorem ok__law_take {P : Program} {w : World} {K : PySem.W.Frag} {mg : Str → Option Value} {base : Heap} {f : Addr} {fd : FuncData} (F : Fun K "_law_take" "_law_take" sd__law_take f fd) (T : Txt K mg) : FnOk P w K mg base CX0 1 f fd ["pot", "few"] (spM K 1 d__law_take) :=
  fn_M (N := ["pot", "few", "figure", "stir"]) (g := g__law_take) F sc__law_take ⟨fun cdv A outer s H E hr => wk__law_take T hr⟩

/-! ### _law_of -/
abbrev sd__law_of : Stmt := topS 22
theorem sc__law_of : FnScope ["pot", "some"] ["pot", "some"] (defScope sd__law_of) := ⟨rfl, rfl, rfl, by decide +kernel, rfl, by decide +kernel, by decide +kernel⟩
theorem wk__law_of {P : Program} {w : World} {K : PySem.W.Frag} {mg : Str → Option Value} {base : Heap} {f : Addr} {cdv : Value} {A : Around} {outer : List Env} {s : Shared} {H : Hp} {E : XK} (T : Txt K mg) (h__law_take : Has P w K mg base 1 "_law_take" ["pot", "few"] (spM K 1 d__law_take)) (hr : Room 1 (A.deeper (envOfC "_law_of" (defScope sd__law_of) s.heap.objs.size f cdv))) :
    SSs false (cxOf CX0 P w K mg base ["pot", "some"] "_law_of" (defScope sd__law_of) f cdv A outer s H E).nox (defBody sd__law_of) g__law_of :=
  have nd := sc__law_of.nd
  (ss_one (ss_ret (s_ix ix_seq ok_ix (s_var (i := 1)) (h_callM (i := 0) h__law_take (hr.mono (by decide)) (sa_cons (s_b call_lenA ok_len T.b_len bt_len (sa_cons (s_var (i := 1)) sa_nil)) sa_nil)))))
theorem ok__law_of {P : Program} {w : World} {K : PySem.W.Frag} {mg : Str → Option Value} {base : Heap} {f : Addr} {fd : FuncData} (F : Fun K "_law_of" "_law_of" sd__law_of f fd) (T : Txt K mg) (h__law_take : Has P w K mg base 1 "_law_take" ["pot", "few"] (spM K 1 d__law_take)) : FnOk P w K mg base CX0 2 f fd ["pot", "some"] (spM K 1 d__law_of) :=
  fn_M (N := ["pot", "some"]) (g := g__law_of) F sc__law_of ⟨fun cdv A outer s H E hr => wk__law_of T h__law_take hr⟩

/-! ### _law_products -/
abbrev sd__law_products : Stmt := topS 24
theorem sc__law_products : FnScope ["variables", "degree", "found", "turn", "more", "each", "v"] ["variables", "degree"] (defScope sd__law_products) := ⟨rfl, rfl, rfl, by decide +kernel, rfl, by decide +kernel, by decide +kernel⟩
theorem wk__law_products {P : Program} {w : World} {K : PySem.W.Frag} {mg : Str → Option Value} {base : Heap} {f : Addr} {cdv : Value} {A : Around} {outer : List Env} {s : Shared} {H : Hp} {E : XK} (T : Txt K mg) (hl : LamAt base mg cdv (lamQ "_law_products")) (hr : Room 3 (A.deeper (envOfC "_law_products" (defScope sd__law_products) s.heap.objs.size f cdv))) :
    SSs false (cxOf CX0 P w K mg base ["variables", "degree", "found", "turn", "more", "each", "v"] "_law_products" (defScope sd__law_products) f cdv A outer s H E).nox (defBody sd__law_products) g__law_products :=
  have nd := sc__law_products.nd
  (ss_cons (ss_asg (s_frz (s_lst (sa_cons (s_tup sa_nil) sa_nil))) (h_of (g_name (i := 2) nd)))
      (ss_cons (ss_for PassesOwn.never rfl (si_range1 T.b_range (sa_cons (s_var (i := 1)) sa_nil)) (h_of (g_name (i := 3) nd)) (ss_cons (ss_asg (s_frz (s_lst sa_nil)) (h_of (g_name (i := 4) nd)))
      (ss_cons (ss_for PassesOwn.never rfl (si_seq (s_var (i := 2))) (h_of (g_name (i := 5) nd)) (ss_one (ss_asg (s_op op_addA ok_addA (s_var (i := 4)) (s_frz (s_lc (own := [("v", 6)]) rfl nd (si_range2 T.b_range (sa_cons (s_ite (st_cmp (op_neA hr.units) ok_ne (s_var (i := 5)) (s_tup sa_nil)) (s_ix ix_seq ok_ix (s_var (i := 5)) (s_un un_neg ok_neg s_int)) s_int) (sa_cons (s_op op_addA ok_addA (s_var (i := 0)) s_int) sa_nil))) (blkOk_by (own := [("v", 6)]) (N := ["variables", "degree", "found", "turn", "more", "each", "v"]) (sc := defScope sd__law_products) (by decide +kernel)) (fun _ _ _ _ _ => (g_name (i := 6) nd)) (fun _ _ _ _ _ => ts_nil) (fun _ _ _ _ _ => (s_op op_addA ok_addA (s_var (i := 5)) (s_tup (sa_cons (s_var (i := 6)) sa_nil))))))) (h_of (g_name (i := 4) nd)))))
      (ss_one (ss_asg (s_var (i := 4)) (h_of (g_name (i := 2) nd)))))))
      (ss_one (ss_ret (s_frz (h_sortLam (k := 0) (N := ["each"]) hl (S := by exact ⟨rfl, rfl, rfl, by decide +kernel, rfl, by decide +kernel, by decide +kernel⟩) (hr.mono (by decide)) T.b_sorted (sa_cons (s_var (i := 2)) sa_nil) (fun f c2 A outer s H hr => (s_rev (s_var (i := 0)))) : SL _ _ (calL (sortKD fun ds => lamD 1 ke4__law_products (ds.headD .none)) (aCons (vr 2) aNil))))))))
theorem ok__law_products {P : Program} {w : World} {K : PySem.W.Frag} {mg : Str → Option Value} {base : Heap} {f : Addr} {fd : FuncData} (F : Fun K "_law_products" "_law_products" sd__law_products f fd) (T : Txt K mg) (hl : ∀ cdv, CodeAt K f cdv → LamAt base mg cdv (lamQ "_law_products")) : FnOk P w K mg base CX0 4 f fd ["variables", "degree"] (spP K 2 d__law_products) :=
  fn_PC (N := ["variables", "degree", "found", "turn", "more", "each", "v"]) (g := g__law_products) F sc__law_products ⟨fun cdv A outer s H E hc hr => wk__law_products T (hl cdv hc) hr⟩

/-! ### _law_lots -/
abbrev sd__law_lots : Stmt := topS 23
theorem sc__law_lots : FnScope ["some", "many", "found", "turn", "more", "lot", "at", "k", "pair"] ["some", "many"] (defScope sd__law_lots) := ⟨rfl, rfl, rfl, by decide +kernel, rfl, by decide +kernel, by decide +kernel⟩
theorem wk__law_lots {P : Program} {w : World} {K : PySem.W.Frag} {mg : Str → Option Value} {base : Heap} {f : Addr} {cdv : Value} {A : Around} {outer : List Env} {s : Shared} {H : Hp} {E : XK} (T : Txt K mg) (hr : Room 0 (A.deeper (envOfC "_law_lots" (defScope sd__law_lots) s.heap.objs.size f cdv))) :
    SSs false (cxOf CX0 P w K mg base ["some", "many", "found", "turn", "more", "lot", "at", "k", "pair"] "_law_lots" (defScope sd__law_lots) f cdv A outer s H E).nox (defBody sd__law_lots) g__law_lots :=
  have nd := sc__law_lots.nd
  (ss_cons (ss_asg (s_frz (s_lst (sa_cons (s_tup (sa_cons (s_tup sa_nil) (sa_cons s_int sa_nil))) sa_nil))) (h_of (g_name (i := 2) nd)))
      (ss_cons (ss_for PassesOwn.never rfl (si_range1 T.b_range (sa_cons (s_var (i := 1)) sa_nil)) (h_of (g_name (i := 3) nd)) (ss_cons (ss_asg (s_frz (s_lst sa_nil)) (h_of (g_name (i := 4) nd)))
      (ss_cons (ss_for PassesOwn.never rfl (si_seq (s_var (i := 2))) (h_of (g_tup rfl (gs_cons (g_name (i := 5) nd) (gs_cons (g_name (i := 6) nd) gs_nil)))) (ss_one (ss_asg (s_op op_addA ok_addA (s_var (i := 4)) (s_frz (s_lc (own := [("k", 7)]) rfl nd (si_range2 T.b_range (sa_cons (s_var (i := 6)) (sa_cons (s_b call_lenA ok_len T.b_len bt_len (sa_cons (s_var (i := 0)) sa_nil)) sa_nil))) (blkOk_by (own := [("k", 7)]) (N := ["some", "many", "found", "turn", "more", "lot", "at", "k", "pair"]) (sc := defScope sd__law_lots) (by decide +kernel)) (fun _ _ _ _ _ => (g_name (i := 7) nd)) (fun _ _ _ _ _ => ts_nil) (fun _ _ _ _ _ => (s_tup (sa_cons (s_op op_addA ok_addA (s_var (i := 5)) (s_tup (sa_cons (s_ix ix_seq ok_ix (s_var (i := 0)) (s_var (i := 7))) sa_nil))) (sa_cons (s_op op_addA ok_addA (s_var (i := 7)) s_int) sa_nil))))))) (h_of (g_name (i := 4) nd)))))
      (ss_one (ss_asg (s_var (i := 4)) (h_of (g_name (i := 2) nd)))))))
      (ss_one (ss_ret (s_frz (s_lc (own := [("pair", 8)]) rfl nd (si_seq (s_var (i := 2))) (blkOk_by (own := [("pair", 8)]) (N := ["some", "many", "found", "turn", "more", "lot", "at", "k", "pair"]) (sc := defScope sd__law_lots) (by decide +kernel)) (fun _ _ _ _ _ => (g_name (i := 8) nd)) (fun _ _ _ _ _ => ts_nil) (fun _ _ _ _ _ => (s_ix ix_seq ok_ix (s_var (i := 8)) s_int))))))))
theorem ok__law_lots {P : Program} {w : World} {K : PySem.W.Frag} {mg : Str → Option Value} {base : Heap} {f : Addr} {fd : FuncData} (F : Fun K "_law_lots" "_law_lots" sd__law_lots f fd) (T : Txt K mg) : FnOk P w K mg base CX0 1 f fd ["some", "many"] (spP K 2 d__law_lots) :=
  fn_P (N := ["some", "many", "found", "turn", "more", "lot", "at", "k", "pair"]) (g := g__law_lots) F sc__law_lots ⟨fun cdv A outer s H E hr => wk__law_lots T hr⟩

/-! ### _law_room -/
abbrev sd__law_room : Stmt := topS 25
theorem sc__law_room : FnScope ["variables", "many", "cubes", "best", "lot", "own", "each"] ["variables", "many"] (defScope sd__law_room) := ⟨rfl, rfl, rfl, by decide +kernel, rfl, by decide +kernel, by decide +kernel⟩
theorem wk__law_room {P : Program} {w : World} {K : PySem.W.Frag} {mg : Str → Option Value} {base : Heap} {f : Addr} {cdv : Value} {A : Around} {outer : List Env} {s : Shared} {H : Hp} {E : XK} (T : Txt K mg) (h__law_products : Has P w K mg base 4 "_law_products" ["variables", "degree"] (spP K 2 d__law_products)) (h__law_lots : Has P w K mg base 1 "_law_lots" ["some", "many"] (spP K 2 d__law_lots)) (hr : Room 4 (A.deeper (envOfC "_law_room" (defScope sd__law_room) s.heap.objs.size f cdv))) :
    SSs false (cxOf CX0 P w K mg base ["variables", "many", "cubes", "best", "lot", "own", "each"] "_law_room" (defScope sd__law_room) f cdv A outer s H E).nox (defBody sd__law_room) g__law_room :=
  have nd := sc__law_room.nd
  (ss_cons (ss_par2 (i := 2) (j := 3) rfl nd (sm_va (h_call h__law_products (hr.mono (by decide)) (sa_cons (s_var (i := 0)) (sa_cons s_int sa_nil))) (sm_va s_int sm_nil)) (hp := ps_par rfl nd rfl rfl (by decide) rfl rfl (sm_va (h_call h__law_products (hr.mono (by decide)) (sa_cons (s_var (i := 0)) (sa_cons s_int sa_nil))) (sm_va s_int sm_nil)) (by rfl)))
      (ss_cons (ss_for PassesOwn.never rfl (si_seq (h_call h__law_lots (hr.mono (by decide)) (sa_cons (h_call h__law_products (hr.mono (by decide)) (sa_cons (s_var (i := 0)) (sa_cons s_int sa_nil))) (sa_cons (s_var (i := 1)) sa_nil)))) (h_of (g_name (i := 4) nd)) (ss_cons (ss_lc (own := [("each", 6)]) (i := 5) rfl nd (si_seq (s_var (i := 2))) (blkOk_by (own := [("each", 6)]) (N := ["variables", "many", "cubes", "best", "lot", "own", "each"]) (sc := defScope sd__law_room) (by decide +kernel)) (fun _ _ _ _ _ => (g_name (i := 6) nd)) (fun _ _ _ _ _ => (ts_one (st_w (sw_and (st_cmp (op_inR hr) ok_in (s_slice (s_var (i := 6)) (so_some s_int) so_none) (s_var (i := 4))) (sw_and (st_cmp (op_inR hr) ok_in (s_slice (s_var (i := 6)) so_none (so_some s_int)) (s_var (i := 4))) (sw_one (st_cmp (op_inR hr) ok_in (s_tup (sa_cons (s_ix ix_seq ok_ix (s_var (i := 6)) s_int) (sa_cons (s_ix ix_seq ok_ix (s_var (i := 6)) s_int) sa_nil))) (s_var (i := 4))))))))) (fun _ _ _ _ _ => (s_var (i := 6))))
      (ss_one (ss_asg (s_b (call_max2 rfl) ok_max2 T.b_max bt_max (sa_cons (s_var (i := 3)) (sa_cons (s_b call_lenA ok_len T.b_len bt_len (sa_cons (s_var (i := 5)) sa_nil)) sa_nil))) (h_of (g_name (i := 3) nd))))))
      (ss_one (ss_ret (s_var (i := 3))))))
theorem ok__law_room {P : Program} {w : World} {K : PySem.W.Frag} {mg : Str → Option Value} {base : Heap} {f : Addr} {fd : FuncData} (F : Fun K "_law_room" "_law_room" sd__law_room f fd) (T : Txt K mg) (h__law_products : Has P w K mg base 4 "_law_products" ["variables", "degree"] (spP K 2 d__law_products)) (h__law_lots : Has P w K mg base 1 "_law_lots" ["some", "many"] (spP K 2 d__law_lots)) : FnOk P w K mg base CX0 5 f fd ["variables", "many"] (spP K 2 d__law_room) :=
  fn_P (N := ["variables", "many", "cubes", "best", "lot", "own", "each"]) (g := g__law_room) F sc__law_room ⟨fun cdv A outer s H E hr => wk__law_room T h__law_products h__law_lots hr⟩

/-! ### _law_sequence -/
abbrev sd__law_sequence : Stmt := topS 27
theorem sc__law_sequence : FnScope ["pot", "first", "pairs", "second", "room", "third", "head"] ["pot"] (defScope sd__law_sequence) := ⟨rfl, rfl, rfl, by decide +kernel, rfl, by decide +kernel, by decide +kernel⟩
theorem wk__law_sequence {P : Program} {w : World} {K : PySem.W.Frag} {mg : Str → Option Value} {base : Heap} {f : Addr} {cdv : Value} {A : Around} {outer : List Env} {s : Shared} {H : Hp} {E : XK} (T : Txt K mg) (h__law_of : Has P w K mg base 2 "_law_of" ["pot", "some"] (spM K 1 d__law_of)) (h__law_products : Has P w K mg base 4 "_law_products" ["variables", "degree"] (spP K 2 d__law_products)) (h__law_take : Has P w K mg base 1 "_law_take" ["pot", "few"] (spM K 1 d__law_take)) (h__law_room : Has P w K mg base 5 "_law_room" ["variables", "many"] (spP K 2 d__law_room)) (hr : Room 5 (A.deeper (envOfC "_law_sequence" (defScope sd__law_sequence) s.heap.objs.size f cdv))) :
    SSs false (cxOf CX0 P w K mg base ["pot", "first", "pairs", "second", "room", "third", "head"] "_law_sequence" (defScope sd__law_sequence) f cdv A outer s H E).nox (defBody sd__law_sequence) g__law_sequence :=
  have nd := sc__law_sequence.nd
  (ss_cons (ss_asg (h_callM (i := 0) h__law_of (hr.mono (by decide)) (sa_cons (s_tup (sa_cons s_int (sa_cons s_int (sa_cons s_int (sa_cons s_int (sa_cons s_int (sa_cons s_int (sa_cons s_int (sa_cons s_int (sa_cons s_int (sa_cons (s_un un_neg ok_neg s_int) sa_nil))))))))))) sa_nil)) (h_of (g_name (i := 1) nd)))
      (ss_cons (ss_asg (s_ite (st_cmp op_ge ok_ge (s_var (i := 1)) s_int) (s_b call_lenA ok_len T.b_len bt_len (sa_cons (h_call h__law_products (hr.mono (by decide)) (sa_cons (s_var (i := 1)) (sa_cons s_int sa_nil))) sa_nil)) s_int) (h_of (g_name (i := 2) nd)))
      (ss_cons (ss_asg (h_callM (i := 0) h__law_of (hr.mono (by decide)) (sa_cons (s_tup (sa_cons (h_callM (i := 0) h__law_take (hr.mono (by decide)) (sa_cons (s_op op_addA ok_addA (s_var (i := 2)) s_int) sa_nil)) (sa_cons (h_callM (i := 0) h__law_take (hr.mono (by decide)) (sa_cons (s_op op_addA ok_addA (s_var (i := 2)) s_int) sa_nil)) (sa_cons (s_var (i := 2)) (sa_cons (s_op op_addA ok_addA (s_var (i := 2)) s_int) (sa_cons (s_un un_neg ok_neg s_int) sa_nil)))))) sa_nil)) (h_of (g_name (i := 3) nd)))
      (ss_cons (ss_asg (s_ite (st_w (sw_and (st_cmp op_ge ok_ge (s_var (i := 1)) s_int) (sw_one (st_chain op_le op_le ok_le ok_le s_int (s_var (i := 3)) (s_var (i := 2)))))) (h_call h__law_room (hr.mono (by decide)) (sa_cons (s_var (i := 1)) (sa_cons (s_var (i := 3)) sa_nil))) s_int) (h_of (g_name (i := 4) nd)))
      (ss_cons (ss_asg (h_callM (i := 0) h__law_of (hr.mono (by decide)) (sa_cons (s_tup (sa_cons (s_var (i := 4)) (sa_cons (s_var (i := 4)) (sa_cons (s_op op_addA ok_addA (s_var (i := 4)) s_int) (sa_cons (s_op op_addA ok_addA (s_var (i := 4)) s_int) (sa_cons (h_callM (i := 0) h__law_take (hr.mono (by decide)) (sa_cons (s_op op_addA ok_addA (s_var (i := 4)) s_int) sa_nil)) (sa_cons s_int (sa_cons (s_un un_neg ok_neg s_int) sa_nil)))))))) sa_nil)) (h_of (g_name (i := 5) nd)))
      (ss_cons (ss_asg (h_callM (i := 0) h__law_of (hr.mono (by decide)) (sa_cons (s_tup (sa_cons s_int (sa_cons s_int (sa_cons s_int (sa_cons s_int (sa_cons s_int (sa_cons s_int (sa_cons s_int (sa_cons s_int (sa_cons s_int (sa_cons s_int (sa_cons s_int (sa_cons s_int (sa_cons s_int (sa_cons s_int (sa_cons (s_un un_neg ok_neg s_int) sa_nil)))))))))))))))) sa_nil)) (h_of (g_name (i := 6) nd)))
      (ss_one (ss_ret (s_slice (s_tup (sa_cons (s_var (i := 6)) (sa_cons (s_var (i := 1)) (sa_cons (s_var (i := 3)) (sa_cons (s_var (i := 5)) sa_nil))))) so_none (so_some (h_callM (i := 0) h__law_of (hr.mono (by decide)) (sa_cons (s_tup (sa_cons s_int (sa_cons s_int (sa_cons s_int (sa_cons s_int (sa_cons s_int (sa_cons s_int (sa_cons s_int (sa_cons s_int (sa_cons s_int (sa_cons s_int (sa_cons s_int (sa_cons s_int sa_nil))))))))))))) sa_nil))))))))))))
theorem ok__law_sequence {P : Program} {w : World} {K : PySem.W.Frag} {mg : Str → Option Value} {base : Heap} {f : Addr} {fd : FuncData} (F : Fun K "_law_sequence" "_law_sequence" sd__law_sequence f fd) (T : Txt K mg) (h__law_of : Has P w K mg base 2 "_law_of" ["pot", "some"] (spM K 1 d__law_of)) (h__law_products : Has P w K mg base 4 "_law_products" ["variables", "degree"] (spP K 2 d__law_products)) (h__law_take : Has P w K mg base 1 "_law_take" ["pot", "few"] (spM K 1 d__law_take)) (h__law_room : Has P w K mg base 5 "_law_room" ["variables", "many"] (spP K 2 d__law_room)) : FnOk P w K mg base CX0 6 f fd ["pot"] (spM K 0 d__law_sequence) :=
  fn_M (N := ["pot", "first", "pairs", "second", "room", "third", "head"]) (g := g__law_sequence) F sc__law_sequence ⟨fun cdv A outer s H E hr => wk__law_sequence T h__law_of h__law_products h__law_take h__law_room hr⟩

/-! ### _law_wide -/
abbrev sd__law_wide : Stmt := topS 29
theorem sc__law_wide : FnScope ["pot", "found", "fault", "k"] ["pot"] (defScope sd__law_wide) := ⟨rfl, rfl, rfl, by decide +kernel, rfl, by decide +kernel, by decide +kernel⟩
theorem wk__law_wide {P : Program} {w : World} {K : PySem.W.Frag} {mg : Str → Option Value} {base : Heap} {f : Addr} {cdv : Value} {A : Around} {outer : List Env} {s : Shared} {H : Hp} {E : XK} (T : Txt K mg) (h__law_take : Has P w K mg base 1 "_law_take" ["pot", "few"] (spM K 1 d__law_take)) (hr : Room 1 (A.deeper (envOfC "_law_wide" (defScope sd__law_wide) s.heap.objs.size f cdv))) :
    SSs false (cxOf CX0 P w K mg base ["pot", "found", "fault", "k"] "_law_wide" (defScope sd__law_wide) f cdv A outer s H E).nox (defBody sd__law_wide) g__law_wide :=
  have nd := sc__law_wide.nd
  (ss_cons (ss_par2 (i := 1) (j := 2) rfl nd (sm_ow (s_lc (own := [("k", 3)]) rfl nd (si_range1 T.b_range (sa_cons (s_op op_addA ok_addA s_int (h_callM (i := 0) h__law_take (hr.mono (by decide)) (sa_cons s_int sa_nil))) sa_nil)) (blkOk_by (own := [("k", 3)]) (N := ["pot", "found", "fault", "k"]) (sc := defScope sd__law_wide) (by decide +kernel)) (fun _ _ _ _ _ => (g_name (i := 3) nd)) (fun _ _ _ _ _ => ts_nil) (fun _ _ _ _ _ => (s_op op_addA ok_addA (s_var (i := 3)) s_int))) (sm_va s_none sm_nil)) (hp := ps_par rfl nd rfl rfl (by decide) rfl rfl (sm_ow (s_lc (own := [("k", 3)]) rfl nd (si_range1 T.b_range (sa_cons (s_op op_addA ok_addA s_int (h_callM (i := 0) h__law_take (hr.mono (by decide)) (sa_cons s_int sa_nil))) sa_nil)) (blkOk_by (own := [("k", 3)]) (N := ["pot", "found", "fault", "k"]) (sc := defScope sd__law_wide) (by decide +kernel)) (fun _ _ _ _ _ => (g_name (i := 3) nd)) (fun _ _ _ _ _ => ts_nil) (fun _ _ _ _ _ => (s_op op_addA ok_addA (s_var (i := 3)) s_int))) (sm_va s_none sm_nil)) (by rfl)))
      (ss_cons (ss_if (st_cmp (op_eqA hr.units) ok_eq (h_callM (i := 0) h__law_take (hr.mono (by decide)) (sa_cons s_int sa_nil)) s_int) (ss_cons (ss_asg (s_op op_addA ok_addA s_int (h_callM (i := 0) h__law_take (hr.mono (by decide)) (sa_cons (s_op op_sub ok_sub (s_lenO (i := 1) T.b_len rfl (by first | exact Or.inl rfl | exact Or.inr (Or.inl rfl) | exact Or.inr (Or.inr rfl)) (ha := pa_cons (pv 1) pa_nil)) s_int) sa_nil))) (h_of (g_name (i := 2) nd)))
      (ss_one (ss_asg (s_op op_addA ok_addA (s_op op_addA ok_addA (s_ixO (i := 1) (s_var (i := 2))) s_int) (h_callM (i := 0) h__law_take (hr.mono (by decide)) (sa_cons s_int sa_nil))) (h_ix (i := 1) (s_var (i := 2)))))) ss_nil)
      (ss_one (ss_ret (s_tup (sa_cons (s_t call_tuple_of ok_tupOf T.b_tuple bt_tuple (sa_cons (s_var (i := 1)) sa_nil)) (sa_cons (s_var (i := 2)) sa_nil)))))))
theorem ok__law_wide {P : Program} {w : World} {K : PySem.W.Frag} {mg : Str → Option Value} {base : Heap} {f : Addr} {fd : FuncData} (F : Fun K "_law_wide" "_law_wide" sd__law_wide f fd) (T : Txt K mg) (h__law_take : Has P w K mg base 1 "_law_take" ["pot", "few"] (spM K 1 d__law_take)) : FnOk P w K mg base CX0 2 f fd ["pot"] (spM K 0 d__law_wide) :=
  fn_M (N := ["pot", "found", "fault", "k"]) (g := g__law_wide) F sc__law_wide ⟨fun cdv A outer s H E hr => wk__law_wide T h__law_take hr⟩

/-! ### _law_thin -/
abbrev sd__law_thin : Stmt := topS 28
theorem sc__law_thin : FnScope ["pot", "found", "fault", "k", "more", "turn"] ["pot"] (defScope sd__law_thin) := ⟨rfl, rfl, rfl, by decide +kernel, rfl, by decide +kernel, by decide +kernel⟩
theorem wk__law_thin {P : Program} {w : World} {K : PySem.W.Frag} {mg : Str → Option Value} {base : Heap} {f : Addr} {cdv : Value} {A : Around} {outer : List Env} {s : Shared} {H : Hp} {E : XK} (T : Txt K mg) (h__law_take : Has P w K mg base 1 "_law_take" ["pot", "few"] (spM K 1 d__law_take)) (h__law_of : Has P w K mg base 2 "_law_of" ["pot", "some"] (spM K 1 d__law_of)) (hr : Room 2 (A.deeper (envOfC "_law_thin" (defScope sd__law_thin) s.heap.objs.size f cdv))) :
    SSs false (cxOf CX0 P w K mg base ["pot", "found", "fault", "k", "more", "turn"] "_law_thin" (defScope sd__law_thin) f cdv A outer s H E).nox (defBody sd__law_thin) g__law_thin :=
  have nd := sc__law_thin.nd
  (ss_cons (ss_par2 (i := 1) (j := 2) rfl nd (sm_ow (s_lst (sa_cons s_int (sa_cons (h_callM (i := 0) h__law_take (hr.mono (by decide)) (sa_cons s_int sa_nil)) sa_nil))) (sm_va s_none sm_nil)) (hp := ps_par rfl nd rfl rfl (by decide) rfl rfl (sm_ow (s_lst (sa_cons s_int (sa_cons (h_callM (i := 0) h__law_take (hr.mono (by decide)) (sa_cons s_int sa_nil)) sa_nil))) (sm_va s_none sm_nil)) (by rfl)))
      (ss_cons (ss_for PassesOwn.never rfl (si_range2 T.b_range (sa_cons s_int (sa_cons (s_op op_addA ok_addA s_int (h_callM (i := 0) h__law_take (hr.mono (by decide)) (sa_cons s_int sa_nil))) sa_nil))) (h_of (g_name (i := 3) nd)) (ss_cons (ss_app (i := 1) (s_ite (st_cmp op_gt ok_gt (h_callM (i := 0) h__law_take (hr.mono (by decide)) (sa_cons s_int sa_nil)) s_int) (s_ixO (i := 1) (s_un un_neg ok_neg s_int)) (h_callM (i := 0) h__law_of (hr.mono (by decide)) (sa_cons (s_tup (sa_cons s_int (sa_cons s_int (sa_cons s_int (sa_cons s_int (sa_cons (s_un un_neg ok_neg s_int) sa_nil)))))) sa_nil))) (hp := pe_bm PySem.F.plainAttrs_list PySem.F.slot_list_append PySem.F.type_list_append mt_append (pv 1) (pa_cons (s_ite (st_cmp op_gt ok_gt (h_callM (i := 0) h__law_take (hr.mono (by decide)) (sa_cons s_int sa_nil)) s_int) (s_ixO (i := 1) (s_un un_neg ok_neg s_int)) (h_callM (i := 0) h__law_of (hr.mono (by decide)) (sa_cons (s_tup (sa_cons s_int (sa_cons s_int (sa_cons s_int (sa_cons s_int (sa_cons (s_un un_neg ok_neg s_int) sa_nil)))))) sa_nil))) pa_nil)))
      (ss_one (ss_if (st_w (sw_or (st_cmp op_lt ok_lt (s_ixO (i := 1) (s_un un_neg ok_neg s_int)) s_int) (sw_one (st_cmp op_gt ok_gt (s_ixO (i := 1) (s_un un_neg ok_neg s_int)) (s_ixO (i := 1) (s_un un_neg ok_neg s_int)))))) (ss_cons (ss_asg (s_var (i := 3)) (h_of (g_name (i := 2) nd)))
      (ss_one ss_break)) ss_nil))))
      (ss_cons (ss_asg (s_ite (st_cmp op_notN ok_notN (s_var (i := 2)) s_none) (s_frz (s_lc (own := [("turn", 5)]) rfl nd (si_range1 T.b_range (sa_cons (s_op op_sub ok_sub s_int (s_lenO (i := 1) T.b_len rfl (by first | exact Or.inl rfl | exact Or.inr (Or.inl rfl) | exact Or.inr (Or.inr rfl)) (ha := pa_cons (pv 1) pa_nil))) sa_nil)) (blkOk_by (own := [("turn", 5)]) (N := ["pot", "found", "fault", "k", "more", "turn"]) (sc := defScope sd__law_thin) (by decide +kernel)) (fun _ _ _ _ _ => (g_name (i := 5) nd)) (fun _ _ _ _ _ => ts_nil) (fun _ _ _ _ _ => (h_callM (i := 0) h__law_take (hr.mono (by decide)) (sa_cons s_int sa_nil))))) (s_frz (s_lst sa_nil))) (h_of (g_name (i := 4) nd)))
      (ss_one (ss_ret (s_tup (sa_cons (s_t call_tuple_of ok_tupOf T.b_tuple bt_tuple (sa_cons (s_op op_addA ok_addA (s_var (i := 1)) (s_var (i := 4))) sa_nil)) (sa_cons (s_var (i := 2)) sa_nil))))))))
theorem ok__law_thin {P : Program} {w : World} {K : PySem.W.Frag} {mg : Str → Option Value} {base : Heap} {f : Addr} {fd : FuncData} (F : Fun K "_law_thin" "_law_thin" sd__law_thin f fd) (T : Txt K mg) (h__law_take : Has P w K mg base 1 "_law_take" ["pot", "few"] (spM K 1 d__law_take)) (h__law_of : Has P w K mg base 2 "_law_of" ["pot", "some"] (spM K 1 d__law_of)) : FnOk P w K mg base CX0 3 f fd ["pot"] (spM K 0 d__law_thin) :=
  fn_M (N := ["pot", "found", "fault", "k", "more", "turn"]) (g := g__law_thin) F sc__law_thin ⟨fun cdv A outer s H E hr => wk__law_thin T h__law_take h__law_of hr⟩

/-! ### _law_searched -/
abbrev sd__law_searched : Stmt := topS 26
theorem sc__law_searched : FnScope ["some"] ["some"] (defScope sd__law_searched) := ⟨rfl, rfl, rfl, by decide +kernel, rfl, by decide +kernel, by decide +kernel⟩
theorem wk__law_searched {P : Program} {w : World} {K : PySem.W.Frag} {mg : Str → Option Value} {base : Heap} {f : Addr} {cdv : Value} {A : Around} {outer : List Env} {s : Shared} {H : Hp} {E : XK} (T : Txt K mg) (h__law_products : Has P w K mg base 4 "_law_products" ["variables", "degree"] (spP K 2 d__law_products)) (h__law_room : Has P w K mg base 5 "_law_room" ["variables", "many"] (spP K 2 d__law_room)) (hr : Room 5 (A.deeper (envOfC "_law_searched" (defScope sd__law_searched) s.heap.objs.size f cdv))) :
    SSs false (cxOf CX0 P w K mg base ["some"] "_law_searched" (defScope sd__law_searched) f cdv A outer s H E).nox (defBody sd__law_searched) g__law_searched :=
  have nd := sc__law_searched.nd
  (ss_cons (ss_if (st_cmp (op_neA hr.units) ok_ne (s_ix ix_seq ok_ix (s_var (i := 0)) s_int) s_int) (ss_one (ss_ret s_int)) ss_nil)
      (ss_cons (ss_if (st_w (sw_and (st_cmp op_gt ok_gt (s_b call_lenA ok_len T.b_len bt_len (sa_cons (s_var (i := 0)) sa_nil)) s_int) (sw_one (st_cmp op_lt ok_lt (s_ix ix_seq ok_ix (s_var (i := 0)) s_int) s_int)))) (ss_one (ss_ret s_int)) ss_nil)
      (ss_cons (ss_if (st_w (sw_and (st_cmp op_gt ok_gt (s_b call_lenA ok_len T.b_len bt_len (sa_cons (s_var (i := 0)) sa_nil)) s_int) (sw_one (st_w (sw_or (st_cmp op_lt ok_lt (s_ix ix_seq ok_ix (s_var (i := 0)) s_int) s_int) (sw_one (st_cmp op_gt ok_gt (s_ix ix_seq ok_ix (s_var (i := 0)) s_int) (s_b call_lenA ok_len T.b_len bt_len (sa_cons (h_call h__law_products (hr.mono (by decide)) (sa_cons (s_ix ix_seq ok_ix (s_var (i := 0)) s_int) (sa_cons s_int sa_nil))) sa_nil))))))))) (ss_one (ss_ret s_int)) ss_nil)
      (ss_cons (ss_if (st_w (sw_and (st_cmp op_gt ok_gt (s_b call_lenA ok_len T.b_len bt_len (sa_cons (s_var (i := 0)) sa_nil)) s_int) (sw_one (st_w (sw_or (st_cmp op_lt ok_lt (s_ix ix_seq ok_ix (s_var (i := 0)) s_int) s_int) (sw_one (st_cmp op_gt ok_gt (s_ix ix_seq ok_ix (s_var (i := 0)) s_int) (h_call h__law_room (hr.mono (by decide)) (sa_cons (s_ix ix_seq ok_ix (s_var (i := 0)) s_int) (sa_cons (s_ix ix_seq ok_ix (s_var (i := 0)) s_int) sa_nil)))))))))) (ss_one (ss_ret s_int)) ss_nil)
      (ss_one (ss_ret s_none))))))
theorem ok__law_searched {P : Program} {w : World} {K : PySem.W.Frag} {mg : Str → Option Value} {base : Heap} {f : Addr} {fd : FuncData} (F : Fun K "_law_searched" "_law_searched" sd__law_searched f fd) (T : Txt K mg) (h__law_products : Has P w K mg base 4 "_law_products" ["variables", "degree"] (spP K 2 d__law_products)) (h__law_room : Has P w K mg base 5 "_law_room" ["variables", "many"] (spP K 2 d__law_room)) : FnOk P w K mg base CX0 6 f fd ["some"] (spP K 1 d__law_searched) :=
  fn_P (N := ["some"]) (g := g__law_searched) F sc__law_searched ⟨fun cdv A outer s H E hr => wk__law_searched T h__law_products h__law_room hr⟩

/-! ### is_whole -/
abbrev sd_is_whole : Stmt := topS 5
theorem sc_is_whole : FnScope ["value"] ["value"] (defScope sd_is_whole) := ⟨rfl, rfl, rfl, by decide +kernel, rfl, by decide +kernel, by decide +kernel⟩
theorem wk_is_whole {P : Program} {w : World} {K : PySem.W.Frag} {mg : Str → Option Value} {base : Heap} {f : Addr} {cdv : Value} {A : Around} {outer : List Env} {s : Shared} {H : Hp} {E : XK} (T : Txt K mg) (hr : Room 0 (A.deeper (envOfC "is_whole" (defScope sd_is_whole) s.heap.objs.size f cdv))) :
    SSs false (cxOf CX0 P w K mg base ["value"] "is_whole" (defScope sd_is_whole) f cdv A outer s H E).nox (defBody sd_is_whole) g_is_whole :=
  have nd := sc_is_whole.nd
  (ss_one (ss_ret (sv_and (s_isi (T := "int") T.b_isinstance T.b_int bt_int (s_var (i := 0))) (sv_one (sv_not (s_isi (T := "bool") T.b_isinstance T.b_bool bt_bool (s_var (i := 0))))))))
theorem ok_is_whole {P : Program} {w : World} {K : PySem.W.Frag} {mg : Str → Option Value} {base : Heap} {f : Addr} {fd : FuncData} (F : Fun K "is_whole" "is_whole" sd_is_whole f fd) (T : Txt K mg) : FnOk P w K mg base CX0 1 f fd ["value"] (spP K 1 d_is_whole) :=
  fn_P (N := ["value"]) (g := g_is_whole) F sc_is_whole ⟨fun cdv A outer s H E hr => wk_is_whole T hr⟩

/-! ### is_between -/
abbrev sd_is_between : Stmt := topS 6
theorem sc_is_between : FnScope ["value", "least", "most"] ["value", "least", "most"] (defScope sd_is_between) := ⟨rfl, rfl, rfl, by decide +kernel, rfl, by decide +kernel, by decide +kernel⟩
theorem wk_is_between {P : Program} {w : World} {K : PySem.W.Frag} {mg : Str → Option Value} {base : Heap} {f : Addr} {cdv : Value} {A : Around} {outer : List Env} {s : Shared} {H : Hp} {E : XK} (T : Txt K mg) (h_is_whole : Has P w K mg base 1 "is_whole" ["value"] (spP K 1 d_is_whole)) (hr : Room 1 (A.deeper (envOfC "is_between" (defScope sd_is_between) s.heap.objs.size f cdv))) :
    SSs false (cxOf CX0 P w K mg base ["value", "least", "most"] "is_between" (defScope sd_is_between) f cdv A outer s H E).nox (defBody sd_is_between) g_is_between :=
  have nd := sc_is_between.nd
  (ss_one (ss_ret (sv_and (h_call h_is_whole (hr.mono (by decide)) (sa_cons (s_var (i := 0)) sa_nil)) (sv_one (s_chain op_le op_le ok_le ok_le (s_var (i := 1)) (s_var (i := 0)) (s_var (i := 2)))))))
theorem ok_is_between {P : Program} {w : World} {K : PySem.W.Frag} {mg : Str → Option Value} {base : Heap} {f : Addr} {fd : FuncData} (F : Fun K "is_between" "is_between" sd_is_between f fd) (T : Txt K mg) (h_is_whole : Has P w K mg base 1 "is_whole" ["value"] (spP K 1 d_is_whole)) : FnOk P w K mg base CX0 2 f fd ["value", "least", "most"] (spP K 3 d_is_between) :=
  fn_P (N := ["value", "least", "most"]) (g := g_is_between) F sc_is_between ⟨fun cdv A outer s H E hr => wk_is_between T h_is_whole hr⟩

/-! ### check_sequence -/
abbrev sd_check_sequence : Stmt := topS 16
theorem sc_check_sequence : FnScope ["value", "index", "each"] ["value"] (defScope sd_check_sequence) := ⟨rfl, rfl, rfl, by decide +kernel, rfl, by decide +kernel, by decide +kernel⟩
theorem wk_check_sequence {P : Program} {w : World} {K : PySem.W.Frag} {mg : Str → Option Value} {base : Heap} {f : Addr} {cdv : Value} {A : Around} {outer : List Env} {s : Shared} {H : Hp} {E : XK} (T : Txt K mg) (h_is_between : Has P w K mg base 2 "is_between" ["value", "least", "most"] (spP K 3 d_is_between)) (hr : Room 2 (A.deeper (envOfC "check_sequence" (defScope sd_check_sequence) s.heap.objs.size f cdv))) :
    SSs false (cxOf CX0 P w K mg base ["value", "index", "each"] "check_sequence" (defScope sd_check_sequence) f cdv A outer s H E).nox (defBody sd_check_sequence) g_check_sequence :=
  have nd := sc_check_sequence.nd
  (ss_cons (ss_if (st_w (sw_or (st_not (st_val (s_isi (T := "tuple") T.b_isinstance T.b_tuple bt_tuple (s_var (i := 0))))) (sw_one (st_not (st_chain op_le op_le ok_le ok_le s_int (s_b call_lenA ok_len T.b_len bt_len (sa_cons (s_var (i := 0)) sa_nil)) (s_gint T.c_MOST_DEGREE)))))) (ss_one ss_never) ss_nil)
      (ss_one (ss_for PassesOwn.never rfl (si_enum T.b_enumerate (sa_cons (s_var (i := 0)) sa_nil)) (h_of (g_tup rfl (gs_cons (g_name (i := 1) nd) (gs_cons (g_name (i := 2) nd) gs_nil)))) (ss_one (ss_if (st_not (st_val (h_call h_is_between (hr.mono (by decide)) (sa_cons (s_var (i := 2)) (sa_cons (s_un un_neg ok_neg (s_gint T.c_MOST_NUMBER)) (sa_cons (s_gint T.c_MOST_NUMBER) sa_nil)))))) (ss_one ss_never) ss_nil)))))
theorem ok_check_sequence {P : Program} {w : World} {K : PySem.W.Frag} {mg : Str → Option Value} {base : Heap} {f : Addr} {fd : FuncData} (F : Fun K "check_sequence" "check_sequence" sd_check_sequence f fd) (T : Txt K mg) (h_is_between : Has P w K mg base 2 "is_between" ["value", "least", "most"] (spP K 3 d_is_between)) : FnOk P w K mg base CX0 3 f fd ["value"] (spP K 1 d_check_sequence) :=
  fn_P (N := ["value", "index", "each"]) (g := g_check_sequence) F sc_check_sequence ⟨fun cdv A outer s H E hr => wk_check_sequence T h_is_between hr⟩

/-! ### greatest_top -/
abbrev sd_greatest_top : Stmt := topS 8
theorem sc_greatest_top : FnScope ["number", "degree", "least", "most", "middle"] ["number", "degree"] (defScope sd_greatest_top) := ⟨rfl, rfl, rfl, by decide +kernel, rfl, by decide +kernel, by decide +kernel⟩
theorem wk_greatest_top {P : Program} {w : World} {K : PySem.W.Frag} {mg : Str → Option Value} {base : Heap} {f : Addr} {cdv : Value} {A : Around} {outer : List Env} {s : Shared} {H : Hp} {E : XK} (T : Txt K mg) (hr : Room 0 (A.deeper (envOfC "greatest_top" (defScope sd_greatest_top) s.heap.objs.size f cdv))) :
    SSs false (cxOf CX0 P w K mg base ["number", "degree", "least", "most", "middle"] "greatest_top" (defScope sd_greatest_top) f cdv A outer s H E).nox (defBody sd_greatest_top) g_greatest_top :=
  have nd := sc_greatest_top.nd
  (ss_cons (ss_par2 (i := 2) (j := 3) rfl nd (sm_va (s_var (i := 1)) (sm_va (s_var (i := 1)) sm_nil)) (hp := ps_par rfl nd rfl rfl (by decide) rfl rfl (sm_va (s_var (i := 1)) (sm_va (s_var (i := 1)) sm_nil)) (by rfl)))
      (ss_cons (ss_while (n := FU) PassesOwn.never (st_cmp op_le ok_le (s_f call_comb ok_comb T.f_comb (sa_cons (s_var (i := 3)) (sa_cons (s_var (i := 1)) sa_nil))) (s_var (i := 0))) (ss_one (ss_par2 (i := 2) (j := 3) rfl nd (sm_va (s_var (i := 3)) (sm_va (s_op op_mulA ok_mul s_int (s_var (i := 3))) sm_nil)) (hp := ps_par rfl nd rfl rfl (by decide) rfl rfl (sm_va (s_var (i := 3)) (sm_va (s_op op_mulA ok_mul s_int (s_var (i := 3))) sm_nil)) (by rfl)))))
      (ss_cons (ss_while (n := FU) PassesOwn.never (st_cmp op_gt ok_gt (s_op op_sub ok_sub (s_var (i := 3)) (s_var (i := 2))) s_int) (ss_cons (ss_asg (s_op op_divA ok_div (s_op op_addA ok_addA (s_var (i := 2)) (s_var (i := 3))) s_int) (h_of (g_name (i := 4) nd)))
      (ss_one (ss_if (st_cmp op_le ok_le (s_f call_comb ok_comb T.f_comb (sa_cons (s_var (i := 4)) (sa_cons (s_var (i := 1)) sa_nil))) (s_var (i := 0))) (ss_one (ss_asg (s_var (i := 4)) (h_of (g_name (i := 2) nd)))) (ss_one (ss_asg (s_var (i := 4)) (h_of (g_name (i := 3) nd))))))))
      (ss_one (ss_ret (s_var (i := 2)))))))
theorem ok_greatest_top {P : Program} {w : World} {K : PySem.W.Frag} {mg : Str → Option Value} {base : Heap} {f : Addr} {fd : FuncData} (F : Fun K "greatest_top" "greatest_top" sd_greatest_top f fd) (T : Txt K mg) : FnOk P w K mg base CX0 1 f fd ["number", "degree"] (spP K 2 d_greatest_top) :=
  fn_P (N := ["number", "degree", "least", "most", "middle"]) (g := g_greatest_top) F sc_greatest_top ⟨fun cdv A outer s H E hr => wk_greatest_top T hr⟩

/-! ### expansion_by -/
abbrev sd_expansion_by : Stmt := topS 9
theorem sc_expansion_by : FnScope ["number", "degree", "found", "left", "at"] ["number", "degree"] (defScope sd_expansion_by) := ⟨rfl, rfl, rfl, by decide +kernel, rfl, by decide +kernel, by decide +kernel⟩
theorem wk_expansion_by {P : Program} {w : World} {K : PySem.W.Frag} {mg : Str → Option Value} {base : Heap} {f : Addr} {cdv : Value} {A : Around} {outer : List Env} {s : Shared} {H : Hp} {E : XK} (T : Txt K mg) (h_greatest_top : Has P w K mg base 1 "greatest_top" ["number", "degree"] (spP K 2 d_greatest_top)) (hr : Room 1 (A.deeper (envOfC "expansion_by" (defScope sd_expansion_by) s.heap.objs.size f cdv))) :
    SSs false (cxOf CX0 P w K mg base ["number", "degree", "found", "left", "at"] "expansion_by" (defScope sd_expansion_by) f cdv A outer s H E).nox (defBody sd_expansion_by) g_expansion_by :=
  have nd := sc_expansion_by.nd
  (ss_cons (ss_par3 (i := 2) (j := 3) (l := 4) (sm_ow (s_lst sa_nil) (sm_va (s_var (i := 0)) (sm_va (s_var (i := 1)) sm_nil))) (hp := ps_par3 rfl nd rfl rfl rfl (by decide) (by decide) (by decide) rfl rfl rfl (sm_ow (s_lst sa_nil) (sm_va (s_var (i := 0)) (sm_va (s_var (i := 1)) sm_nil))) (by rfl)))
      (ss_cons (ss_while (n := FU) PassesOwn.never (st_cmp op_gt ok_gt (s_var (i := 3)) s_int) (ss_cons (ss_app (i := 2) (h_call h_greatest_top (hr.mono (by decide)) (sa_cons (s_var (i := 3)) (sa_cons (s_var (i := 4)) sa_nil))) (hp := pe_bm PySem.F.plainAttrs_list PySem.F.slot_list_append PySem.F.type_list_append mt_append (pv 2) (pa_cons (h_call h_greatest_top (hr.mono (by decide)) (sa_cons (s_var (i := 3)) (sa_cons (s_var (i := 4)) sa_nil))) pa_nil)))
      (ss_one (ss_par2 (i := 3) (j := 4) rfl nd (sm_va (s_op op_sub ok_sub (s_var (i := 3)) (s_f call_comb ok_comb T.f_comb (sa_cons (s_ixO (i := 2) (s_un un_neg ok_neg s_int)) (sa_cons (s_var (i := 4)) sa_nil)))) (sm_va (s_op op_sub ok_sub (s_var (i := 4)) s_int) sm_nil)) (hp := ps_par rfl nd rfl rfl (by decide) rfl rfl (sm_va (s_op op_sub ok_sub (s_var (i := 3)) (s_f call_comb ok_comb T.f_comb (sa_cons (s_ixO (i := 2) (s_un un_neg ok_neg s_int)) (sa_cons (s_var (i := 4)) sa_nil)))) (sm_va (s_op op_sub ok_sub (s_var (i := 4)) s_int) sm_nil)) (by rfl))))))
      (ss_one (ss_ret (s_t call_tuple_of ok_tupOf T.b_tuple bt_tuple (sa_cons (s_var (i := 2)) sa_nil))))))
theorem ok_expansion_by {P : Program} {w : World} {K : PySem.W.Frag} {mg : Str → Option Value} {base : Heap} {f : Addr} {fd : FuncData} (F : Fun K "expansion_by" "expansion_by" sd_expansion_by f fd) (T : Txt K mg) (h_greatest_top : Has P w K mg base 1 "greatest_top" ["number", "degree"] (spP K 2 d_greatest_top)) : FnOk P w K mg base CX0 2 f fd ["number", "degree"] (spP K 2 d_expansion_by) :=
  fn_P (N := ["number", "degree", "found", "left", "at"]) (g := g_expansion_by) F sc_expansion_by ⟨fun cdv A outer s H E hr => wk_expansion_by T h_greatest_top hr⟩

/-! ### most_next_by -/
abbrev sd_most_next_by : Stmt := topS 10
theorem sc_most_next_by : FnScope ["number", "degree", "parts", "place", "top"] ["number", "degree"] (defScope sd_most_next_by) := ⟨rfl, rfl, rfl, by decide +kernel, rfl, by decide +kernel, by decide +kernel⟩
theorem wk_most_next_by {P : Program} {w : World} {K : PySem.W.Frag} {mg : Str → Option Value} {base : Heap} {f : Addr} {cdv : Value} {A : Around} {outer : List Env} {s : Shared} {H : Hp} {E : XK} (T : Txt K mg) (h_expansion_by : Has P w K mg base 2 "expansion_by" ["number", "degree"] (spP K 2 d_expansion_by)) (hr : Room 2 (A.deeper (envOfC "most_next_by" (defScope sd_most_next_by) s.heap.objs.size f cdv))) :
    SSs false (cxOf CX0 P w K mg base ["number", "degree", "parts", "place", "top"] "most_next_by" (defScope sd_most_next_by) f cdv A outer s H E).nox (defBody sd_most_next_by) g_most_next_by :=
  have nd := sc_most_next_by.nd
  (ss_cons (ss_lc (own := [("place", 3), ("top", 4)]) (i := 2) rfl nd (si_enum T.b_enumerate (sa_cons (h_call h_expansion_by (hr.mono (by decide)) (sa_cons (s_var (i := 0)) (sa_cons (s_var (i := 1)) sa_nil))) sa_nil)) (blkOk_by (own := [("place", 3), ("top", 4)]) (N := ["number", "degree", "parts", "place", "top"]) (sc := defScope sd_most_next_by) (by decide +kernel)) (fun _ _ _ _ _ => (g_tup rfl (gs_cons (g_name (i := 3) nd) (gs_cons (g_name (i := 4) nd) gs_nil)))) (fun _ _ _ _ _ => ts_nil) (fun _ _ _ _ _ => (s_f call_comb ok_comb T.f_comb (sa_cons (s_op op_addA ok_addA (s_var (i := 4)) s_int) (sa_cons (s_op op_addA ok_addA (s_op op_sub ok_sub (s_var (i := 1)) (s_var (i := 3))) s_int) sa_nil)))))
      (ss_one (ss_ret (s_b (cr_sumA rfl) ok_sumA T.b_sum bt_sum (sa_cons (s_var (i := 2)) sa_nil)))))
theorem ok_most_next_by {P : Program} {w : World} {K : PySem.W.Frag} {mg : Str → Option Value} {base : Heap} {f : Addr} {fd : FuncData} (F : Fun K "most_next_by" "most_next_by" sd_most_next_by f fd) (T : Txt K mg) (h_expansion_by : Has P w K mg base 2 "expansion_by" ["number", "degree"] (spP K 2 d_expansion_by)) : FnOk P w K mg base CX0 3 f fd ["number", "degree"] (spP K 2 d_most_next_by) :=
  fn_P (N := ["number", "degree", "parts", "place", "top"]) (g := g_most_next_by) F sc_most_next_by ⟨fun cdv A outer s H E hr => wk_most_next_by T h_expansion_by hr⟩

/-! ### fails_at -/
abbrev sd_fails_at : Stmt := topS 11
theorem sc_fails_at : FnScope ["sequence", "at"] ["sequence", "at"] (defScope sd_fails_at) := ⟨rfl, rfl, rfl, by decide +kernel, rfl, by decide +kernel, by decide +kernel⟩
theorem wk_fails_at {P : Program} {w : World} {K : PySem.W.Frag} {mg : Str → Option Value} {base : Heap} {f : Addr} {cdv : Value} {A : Around} {outer : List Env} {s : Shared} {H : Hp} {E : XK} (T : Txt K mg) (h_most_next_by : Has P w K mg base 3 "most_next_by" ["number", "degree"] (spP K 2 d_most_next_by)) (hr : Room 3 (A.deeper (envOfC "fails_at" (defScope sd_fails_at) s.heap.objs.size f cdv))) :
    SSs false (cxOf CX0 P w K mg base ["sequence", "at"] "fails_at" (defScope sd_fails_at) f cdv A outer s H E).nox (defBody sd_fails_at) g_fails_at :=
  have nd := sc_fails_at.nd
  (ss_cons (ss_if (st_cmp (op_eqA hr.units) ok_eq (s_var (i := 1)) s_int) (ss_one (ss_ret (s_cmp (op_neA hr.units) ok_ne (s_ix ix_seq ok_ix (s_var (i := 0)) s_int) s_int))) ss_nil)
      (ss_cons (ss_if (st_cmp op_lt ok_lt (s_ix ix_seq ok_ix (s_var (i := 0)) (s_var (i := 1))) s_int) (ss_one (ss_ret s_bool)) ss_nil)
      (ss_one (ss_ret (sv_and (s_cmp op_gt ok_gt (s_var (i := 1)) s_int) (sv_one (s_cmp op_gt ok_gt (s_ix ix_seq ok_ix (s_var (i := 0)) (s_var (i := 1))) (h_call h_most_next_by (hr.mono (by decide)) (sa_cons (s_ix ix_seq ok_ix (s_var (i := 0)) (s_op op_sub ok_sub (s_var (i := 1)) s_int)) (sa_cons (s_op op_sub ok_sub (s_var (i := 1)) s_int) sa_nil))))))))))
theorem ok_fails_at {P : Program} {w : World} {K : PySem.W.Frag} {mg : Str → Option Value} {base : Heap} {f : Addr} {fd : FuncData} (F : Fun K "fails_at" "fails_at" sd_fails_at f fd) (T : Txt K mg) (h_most_next_by : Has P w K mg base 3 "most_next_by" ["number", "degree"] (spP K 2 d_most_next_by)) : FnOk P w K mg base CX0 4 f fd ["sequence", "at"] (spP K 2 d_fails_at) :=
  fn_P (N := ["sequence", "at"]) (g := g_fails_at) F sc_fails_at ⟨fun cdv A outer s H E hr => wk_fails_at T h_most_next_by hr⟩

/-! ### fault_by -/
abbrev sd_fault_by : Stmt := topS 12
theorem sc_fault_by : FnScope ["sequence", "at"] ["sequence"] (defScope sd_fault_by) := ⟨rfl, rfl, rfl, by decide +kernel, rfl, by decide +kernel, by decide +kernel⟩
theorem wk_fault_by {P : Program} {w : World} {K : PySem.W.Frag} {mg : Str → Option Value} {base : Heap} {f : Addr} {cdv : Value} {A : Around} {outer : List Env} {s : Shared} {H : Hp} {E : XK} (T : Txt K mg) (h_fails_at : Has P w K mg base 4 "fails_at" ["sequence", "at"] (spP K 2 d_fails_at)) (hr : Room 4 (A.deeper (envOfC "fault_by" (defScope sd_fault_by) s.heap.objs.size f cdv))) :
    SSs false (cxOf CX0 P w K mg base ["sequence", "at"] "fault_by" (defScope sd_fault_by) f cdv A outer s H E).nox (defBody sd_fault_by) g_fault_by :=
  have nd := sc_fault_by.nd
  (ss_cons (ss_for PassesOwn.never rfl (si_range1 T.b_range (sa_cons (s_b call_lenA ok_len T.b_len bt_len (sa_cons (s_var (i := 0)) sa_nil)) sa_nil)) (h_of (g_name (i := 1) nd)) (ss_one (ss_if (st_val (h_call h_fails_at (hr.mono (by decide)) (sa_cons (s_var (i := 0)) (sa_cons (s_var (i := 1)) sa_nil)))) (ss_one (ss_ret (s_frz (s_lst (sa_cons (s_var (i := 1)) sa_nil))))) ss_nil)))
      (ss_one (ss_ret (s_frz (s_lst sa_nil)))))
theorem ok_fault_by {P : Program} {w : World} {K : PySem.W.Frag} {mg : Str → Option Value} {base : Heap} {f : Addr} {fd : FuncData} (F : Fun K "fault_by" "fault_by" sd_fault_by f fd) (T : Txt K mg) (h_fails_at : Has P w K mg base 4 "fails_at" ["sequence", "at"] (spP K 2 d_fails_at)) : FnOk P w K mg base CX0 5 f fd ["sequence"] (spP K 1 d_fault_by) :=
  fn_P (N := ["sequence", "at"]) (g := g_fault_by) F sc_fault_by ⟨fun cdv A outer s H E hr => wk_fault_by T h_fails_at hr⟩

/-! ### first_fault -/
abbrev sd_first_fault : Stmt := topS 17
theorem sc_first_fault : FnScope ["sequence", "index"] ["sequence"] (defScope sd_first_fault) := ⟨rfl, rfl, rfl, by decide +kernel, rfl, by decide +kernel, by decide +kernel⟩
theorem wk_first_fault {P : Program} {w : World} {K : PySem.W.Frag} {mg : Str → Option Value} {base : Heap} {f : Addr} {cdv : Value} {A : Around} {outer : List Env} {s : Shared} {H : Hp} {E : XK} (T : Txt K mg) (h_check_sequence : Has P w K mg base 3 "check_sequence" ["value"] (spP K 1 d_check_sequence)) (h_fault_by : Has P w K mg base 5 "fault_by" ["sequence"] (spP K 1 d_fault_by)) (hr : Room 5 (A.deeper (envOfC "first_fault" (defScope sd_first_fault) s.heap.objs.size f cdv))) :
    SSs false (cxOf CX0 P w K mg base ["sequence", "index"] "first_fault" (defScope sd_first_fault) f cdv A outer s H E).nox (defBody sd_first_fault) g_first_fault :=
  have nd := sc_first_fault.nd
  (ss_cons (ss_drop (h_call h_check_sequence (hr.mono (by decide)) (sa_cons (s_var (i := 0)) sa_nil)))
      (ss_cons (ss_for PassesOwn.never rfl (si_seq (h_call h_fault_by (hr.mono (by decide)) (sa_cons (s_var (i := 0)) sa_nil))) (h_of (g_name (i := 1) nd)) (ss_one (ss_ret (s_var (i := 1)))))
      (ss_one (ss_ret s_none))))
theorem ok_first_fault {P : Program} {w : World} {K : PySem.W.Frag} {mg : Str → Option Value} {base : Heap} {f : Addr} {fd : FuncData} (F : Fun K "first_fault" "first_fault" sd_first_fault f fd) (T : Txt K mg) (h_check_sequence : Has P w K mg base 3 "check_sequence" ["value"] (spP K 1 d_check_sequence)) (h_fault_by : Has P w K mg base 5 "fault_by" ["sequence"] (spP K 1 d_fault_by)) : FnOk P w K mg base CX0 6 f fd ["sequence"] (spP K 1 d_first_fault) :=
  fn_P (N := ["sequence", "index"]) (g := g_first_fault) F sc_first_fault ⟨fun cdv A outer s H E hr => wk_first_fault T h_check_sequence h_fault_by hr⟩

/-! ### is_m_sequence -/
abbrev sd_is_m_sequence : Stmt := topS 18
theorem sc_is_m_sequence : FnScope ["sequence"] ["sequence"] (defScope sd_is_m_sequence) := ⟨rfl, rfl, rfl, by decide +kernel, rfl, by decide +kernel, by decide +kernel⟩
theorem wk_is_m_sequence {P : Program} {w : World} {K : PySem.W.Frag} {mg : Str → Option Value} {base : Heap} {f : Addr} {cdv : Value} {A : Around} {outer : List Env} {s : Shared} {H : Hp} {E : XK} (T : Txt K mg) (h_check_sequence : Has P w K mg base 3 "check_sequence" ["value"] (spP K 1 d_check_sequence)) (h_fault_by : Has P w K mg base 5 "fault_by" ["sequence"] (spP K 1 d_fault_by)) (hr : Room 5 (A.deeper (envOfC "is_m_sequence" (defScope sd_is_m_sequence) s.heap.objs.size f cdv))) :
    SSs false (cxOf CX0 P w K mg base ["sequence"] "is_m_sequence" (defScope sd_is_m_sequence) f cdv A outer s H E).nox (defBody sd_is_m_sequence) g_is_m_sequence :=
  have nd := sc_is_m_sequence.nd
  (ss_cons (ss_drop (h_call h_check_sequence (hr.mono (by decide)) (sa_cons (s_var (i := 0)) sa_nil)))
      (ss_one (ss_ret (s_cmp (op_eqA hr.units) ok_eq (h_call h_fault_by (hr.mono (by decide)) (sa_cons (s_var (i := 0)) sa_nil)) (s_frz (s_lst sa_nil))))))
theorem ok_is_m_sequence {P : Program} {w : World} {K : PySem.W.Frag} {mg : Str → Option Value} {base : Heap} {f : Addr} {fd : FuncData} (F : Fun K "is_m_sequence" "is_m_sequence" sd_is_m_sequence f fd) (T : Txt K mg) (h_check_sequence : Has P w K mg base 3 "check_sequence" ["value"] (spP K 1 d_check_sequence)) (h_fault_by : Has P w K mg base 5 "fault_by" ["sequence"] (spP K 1 d_fault_by)) : FnOk P w K mg base CX0 6 f fd ["sequence"] (spP K 1 d_is_m_sequence) :=
  fn_P (N := ["sequence"]) (g := g_is_m_sequence) F sc_is_m_sequence ⟨fun cdv A outer s H E hr => wk_is_m_sequence T h_check_sequence h_fault_by hr⟩

/-! ### _law_right -/
abbrev sd__law_right : Stmt := topS 30
theorem sc__law_right : FnScope ["pot", "some", "row", "due"] ["pot"] (defScope sd__law_right) := ⟨rfl, rfl, rfl, by decide +kernel, rfl, by decide +kernel, by decide +kernel⟩
theorem wk__law_right {P : Program} {w : World} {K : PySem.W.Frag} {mg : Str → Option Value} {base : Heap} {f : Addr} {cdv : Value} {A : Around} {outer : List Env} {s : Shared} {H : Hp} {E : XK} (T : Txt K mg) (h__law_sequence : Has P w K mg base 6 "_law_sequence" ["pot"] (spM K 0 d__law_sequence)) (h__law_wide : Has P w K mg base 2 "_law_wide" ["pot"] (spM K 0 d__law_wide)) (h__law_thin : Has P w K mg base 3 "_law_thin" ["pot"] (spM K 0 d__law_thin)) (h__law_searched : Has P w K mg base 6 "_law_searched" ["some"] (spP K 1 d__law_searched)) (h_first_fault : Has P w K mg base 6 "first_fault" ["sequence"] (spP K 1 d_first_fault)) (h_is_m_sequence : Has P w K mg base 6 "is_m_sequence" ["sequence"] (spP K 1 d_is_m_sequence)) (h_first_fault_sequence : HasK P w K mg base 6 "first_fault" ["sequence"] ["sequence"] [0] (spP K 1 d_first_fault)) (h_is_m_sequence_sequence : HasK P w K mg base 6 "is_m_sequence" ["sequence"] ["sequence"] [0] (spP K 1 d_is_m_sequence)) (hr : Room 6 (A.deeper (envOfC "_law_right" (defScope sd__law_right) s.heap.objs.size f cdv))) (gd : A.guards = some []) :
    SSs false (cxOf CX0 P w K mg base ["pot", "some", "row", "due"] "_law_right" (defScope sd__law_right) f cdv A outer s H E).nox (defBody sd__law_right) g__law_right :=
  have nd := sc__law_right.nd
  (ss_cons (ss_asg (h_callM (i := 0) h__law_sequence (hr.mono (by decide)) sa_nil) (h_of (g_name (i := 1) nd)))
      (ss_cons (ss_for PassesOwn.never rfl (si_seq (s_tup (sa_cons (s_tup (sa_cons (s_var (i := 1)) (sa_cons (h_call h__law_searched (hr.mono (by decide)) (sa_cons (s_var (i := 1)) sa_nil)) sa_nil))) (sa_cons (h_callM (i := 0) h__law_thin (hr.mono (by decide)) sa_nil) (sa_cons (h_callM (i := 0) h__law_wide (hr.mono (by decide)) sa_nil) sa_nil))))) (h_of (g_tup rfl (gs_cons (g_name (i := 2) nd) (gs_cons (g_name (i := 3) nd) gs_nil)))) (ss_cons (ss_if (st_cmp (op_neA hr.units) ok_ne (s_b (call_repr gd hr.units) ok_repr T.b_repr bt_repr (sa_cons (s_frz (s_lst (sa_cons (h_call h_first_fault (hr.mono (by decide)) (sa_cons (s_var (i := 2)) sa_nil)) (sa_cons (h_callK h_first_fault_sequence (hr.mono (by decide)) (sk_cons (s_var (i := 2)) sk_nil)) sa_nil)))) sa_nil)) (s_b (call_repr gd hr.units) ok_repr T.b_repr bt_repr (sa_cons (s_frz (s_lst (sa_cons (s_var (i := 3)) (sa_cons (s_var (i := 3)) sa_nil)))) sa_nil))) (ss_one (ss_ret s_bool)) ss_nil)
      (ss_one (ss_if (st_cmp (op_neA hr.units) ok_ne (s_b (call_repr gd hr.units) ok_repr T.b_repr bt_repr (sa_cons (s_frz (s_lst (sa_cons (h_call h_is_m_sequence (hr.mono (by decide)) (sa_cons (s_var (i := 2)) sa_nil)) (sa_cons (h_callK h_is_m_sequence_sequence (hr.mono (by decide)) (sk_cons (s_var (i := 2)) sk_nil)) sa_nil)))) sa_nil)) (s_b (call_repr gd hr.units) ok_repr T.b_repr bt_repr (sa_cons (s_frz (s_opL op_rep ok_repL (s_frz (s_lst (sa_cons (s_cmp op_isN ok_isN (s_var (i := 3)) s_none) sa_nil))) s_int)) sa_nil))) (ss_one (ss_ret s_bool)) ss_nil))))
      (ss_one (ss_ret s_bool))))
theorem ok__law_right {P : Program} {w : World} {K : PySem.W.Frag} {mg : Str → Option Value} {base : Heap} {f : Addr} {fd : FuncData} (F : Fun K "_law_right" "_law_right" sd__law_right f fd) (T : Txt K mg) (h__law_sequence : Has P w K mg base 6 "_law_sequence" ["pot"] (spM K 0 d__law_sequence)) (h__law_wide : Has P w K mg base 2 "_law_wide" ["pot"] (spM K 0 d__law_wide)) (h__law_thin : Has P w K mg base 3 "_law_thin" ["pot"] (spM K 0 d__law_thin)) (h__law_searched : Has P w K mg base 6 "_law_searched" ["some"] (spP K 1 d__law_searched)) (h_first_fault : Has P w K mg base 6 "first_fault" ["sequence"] (spP K 1 d_first_fault)) (h_is_m_sequence : Has P w K mg base 6 "is_m_sequence" ["sequence"] (spP K 1 d_is_m_sequence)) (h_first_fault_sequence : HasK P w K mg base 6 "first_fault" ["sequence"] ["sequence"] [0] (spP K 1 d_first_fault)) (h_is_m_sequence_sequence : HasK P w K mg base 6 "is_m_sequence" ["sequence"] ["sequence"] [0] (spP K 1 d_is_m_sequence)) : FnG P w K mg base 7 f fd ["pot"] (spM K 0 d__law_right) :=
  fg_M (N := ["pot", "some", "row", "due"]) (g := g__law_right) F sc__law_right ⟨fun cdv A outer s H E hr gd => wk__law_right T h__law_sequence h__law_wide h__law_thin h__law_searched h_first_fault h_is_m_sequence h_first_fault_sequence h_is_m_sequence_sequence hr gd⟩

/-! ### _law_pot -/
abbrev sd__law_pot : Stmt := topS 20
theorem sc__law_pot : FnScope ["script", "lap", "mixed", "cell", "own"] ["script", "lap"] (defScope sd__law_pot) := ⟨rfl, rfl, rfl, by decide +kernel, rfl, by decide +kernel, by decide +kernel⟩
theorem wk__law_pot {P : Program} {w : World} {K : PySem.W.Frag} {mg : Str → Option Value} {base : Heap} {f : Addr} {cdv : Value} {A : Around} {outer : List Env} {s : Shared} {H : Hp} {E : XK} (T : Txt K mg) (hr : Room 0 (A.deeper (envOfC "_law_pot" (defScope sd__law_pot) s.heap.objs.size f cdv))) :
    SSs true (cxOf CX0 P w K mg base ["script", "lap", "mixed", "cell", "own"] "_law_pot" (defScope sd__law_pot) f cdv A outer s H E).nox (defBody sd__law_pot) g__law_pot :=
  have nd := sc__law_pot.nd
  (ss_cons (ss_asg (s_op op_addA ok_addA s_int (s_op op_mulA ok_mul s_int (s_var (i := 1)))) (h_of (g_name (i := 2) nd)))
      (ss_cons (ss_for PassesOwn.never rfl (si_seq (s_slice (s_var (i := 0)) so_none (so_some s_int))) (h_of (g_name (i := 3) nd)) (ss_one (ss_asg (s_op op_mod ok_mod (s_t call_int1 ok_intOf T.b_int bt_int (sa_cons (s_op op_addA ok_addA (s_op op_addA ok_addA (s_op op_mulA ok_mul (s_var (i := 2)) s_int) (s_op op_mulA ok_mul (s_op op_mod ok_mod (s_t call_int1 ok_intOf T.b_int bt_int (sa_cons (s_var (i := 3)) sa_nil)) s_int) s_int)) s_int) sa_nil)) s_int) (h_of (g_name (i := 2) nd)))))
      (ss_cons (ss_asg (s_ite (st_cmp op_lt ok_lt (s_var (i := 1)) (s_b call_lenA ok_len T.b_len bt_len (sa_cons (s_var (i := 0)) sa_nil))) (s_t call_int1 ok_intOf T.b_int bt_int (sa_cons (s_ix ix_seq ok_ix (s_var (i := 0)) (s_var (i := 1))) sa_nil)) s_int) (h_of (g_name (i := 4) nd)))
      (ss_cons (ss_asg (s_op op_mod ok_mod (s_t call_int1 ok_intOf T.b_int bt_int (sa_cons (s_op op_addA ok_addA (s_op op_addA ok_addA (s_op op_mulA ok_mul (s_var (i := 2)) s_int) (s_op op_mulA ok_mul (s_op op_mod ok_mod (s_t call_int1 ok_intOf T.b_int bt_int (sa_cons (s_var (i := 4)) sa_nil)) s_int) s_int)) s_int) sa_nil)) s_int) (h_of (g_name (i := 2) nd)))
      (ss_one (ss_retL (s_lst (sa_cons (s_ite (st_w (sw_or (st_cmp op_lt ok_lt (s_var (i := 4)) s_int) (sw_one (st_cmp op_ge ok_ge (s_var (i := 4)) (s_op op_pow ok_pow s_int s_int))))) (s_b call_abs ok_abs T.b_abs bt_abs (sa_cons (s_var (i := 4)) sa_nil)) s_int) (sa_cons (s_var (i := 2)) (sa_cons s_int sa_nil))))))))))
theorem ok__law_pot {P : Program} {w : World} {K : PySem.W.Frag} {mg : Str → Option Value} {base : Heap} {f : Addr} {fd : FuncData} (F : Fun K "_law_pot" "_law_pot" sd__law_pot f fd) (T : Txt K mg) : FnOk P w K mg base CX0 1 f fd ["script", "lap"] (spL K 2 d__law_pot) :=
  fn_L (N := ["script", "lap", "mixed", "cell", "own"]) (g := g__law_pot) F sc__law_pot ⟨fun cdv A outer s H E hr => wk__law_pot T hr⟩

/-! ### law -/
abbrev sd_law : Stmt := topS 31
theorem sc_law : FnScope ["script", "lap"] ["script"] (defScope sd_law) := ⟨rfl, rfl, rfl, by decide +kernel, rfl, by decide +kernel, by decide +kernel⟩
theorem wk_law {P : Program} {w : World} {K : PySem.W.Frag} {mg : Str → Option Value} {base : Heap} {f : Addr} {cdv : Value} {A : Around} {outer : List Env} {s : Shared} {H : Hp} {E : XK} (T : Txt K mg) (h__law_right : HasG P w K mg base 7 "_law_right" ["pot"] (spM K 0 d__law_right)) (h__law_pot : Has P w K mg base 1 "_law_pot" ["script", "lap"] (spL K 2 d__law_pot)) (hr : Room 7 (A.deeper (envOfC "law" (defScope sd_law) s.heap.objs.size f cdv))) (gd : A.guards = some []) :
    SSs false (cxOf CX0 P w K mg base ["script", "lap"] "law" (defScope sd_law) f cdv A outer s H E).nox (defBody sd_law) g_law :=
  have nd := sc_law.nd
  (ss_cons (ss_for PassesOwn.never rfl (si_range1 T.b_range (sa_cons (s_b (call_max2 rfl) ok_max2 T.b_max bt_max (sa_cons s_int (sa_cons (s_b (call_min2 rfl) ok_min2 T.b_min bt_min (sa_cons (s_b call_lenA ok_len T.b_len bt_len (sa_cons (s_var (i := 0)) sa_nil)) (sa_cons s_int sa_nil))) sa_nil))) sa_nil)) (h_of (g_name (i := 1) nd)) (ss_one (ss_if (st_not (st_val (h_callGD h__law_right (hr.mono (by decide)) gd (h_callL h__law_pot (hr.mono (by decide)) (sa_cons (s_var (i := 0)) (sa_cons (s_var (i := 1)) sa_nil))) sa_nil))) (ss_one (ss_ret s_bool)) ss_nil)))
      (ss_one (ss_ret s_bool)))
theorem ok_law {P : Program} {w : World} {K : PySem.W.Frag} {mg : Str → Option Value} {base : Heap} {f : Addr} {fd : FuncData} (F : Fun K "law" "law" sd_law f fd) (T : Txt K mg) (h__law_right : HasG P w K mg base 7 "_law_right" ["pot"] (spM K 0 d__law_right)) (h__law_pot : Has P w K mg base 1 "_law_pot" ["script", "lap"] (spL K 2 d__law_pot)) : FnG P w K mg base 8 f fd ["script"] (spP K 1 d_law) :=
  fg_P (N := ["script", "lap"]) (g := g_law) F sc_law ⟨fun cdv A outer s H E hr gd => wk_law T h__law_right h__law_pot hr gd⟩
end Lw

set_option Elab.async false
set_option linter.all false
set_option maxRecDepth 100000
namespace Lw
open PySem PySem.Spec PyProof.Rows L2 Sm
set_option maxHeartbeats 4000000
theorem all_mk {l : PySem.W.OpenLaw} {w : World} {K : PySem.W.Frag} {h : Heap} {mg : Str → Option Value} {fa : Addr} (X : K.In h) (G : h.Ns mainGlobals mg) (hfa : mg "law" = some (.ref fa))
    {f0 : Addr} {od0 an0 : Option Addr} {sl0 : Array (Option Value)} {oc0 kV0 dc0 pm0 cd0 ct0 : Value} {f1 : Addr} {od1 an1 : Option Addr} {sl1 : Array (Option Value)} {oc1 kV1 dc1 pm1 cd1 ct1 : Value} {f2 : Addr} {od2 an2 : Option Addr} {sl2 : Array (Option Value)} {oc2 kV2 dc2 pm2 cd2 ct2 : Value} {f3 : Addr} {od3 an3 : Option Addr} {sl3 : Array (Option Value)} {oc3 kV3 dc3 pm3 cd3 ct3 : Value} {f4 : Addr} {od4 an4 : Option Addr} {sl4 : Array (Option Value)} {oc4 kV4 dc4 pm4 cd4 ct4 : Value} {f5 : Addr} {od5 an5 : Option Addr} {sl5 : Array (Option Value)} {oc5 kV5 dc5 pm5 cd5 ct5 : Value} {f6 : Addr} {od6 an6 : Option Addr} {sl6 : Array (Option Value)} {oc6 kV6 dc6 pm6 cd6 ct6 : Value} {f7 : Addr} {od7 an7 : Option Addr} {sl7 : Array (Option Value)} {oc7 kV7 dc7 pm7 cd7 ct7 : Value} {f8 : Addr} {od8 an8 : Option Addr} {sl8 : Array (Option Value)} {oc8 kV8 dc8 pm8 cd8 ct8 : Value} {f9 : Addr} {od9 an9 : Option Addr} {sl9 : Array (Option Value)} {oc9 kV9 dc9 pm9 cd9 ct9 : Value} {f10 : Addr} {od10 an10 : Option Addr} {sl10 : Array (Option Value)} {oc10 kV10 dc10 pm10 cd10 ct10 : Value} {f11 : Addr} {od11 an11 : Option Addr} {sl11 : Array (Option Value)} {oc11 kV11 dc11 pm11 cd11 ct11 : Value} {f12 : Addr} {od12 an12 : Option Addr} {sl12 : Array (Option Value)} {oc12 kV12 dc12 pm12 cd12 ct12 : Value} {f13 : Addr} {od13 an13 : Option Addr} {sl13 : Array (Option Value)} {oc13 kV13 dc13 pm13 cd13 ct13 : Value} {f14 : Addr} {od14 an14 : Option Addr} {sl14 : Array (Option Value)} {oc14 kV14 dc14 pm14 cd14 ct14 : Value} {f15 : Addr} {od15 an15 : Option Addr} {sl15 : Array (Option Value)} {oc15 kV15 dc15 pm15 cd15 ct15 : Value} {f16 : Addr} {od16 an16 : Option Addr} {sl16 : Array (Option Value)} {oc16 kV16 dc16 pm16 cd16 ct16 : Value} {f17 : Addr} {od17 an17 : Option Addr} {sl17 : Array (Option Value)} {oc17 kV17 dc17 pm17 cd17 ct17 : Value} {f18 : Addr} {od18 an18 : Option Addr} {sl18 : Array (Option Value)} {oc18 kV18 dc18 pm18 cd18 ct18 : Value} {f19 : Addr} {od19 an19 : Option Addr} {sl19 : Array (Option Value)} {oc19 kV19 dc19 pm19 cd19 ct19 : Value} {f20 : Addr} {od20 an20 : Option Addr} {sl20 : Array (Option Value)} {oc20 kV20 dc20 pm20 cd20 ct20 : Value} {f21 : Addr} {od21 an21 : Option Addr} {sl21 : Array (Option Value)} {oc21 kV21 dc21 pm21 cd21 ct21 : Value} {t0 : Tok} {t1 : Tok}
    (a0 : PySem.W.nsIn K mainGlobals "_law_take" = some (some (.ref f0))) (l0 : K.lookup f0 = some ⟨oc0, od0, .func (PySem.W.fnOf "_law_take" "_law_take" (defArgs sd__law_take) (defBody sd__law_take) (defScope sd__law_take) .none kV0 dc0 pm0 an0 cd0 ct0), sl0⟩) (c0 : PySem.W.codeIn K cd0 "_law_take" = true) (k0 : PySem.W.keepIn K (.ref f0) = true)
    (a1 : PySem.W.nsIn K mainGlobals "_law_of" = some (some (.ref f1))) (l1 : K.lookup f1 = some ⟨oc1, od1, .func (PySem.W.fnOf "_law_of" "_law_of" (defArgs sd__law_of) (defBody sd__law_of) (defScope sd__law_of) .none kV1 dc1 pm1 an1 cd1 ct1), sl1⟩) (c1 : PySem.W.codeIn K cd1 "_law_of" = true) (k1 : PySem.W.keepIn K (.ref f1) = true)
    (a2 : PySem.W.nsIn K mainGlobals "_law_products" = some (some (.ref f2))) (l2 : K.lookup f2 = some ⟨oc2, od2, .func (PySem.W.fnOf "_law_products" "_law_products" (defArgs sd__law_products) (defBody sd__law_products) (defScope sd__law_products) .none kV2 dc2 pm2 an2 cd2 ct2), sl2⟩) (c2 : PySem.W.codeIn K cd2 "_law_products" = true) (k2 : PySem.W.keepIn K (.ref f2) = true)
    (a3 : PySem.W.nsIn K mainGlobals "_law_lots" = some (some (.ref f3))) (l3 : K.lookup f3 = some ⟨oc3, od3, .func (PySem.W.fnOf "_law_lots" "_law_lots" (defArgs sd__law_lots) (defBody sd__law_lots) (defScope sd__law_lots) .none kV3 dc3 pm3 an3 cd3 ct3), sl3⟩) (c3 : PySem.W.codeIn K cd3 "_law_lots" = true) (k3 : PySem.W.keepIn K (.ref f3) = true)
    (a4 : PySem.W.nsIn K mainGlobals "_law_room" = some (some (.ref f4))) (l4 : K.lookup f4 = some ⟨oc4, od4, .func (PySem.W.fnOf "_law_room" "_law_room" (defArgs sd__law_room) (defBody sd__law_room) (defScope sd__law_room) .none kV4 dc4 pm4 an4 cd4 ct4), sl4⟩) (c4 : PySem.W.codeIn K cd4 "_law_room" = true) (k4 : PySem.W.keepIn K (.ref f4) = true)
    (a5 : PySem.W.nsIn K mainGlobals "_law_sequence" = some (some (.ref f5))) (l5 : K.lookup f5 = some ⟨oc5, od5, .func (PySem.W.fnOf "_law_sequence" "_law_sequence" (defArgs sd__law_sequence) (defBody sd__law_sequence) (defScope sd__law_sequence) .none kV5 dc5 pm5 an5 cd5 ct5), sl5⟩) (c5 : PySem.W.codeIn K cd5 "_law_sequence" = true) (k5 : PySem.W.keepIn K (.ref f5) = true)
    (a6 : PySem.W.nsIn K mainGlobals "_law_wide" = some (some (.ref f6))) (l6 : K.lookup f6 = some ⟨oc6, od6, .func (PySem.W.fnOf "_law_wide" "_law_wide" (defArgs sd__law_wide) (defBody sd__law_wide) (defScope sd__law_wide) .none kV6 dc6 pm6 an6 cd6 ct6), sl6⟩) (c6 : PySem.W.codeIn K cd6 "_law_wide" = true) (k6 : PySem.W.keepIn K (.ref f6) = true)
    (a7 : PySem.W.nsIn K mainGlobals "_law_thin" = some (some (.ref f7))) (l7 : K.lookup f7 = some ⟨oc7, od7, .func (PySem.W.fnOf "_law_thin" "_law_thin" (defArgs sd__law_thin) (defBody sd__law_thin) (defScope sd__law_thin) .none kV7 dc7 pm7 an7 cd7 ct7), sl7⟩) (c7 : PySem.W.codeIn K cd7 "_law_thin" = true) (k7 : PySem.W.keepIn K (.ref f7) = true)
    (a8 : PySem.W.nsIn K mainGlobals "_law_searched" = some (some (.ref f8))) (l8 : K.lookup f8 = some ⟨oc8, od8, .func (PySem.W.fnOf "_law_searched" "_law_searched" (defArgs sd__law_searched) (defBody sd__law_searched) (defScope sd__law_searched) .none kV8 dc8 pm8 an8 cd8 ct8), sl8⟩) (c8 : PySem.W.codeIn K cd8 "_law_searched" = true) (k8 : PySem.W.keepIn K (.ref f8) = true)
    (a9 : PySem.W.nsIn K mainGlobals "is_whole" = some (some (.ref f9))) (l9 : K.lookup f9 = some ⟨oc9, od9, .func (PySem.W.fnOf "is_whole" "is_whole" (defArgs sd_is_whole) (defBody sd_is_whole) (defScope sd_is_whole) .none kV9 dc9 pm9 an9 cd9 ct9), sl9⟩) (c9 : PySem.W.codeIn K cd9 "is_whole" = true) (k9 : PySem.W.keepIn K (.ref f9) = true)
    (a10 : PySem.W.nsIn K mainGlobals "is_between" = some (some (.ref f10))) (l10 : K.lookup f10 = some ⟨oc10, od10, .func (PySem.W.fnOf "is_between" "is_between" (defArgs sd_is_between) (defBody sd_is_between) (defScope sd_is_between) .none kV10 dc10 pm10 an10 cd10 ct10), sl10⟩) (c10 : PySem.W.codeIn K cd10 "is_between" = true) (k10 : PySem.W.keepIn K (.ref f10) = true)
    (a11 : PySem.W.nsIn K mainGlobals "check_sequence" = some (some (.ref f11))) (l11 : K.lookup f11 = some ⟨oc11, od11, .func (PySem.W.fnOf "check_sequence" "check_sequence" (defArgs sd_check_sequence) (defBody sd_check_sequence) (defScope sd_check_sequence) .none kV11 dc11 pm11 an11 cd11 ct11), sl11⟩) (c11 : PySem.W.codeIn K cd11 "check_sequence" = true) (k11 : PySem.W.keepIn K (.ref f11) = true)
    (a12 : PySem.W.nsIn K mainGlobals "greatest_top" = some (some (.ref f12))) (l12 : K.lookup f12 = some ⟨oc12, od12, .func (PySem.W.fnOf "greatest_top" "greatest_top" (defArgs sd_greatest_top) (defBody sd_greatest_top) (defScope sd_greatest_top) .none kV12 dc12 pm12 an12 cd12 ct12), sl12⟩) (c12 : PySem.W.codeIn K cd12 "greatest_top" = true) (k12 : PySem.W.keepIn K (.ref f12) = true)
    (a13 : PySem.W.nsIn K mainGlobals "expansion_by" = some (some (.ref f13))) (l13 : K.lookup f13 = some ⟨oc13, od13, .func (PySem.W.fnOf "expansion_by" "expansion_by" (defArgs sd_expansion_by) (defBody sd_expansion_by) (defScope sd_expansion_by) .none kV13 dc13 pm13 an13 cd13 ct13), sl13⟩) (c13 : PySem.W.codeIn K cd13 "expansion_by" = true) (k13 : PySem.W.keepIn K (.ref f13) = true)
    (a14 : PySem.W.nsIn K mainGlobals "most_next_by" = some (some (.ref f14))) (l14 : K.lookup f14 = some ⟨oc14, od14, .func (PySem.W.fnOf "most_next_by" "most_next_by" (defArgs sd_most_next_by) (defBody sd_most_next_by) (defScope sd_most_next_by) .none kV14 dc14 pm14 an14 cd14 ct14), sl14⟩) (c14 : PySem.W.codeIn K cd14 "most_next_by" = true) (k14 : PySem.W.keepIn K (.ref f14) = true)
    (a15 : PySem.W.nsIn K mainGlobals "fails_at" = some (some (.ref f15))) (l15 : K.lookup f15 = some ⟨oc15, od15, .func (PySem.W.fnOf "fails_at" "fails_at" (defArgs sd_fails_at) (defBody sd_fails_at) (defScope sd_fails_at) .none kV15 dc15 pm15 an15 cd15 ct15), sl15⟩) (c15 : PySem.W.codeIn K cd15 "fails_at" = true) (k15 : PySem.W.keepIn K (.ref f15) = true)
    (a16 : PySem.W.nsIn K mainGlobals "fault_by" = some (some (.ref f16))) (l16 : K.lookup f16 = some ⟨oc16, od16, .func (PySem.W.fnOf "fault_by" "fault_by" (defArgs sd_fault_by) (defBody sd_fault_by) (defScope sd_fault_by) .none kV16 dc16 pm16 an16 cd16 ct16), sl16⟩) (c16 : PySem.W.codeIn K cd16 "fault_by" = true) (k16 : PySem.W.keepIn K (.ref f16) = true)
    (a17 : PySem.W.nsIn K mainGlobals "first_fault" = some (some (.ref f17))) (l17 : K.lookup f17 = some ⟨oc17, od17, .func (PySem.W.fnOf "first_fault" "first_fault" (defArgs sd_first_fault) (defBody sd_first_fault) (defScope sd_first_fault) .none kV17 dc17 pm17 an17 cd17 ct17), sl17⟩) (c17 : PySem.W.codeIn K cd17 "first_fault" = true) (k17 : PySem.W.keepIn K (.ref f17) = true)
    (a18 : PySem.W.nsIn K mainGlobals "is_m_sequence" = some (some (.ref f18))) (l18 : K.lookup f18 = some ⟨oc18, od18, .func (PySem.W.fnOf "is_m_sequence" "is_m_sequence" (defArgs sd_is_m_sequence) (defBody sd_is_m_sequence) (defScope sd_is_m_sequence) .none kV18 dc18 pm18 an18 cd18 ct18), sl18⟩) (c18 : PySem.W.codeIn K cd18 "is_m_sequence" = true) (k18 : PySem.W.keepIn K (.ref f18) = true)
    (a19 : PySem.W.nsIn K mainGlobals "_law_right" = some (some (.ref f19))) (l19 : K.lookup f19 = some ⟨oc19, od19, .func (PySem.W.fnOf "_law_right" "_law_right" (defArgs sd__law_right) (defBody sd__law_right) (defScope sd__law_right) .none kV19 dc19 pm19 an19 cd19 ct19), sl19⟩) (c19 : PySem.W.codeIn K cd19 "_law_right" = true) (k19 : PySem.W.keepIn K (.ref f19) = true)
    (a20 : PySem.W.nsIn K mainGlobals "_law_pot" = some (some (.ref f20))) (l20 : K.lookup f20 = some ⟨oc20, od20, .func (PySem.W.fnOf "_law_pot" "_law_pot" (defArgs sd__law_pot) (defBody sd__law_pot) (defScope sd__law_pot) .none kV20 dc20 pm20 an20 cd20 ct20), sl20⟩) (c20 : PySem.W.codeIn K cd20 "_law_pot" = true) (k20 : PySem.W.keepIn K (.ref f20) = true)
    (a21 : PySem.W.nsIn K mainGlobals "law" = some (some (.ref f21))) (l21 : K.lookup f21 = some ⟨oc21, od21, .func (PySem.W.fnOf "law" "law" (defArgs sd_law) (defBody sd_law) (defScope sd_law) .none kV21 dc21 pm21 an21 cd21 ct21), sl21⟩) (c21 : PySem.W.codeIn K cd21 "law" = true) (k21 : PySem.W.keepIn K (.ref f21) = true)
    (zb_divmod : PySem.W.nsIn K mainGlobals "divmod" = some none)
    (zb_int : PySem.W.nsIn K mainGlobals "int" = some none)
    (zb_len : PySem.W.nsIn K mainGlobals "len" = some none)
    (zb_range : PySem.W.nsIn K mainGlobals "range" = some none)
    (zb_sorted : PySem.W.nsIn K mainGlobals "sorted" = some none)
    (zb_max : PySem.W.nsIn K mainGlobals "max" = some none)
    (zb_tuple : PySem.W.nsIn K mainGlobals "tuple" = some none)
    (zb_isinstance : PySem.W.nsIn K mainGlobals "isinstance" = some none)
    (zb_bool : PySem.W.nsIn K mainGlobals "bool" = some none)
    (zb_enumerate : PySem.W.nsIn K mainGlobals "enumerate" = some none)
    (zb_sum : PySem.W.nsIn K mainGlobals "sum" = some none)
    (zb_repr : PySem.W.nsIn K mainGlobals "repr" = some none)
    (zb_abs : PySem.W.nsIn K mainGlobals "abs" = some none)
    (zb_min : PySem.W.nsIn K mainGlobals "min" = some none)
    (zc_MOST_DEGREE : PySem.W.nsIn K mainGlobals "MOST_DEGREE" = some (some (.int 8 t0)))
    (zc_MOST_NUMBER : PySem.W.nsIn K mainGlobals "MOST_NUMBER" = some (some (.int 1000000 t1)))
    (zf_comb : PySem.W.nsIn K mainGlobals "comb" = some (some (.builtin "math.comb")))
    {cc2 pp2 : Addr} {oe2 : Value} {oh2 : Option Addr} {ov2 : Array Value} {ol2 : Array (Option Value)}
    (e2 : cd2 = .ref cc2) (m2 : K.lookup cc2 = some ⟨oe2, oh2, .fields ov2, ol2⟩) (v2 : ov2[11]? = some (.ref pp2)) (n2 : K.lookup pp2 = none)
    : ∃ (fd : FuncData) (cs : List (Str × Addr × Addr)), (∀ p ∈ cs, p.1 ∈ (["_law_products"] : List Str) ∧ PySem.W.tabIn K p.1 = some p.2 ∧ K.lookup p.2.2 = none) ∧ (∀ (s : Shared) (v : Value), BindsTo s fd ⟨[v], []⟩ [("script", v)]) ∧ ∀ base : Heap, K.In base → base.Ns mainGlobals mg → (∀ p ∈ cs, LamX.TabB base mg p.2.1 p.2.2) → FnG l.prog w K mg base 8 fa fd ["script"] (@spP (tbOf cs) K 1 d_law) := by
  have T : Txt K mg := ⟨PySem.W.mg_none_of X G zb_divmod, PySem.W.mg_none_of X G zb_int, PySem.W.mg_none_of X G zb_len, PySem.W.mg_none_of X G zb_range, PySem.W.mg_none_of X G zb_sorted, PySem.W.mg_none_of X G zb_max, PySem.W.mg_none_of X G zb_tuple, PySem.W.mg_none_of X G zb_isinstance, PySem.W.mg_none_of X G zb_bool, PySem.W.mg_none_of X G zb_enumerate, PySem.W.mg_none_of X G zb_sum, PySem.W.mg_none_of X G zb_repr, PySem.W.mg_none_of X G zb_abs, PySem.W.mg_none_of X G zb_min, ⟨_, PySem.W.mg_of X G zc_MOST_DEGREE⟩, ⟨_, PySem.W.mg_of X G zc_MOST_NUMBER⟩, PySem.W.mg_of X G zf_comb⟩
  have e := hfa.symm.trans (PySem.W.mg_of X G a21)
  cases e
  have F0 := fun_mk (st := sd__law_take) l0 c0 k0
  have b0 := F0.binds (ps := ["pot", "few"]) fun _ _ _ _ _ _ us hl => match us, hl with | [_, _], _ => rfl
  have F1 := fun_mk (st := sd__law_of) l1 c1 k1
  have b1 := F1.binds (ps := ["pot", "some"]) fun _ _ _ _ _ _ us hl => match us, hl with | [_, _], _ => rfl
  have F2 := fun_mk (st := sd__law_products) l2 c2 k2
  have b2 := F2.binds (ps := ["variables", "degree"]) fun _ _ _ _ _ _ us hl => match us, hl with | [_, _], _ => rfl
  have F3 := fun_mk (st := sd__law_lots) l3 c3 k3
  have b3 := F3.binds (ps := ["some", "many"]) fun _ _ _ _ _ _ us hl => match us, hl with | [_, _], _ => rfl
  have F4 := fun_mk (st := sd__law_room) l4 c4 k4
  have b4 := F4.binds (ps := ["variables", "many"]) fun _ _ _ _ _ _ us hl => match us, hl with | [_, _], _ => rfl
  have F5 := fun_mk (st := sd__law_sequence) l5 c5 k5
  have b5 := F5.binds (ps := ["pot"]) fun _ _ _ _ _ _ us hl => match us, hl with | [_], _ => rfl
  have F6 := fun_mk (st := sd__law_wide) l6 c6 k6
  have b6 := F6.binds (ps := ["pot"]) fun _ _ _ _ _ _ us hl => match us, hl with | [_], _ => rfl
  have F7 := fun_mk (st := sd__law_thin) l7 c7 k7
  have b7 := F7.binds (ps := ["pot"]) fun _ _ _ _ _ _ us hl => match us, hl with | [_], _ => rfl
  have F8 := fun_mk (st := sd__law_searched) l8 c8 k8
  have b8 := F8.binds (ps := ["some"]) fun _ _ _ _ _ _ us hl => match us, hl with | [_], _ => rfl
  have F9 := fun_mk (st := sd_is_whole) l9 c9 k9
  have b9 := F9.binds (ps := ["value"]) fun _ _ _ _ _ _ us hl => match us, hl with | [_], _ => rfl
  have F10 := fun_mk (st := sd_is_between) l10 c10 k10
  have b10 := F10.binds (ps := ["value", "least", "most"]) fun _ _ _ _ _ _ us hl => match us, hl with | [_, _, _], _ => rfl
  have F11 := fun_mk (st := sd_check_sequence) l11 c11 k11
  have b11 := F11.binds (ps := ["value"]) fun _ _ _ _ _ _ us hl => match us, hl with | [_], _ => rfl
  have F12 := fun_mk (st := sd_greatest_top) l12 c12 k12
  have b12 := F12.binds (ps := ["number", "degree"]) fun _ _ _ _ _ _ us hl => match us, hl with | [_, _], _ => rfl
  have F13 := fun_mk (st := sd_expansion_by) l13 c13 k13
  have b13 := F13.binds (ps := ["number", "degree"]) fun _ _ _ _ _ _ us hl => match us, hl with | [_, _], _ => rfl
  have F14 := fun_mk (st := sd_most_next_by) l14 c14 k14
  have b14 := F14.binds (ps := ["number", "degree"]) fun _ _ _ _ _ _ us hl => match us, hl with | [_, _], _ => rfl
  have F15 := fun_mk (st := sd_fails_at) l15 c15 k15
  have b15 := F15.binds (ps := ["sequence", "at"]) fun _ _ _ _ _ _ us hl => match us, hl with | [_, _], _ => rfl
  have F16 := fun_mk (st := sd_fault_by) l16 c16 k16
  have b16 := F16.binds (ps := ["sequence"]) fun _ _ _ _ _ _ us hl => match us, hl with | [_], _ => rfl
  have F17 := fun_mk (st := sd_first_fault) l17 c17 k17
  have b17 := F17.binds (ps := ["sequence"]) fun _ _ _ _ _ _ us hl => match us, hl with | [_], _ => rfl
  have F18 := fun_mk (st := sd_is_m_sequence) l18 c18 k18
  have b18 := F18.binds (ps := ["sequence"]) fun _ _ _ _ _ _ us hl => match us, hl with | [_], _ => rfl
  have F19 := fun_mk (st := sd__law_right) l19 c19 k19
  have b19 := F19.binds (ps := ["pot"]) fun _ _ _ _ _ _ us hl => match us, hl with | [_], _ => rfl
  have F20 := fun_mk (st := sd__law_pot) l20 c20 k20
  have b20 := F20.binds (ps := ["script", "lap"]) fun _ _ _ _ _ _ us hl => match us, hl with | [_, _], _ => rfl
  have F21 := fun_mk (st := sd_law) l21 c21 k21
  have q2 : PySem.W.tabIn K "_law_products" = some (cc2, pp2) := tabIn_of a2 l2 e2 m2 v2
  letI : Tb := tbOf [("_law_products", cc2, pp2)]
  refine ⟨PySem.W.fnOf "law" "law" (defArgs sd_law) (defBody sd_law) (defScope sd_law) .none kV21 dc21 pm21 an21 cd21 ct21, [("_law_products", cc2, pp2)], fun p hp => ?_, fun s v => .of_eq rfl, fun base _ _ hTB => ?_⟩
  · simp only [List.mem_cons, List.not_mem_nil, or_false] at hp
    rcases hp with rfl
    · exact ⟨by simp, q2, n2⟩
  have hl2 : ∀ cdv, CodeAt K f2 cdv → LamAt base mg cdv (lamQ "_law_products") := fun cdv hc => ⟨cc2, pp2, codeAt_ref l2 e2 hc, hTB ("_law_products", cc2, pp2) (by simp), List.mem_map.mpr ⟨("_law_products", cc2, pp2), by simp, rfl⟩, fun p hp he => by
    obtain ⟨c, hc, rfl⟩ := List.mem_map.mp hp
    simp only [List.mem_cons, List.not_mem_nil, or_false] at hc
    rcases hc with rfl
    · rfl
    ⟩
  have w0 := ok__law_take (P := l.prog) (w := w) (base := base) F0 T
  have h__law_take := Has.of F0 w0 (PySem.W.mg_of X G a0) b0
  have w1 := ok__law_of (P := l.prog) (w := w) (base := base) F1 T h__law_take
  have h__law_of := Has.of F1 w1 (PySem.W.mg_of X G a1) b1
  have w2 := ok__law_products (P := l.prog) (w := w) (base := base) F2 T hl2
  have h__law_products := Has.of F2 w2 (PySem.W.mg_of X G a2) b2
  have w3 := ok__law_lots (P := l.prog) (w := w) (base := base) F3 T
  have h__law_lots := Has.of F3 w3 (PySem.W.mg_of X G a3) b3
  have w4 := ok__law_room (P := l.prog) (w := w) (base := base) F4 T h__law_products h__law_lots
  have h__law_room := Has.of F4 w4 (PySem.W.mg_of X G a4) b4
  have w5 := ok__law_sequence (P := l.prog) (w := w) (base := base) F5 T h__law_of h__law_products h__law_take h__law_room
  have h__law_sequence := Has.of F5 w5 (PySem.W.mg_of X G a5) b5
  have w6 := ok__law_wide (P := l.prog) (w := w) (base := base) F6 T h__law_take
  have h__law_wide := Has.of F6 w6 (PySem.W.mg_of X G a6) b6
  have w7 := ok__law_thin (P := l.prog) (w := w) (base := base) F7 T h__law_take h__law_of
  have h__law_thin := Has.of F7 w7 (PySem.W.mg_of X G a7) b7
  have w8 := ok__law_searched (P := l.prog) (w := w) (base := base) F8 T h__law_products h__law_room
  have h__law_searched := Has.of F8 w8 (PySem.W.mg_of X G a8) b8
  have w9 := ok_is_whole (P := l.prog) (w := w) (base := base) F9 T
  have h_is_whole := Has.of F9 w9 (PySem.W.mg_of X G a9) b9
  have w10 := ok_is_between (P := l.prog) (w := w) (base := base) F10 T h_is_whole
  have h_is_between := Has.of F10 w10 (PySem.W.mg_of X G a10) b10
  have w11 := ok_check_sequence (P := l.prog) (w := w) (base := base) F11 T h_is_between
  have h_check_sequence := Has.of F11 w11 (PySem.W.mg_of X G a11) b11
  have w12 := ok_greatest_top (P := l.prog) (w := w) (base := base) F12 T
  have h_greatest_top := Has.of F12 w12 (PySem.W.mg_of X G a12) b12
  have w13 := ok_expansion_by (P := l.prog) (w := w) (base := base) F13 T h_greatest_top
  have h_expansion_by := Has.of F13 w13 (PySem.W.mg_of X G a13) b13
  have w14 := ok_most_next_by (P := l.prog) (w := w) (base := base) F14 T h_expansion_by
  have h_most_next_by := Has.of F14 w14 (PySem.W.mg_of X G a14) b14
  have w15 := ok_fails_at (P := l.prog) (w := w) (base := base) F15 T h_most_next_by
  have h_fails_at := Has.of F15 w15 (PySem.W.mg_of X G a15) b15
  have w16 := ok_fault_by (P := l.prog) (w := w) (base := base) F16 T h_fails_at
  have h_fault_by := Has.of F16 w16 (PySem.W.mg_of X G a16) b16
  have w17 := ok_first_fault (P := l.prog) (w := w) (base := base) F17 T h_check_sequence h_fault_by
  have h_first_fault := Has.of F17 w17 (PySem.W.mg_of X G a17) b17
  have h_first_fault_sequence := HasK.of (ks := ["sequence"]) (is := [0]) F17 w17 (PySem.W.mg_of X G a17) fun _ _ _ _ _ _ us hl => match us, hl with | [_], _ => rfl
  have w18 := ok_is_m_sequence (P := l.prog) (w := w) (base := base) F18 T h_check_sequence h_fault_by
  have h_is_m_sequence := Has.of F18 w18 (PySem.W.mg_of X G a18) b18
  have h_is_m_sequence_sequence := HasK.of (ks := ["sequence"]) (is := [0]) F18 w18 (PySem.W.mg_of X G a18) fun _ _ _ _ _ _ us hl => match us, hl with | [_], _ => rfl
  have w19 := ok__law_right (P := l.prog) (w := w) (base := base) F19 T h__law_sequence h__law_wide h__law_thin h__law_searched h_first_fault h_is_m_sequence h_first_fault_sequence h_is_m_sequence_sequence
  have h__law_right := HasG.of F19 w19 (PySem.W.mg_of X G a19) b19
  have w20 := ok__law_pot (P := l.prog) (w := w) (base := base) F20 T
  have h__law_pot := Has.of F20 w20 (PySem.W.mg_of X G a20) b20
  have w21 := ok_law (P := l.prog) (w := w) (base := base) F21 T h__law_right h__law_pot
  exact w21
end Lw
open PySem PySem.W PyProof.Rows
set_option maxRecDepth 100000 in
set_option maxHeartbeats 0 in
theorem PySem.Challenge.cw_facenumbers_k11_whole_order_ideals_by_se_holds : PySem.Challenge.rw_facenumbers_k11_whole_order_ideals_by_se.Holds := by
  w_on; o_law; k_head; (case hw => w_witness2)
  k_fill
  refine Sm.walk_lawT (l := PySem.Challenge.rw_facenumbers_k11_whole_order_ideals_by_se) (n := 63) (k := 8) (x := "script") (den := fun _ => Lw.d_law) ["_law_products"] rfl (by decide) rfl ⟨rfl, by decide, by decide⟩ (fun w h Y => PySem.W.km_in_of Y) (fun y hy => by simp only [List.mem_cons, List.not_mem_nil, or_false] at hy; rcases hy with rfl <;> exact ⟨_, rfl⟩) ?F (fun _ ns h => Lw.law_true ns h)
  case F =>
    intro w mg fa h KX G hmg
    refine' Lw.all_mk KX G hmg ?a0 ?l0 ?c0 ?k0 ?a1 ?l1 ?c1 ?k1 ?a2 ?l2 ?c2 ?k2 ?a3 ?l3 ?c3 ?k3 ?a4 ?l4 ?c4 ?k4 ?a5 ?l5 ?c5 ?k5 ?a6 ?l6 ?c6 ?k6 ?a7 ?l7 ?c7 ?k7 ?a8 ?l8 ?c8 ?k8 ?a9 ?l9 ?c9 ?k9 ?a10 ?l10 ?c10 ?k10 ?a11 ?l11 ?c11 ?k11 ?a12 ?l12 ?c12 ?k12 ?a13 ?l13 ?c13 ?k13 ?a14 ?l14 ?c14 ?k14 ?a15 ?l15 ?c15 ?k15 ?a16 ?l16 ?c16 ?k16 ?a17 ?l17 ?c17 ?k17 ?a18 ?l18 ?c18 ?k18 ?a19 ?l19 ?c19 ?k19 ?a20 ?l20 ?c20 ?k20 ?a21 ?l21 ?c21 ?k21 ?zb_divmod ?zb_int ?zb_len ?zb_range ?zb_sorted ?zb_max ?zb_tuple ?zb_isinstance ?zb_bool ?zb_enumerate ?zb_sum ?zb_repr ?zb_abs ?zb_min ?zc_MOST_DEGREE ?zc_MOST_NUMBER ?zf_comb ?e2 ?m2 ?v2 ?n2
    (case a0 => k_is)
    (case l0 => k_is)
    (case c0 => k_is)
    (case k0 => k_is)
    (case a1 => k_is)
    (case l1 => k_is)
    (case c1 => k_is)
    (case k1 => k_is)
    (case a2 => k_is)
    (case l2 => k_is)
    (case c2 => k_is)
    (case k2 => k_is)
    (case a3 => k_is)
    (case l3 => k_is)
    (case c3 => k_is)
    (case k3 => k_is)
    (case a4 => k_is)
    (case l4 => k_is)
    (case c4 => k_is)
    (case k4 => k_is)
    (case a5 => k_is)
    (case l5 => k_is)
    (case c5 => k_is)
    (case k5 => k_is)
    (case a6 => k_is)
    (case l6 => k_is)
    (case c6 => k_is)
    (case k6 => k_is)
    (case a7 => k_is)
    (case l7 => k_is)
    (case c7 => k_is)
    (case k7 => k_is)
    (case a8 => k_is)
    (case l8 => k_is)
    (case c8 => k_is)
    (case k8 => k_is)
    (case a9 => k_is)
    (case l9 => k_is)
    (case c9 => k_is)
    (case k9 => k_is)
    (case a10 => k_is)
    (case l10 => k_is)
    (case c10 => k_is)
    (case k10 => k_is)
    (case a11 => k_is)
    (case l11 => k_is)
    (case c11 => k_is)
    (case k11 => k_is)
    (case a12 => k_is)
    (case l12 => k_is)
    (case c12 => k_is)
    (case k12 => k_is)
    (case a13 => k_is)
    (case l13 => k_is)
    (case c13 => k_is)
    (case k13 => k_is)
    (case a14 => k_is)
    (case l14 => k_is)
    (case c14 => k_is)
    (case k14 => k_is)
    (case a15 => k_is)
    (case l15 => k_is)
    (case c15 => k_is)
    (case k15 => k_is)
    (case a16 => k_is)
    (case l16 => k_is)
    (case c16 => k_is)
    (case k16 => k_is)
    (case a17 => k_is)
    (case l17 => k_is)
    (case c17 => k_is)
    (case k17 => k_is)
    (case a18 => k_is)
    (case l18 => k_is)
    (case c18 => k_is)
    (case k18 => k_is)
    (case a19 => k_is)
    (case l19 => k_is)
    (case c19 => k_is)
    (case k19 => k_is)
    (case a20 => k_is)
    (case l20 => k_is)
    (case c20 => k_is)
    (case k20 => k_is)
    (case a21 => k_is)
    (case l21 => k_is)
    (case c21 => k_is)
    (case k21 => k_is)
    (case zb_divmod => k_is)
    (case zb_int => k_is)
    (case zb_len => k_is)
    (case zb_range => k_is)
    (case zb_sorted => k_is)
    (case zb_max => k_is)
    (case zb_tuple => k_is)
    (case zb_isinstance => k_is)
    (case zb_bool => k_is)
    (case zb_enumerate => k_is)
    (case zb_sum => k_is)
    (case zb_repr => k_is)
    (case zb_abs => k_is)
    (case zb_min => k_is)
    (case zc_MOST_DEGREE => k_is)
    (case zc_MOST_NUMBER => k_is)
    (case zf_comb => k_is)
    (case e2 => exact rfl)
    (case m2 => k_is)
    (case v2 => exact rfl)
    (case n2 => kernel_rfl)

