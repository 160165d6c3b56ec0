import PyProof.Rows.All
import Wide.All
import OpenK.AllK
import Wide.FinOn
import HandS.ForMost
import HandS.Evl
import HandS.Star
import HandS.Style
import HandS.IsInst
import HandS.TupMul
import HandS.TupAny
import HandS.Zip
import HandS.SortInts
import HandS.Wide
import HandS.RaiseMore
import HandS.SetFor
import HandS.Conv
import HandS.Comp
import HandS.EndBits
import PySem.Challenge.RW_whicheverlit_k44_whole_grids_chased
import PyProof.Rows.RegFStrParts
set_option Elab.async false
set_option linter.all false
set_option maxRecDepth 100000
set_option maxHeartbeats 4000000

/-! Mi1: plain data over the hand layer's heap; environments; what a step keeps. -/
namespace Mi
open PySem PySem.Spec PyProof.Rows L2

/-- plain data: what cannot change any more (scr: the script, a locked list of ints) -/
inductive D where
  | non | bl (b : Bool) | int (i : Int) | str (x : Str) | tup (ds : List D) | lst (ds : List D) | scr (ns : List Int)
  deriving Inhabited

mutual
inductive Rp (K : PySem.W.Frag) (B : Hp) : V → D → Prop
  | non : Rp K B .non .non
  | bl (b : Bool) : Rp K B (.bl b) (.bl b)
  | int (i : Int) : Rp K B (.int i) (.int i)
  | str (x : Str) : Rp K B (.str x) (.str x)
  | tup {a : Addr} {xs : List V} {ds : List D} : B a = some (.tup xs) → RpA K B xs ds → Rp K B (.ref a) (.tup ds)
  | lst {a : Addr} {xs : List V} {ds : List D} : B a = some (.lst xs) → RpA K B xs ds → Rp K B (.ref a) (.lst ds)
  | scr {a : Addr} {ns : List Int} : SqL K B a (ns.map V.int) → Rp K B (.ref a) (.scr ns)
inductive RpA (K : PySem.W.Frag) (B : Hp) : List V → List D → Prop
  | nil : RpA K B [] []
  | cons {v : V} {vs : List V} {d : D} {ds : List D} : Rp K B v d → RpA K B vs ds → RpA K B (v :: vs) (d :: ds)
end

/-- all that is in B is in H -/
abbrev Sub (B H : Hp) : Prop := ∀ a o, B a = some o → H a = some o
theorem Sub.refl (B : Hp) : Sub B B := fun _ _ h => h
theorem Sub.trans {A B C : Hp} (x : Sub A B) (y : Sub B C) : Sub A C := fun a o h => y a o (x a o h)
theorem Sub.seqL {K : PySem.W.Frag} {B H : Hp} {a : Addr} {xs : List V} (e : Sub B H) (h : SqL K B a xs) : SqL K H a xs := Evl.ex_l e h
theorem Sub.seqT {K : PySem.W.Frag} {B H : Hp} {a : Addr} {xs : List V} (e : Sub B H) (h : SqT K B a xs) : SqT K H a xs := Evl.ex_t e h
theorem Sub.new {H : Hp} {p : Addr} {o : HO} (h : H p = none) : Sub H (upd H p o) := Evl.Ex.new h
theorem Sub.upd {B H : Hp} {p : Addr} {o : HO} (s : Sub B H) : Sub (upd B p o) (upd H p o) := fun a u h => by
  by_cases e : a = p
  · subst e; rw [upd_same] at h ⊢; exact h
  · rw [upd_ne e] at h ⊢; exact s a u h
theorem Sub.updR {B H : Hp} {p : Addr} {o : HO} (s : Sub B H) (n : B p = none) : Sub B (L2.upd H p o) := fun a u h => by
  by_cases e : a = p
  · subst e; rw [n] at h; cases h
  · rw [upd_ne e]; exact s a u h
theorem Sub.updL {B H : Hp} {p : Addr} {o : HO} (s : Sub B H) (n : H p = some o) : Sub (L2.upd B p o) H := fun a u h => by
  by_cases e : a = p
  · subst e; rw [upd_same] at h; rw [n, h]
  · rw [upd_ne e] at h; exact s a u h
theorem Sub.none {B H : Hp} (s : Sub B H) {p : Addr} (n : H p = none) : B p = none := Evl.fresh_back s n

mutual
theorem Rp.mono {K : PySem.W.Frag} {B B' : Hp} (e : Sub B B') : ∀ {v : V} {d : D}, Rp K B v d → Rp K B' v d
  | _, _, .non => .non
  | _, _, .bl b => .bl b
  | _, _, .int i => .int i
  | _, _, .str x => .str x
  | _, _, .tup h a => .tup (e _ _ h) (a.mono e)
  | _, _, .lst h a => .lst (e _ _ h) (a.mono e)
  | _, _, .scr h => .scr (e.seqL h)
theorem RpA.mono {K : PySem.W.Frag} {B B' : Hp} (e : Sub B B') : ∀ {vs : List V} {ds : List D}, RpA K B vs ds → RpA K B' vs ds
  | _, _, .nil => .nil
  | _, _, .cons h a => .cons (h.mono e) (a.mono e)
end

section
variable {K : PySem.W.Frag} {B B' H H' : Hp}
theorem RpA.length : ∀ {vs : List V} {ds : List D}, RpA K B vs ds → vs.length = ds.length
  | _, _, .nil => rfl
  | _, _, .cons _ a => by rw [List.length_cons, List.length_cons, a.length]
theorem RpA.get : ∀ {vs : List V} {ds : List D} {i : Nat} {d : D}, RpA K B vs ds → ds[i]? = some d → ∃ v, vs[i]? = some v ∧ Rp K B v d
  | _, _, _, _, .nil, h => by simp at h
  | _, _, 0, _, .cons r _, h => by simp at h; subst h; exact ⟨_, rfl, r⟩
  | _, _, i + 1, _, .cons _ a, h => by
    obtain ⟨v, h1, h2⟩ := a.get (i := i) (by simpa using h)
    exact ⟨v, by simpa using h1, h2⟩
theorem RpA.getV : ∀ {vs : List V} {ds : List D} {i : Nat} {v : V}, RpA K B vs ds → vs[i]? = some v → ∃ d, ds[i]? = some d ∧ Rp K B v d
  | _, _, _, _, .nil, h => by simp at h
  | _, _, 0, _, .cons r _, h => by simp at h; subst h; exact ⟨_, rfl, r⟩
  | _, _, i + 1, _, .cons _ a, h => by
    obtain ⟨v, h1, h2⟩ := a.getV (i := i) (by simpa using h)
    exact ⟨v, by simpa using h1, h2⟩
theorem RpA.app : ∀ {vs ws : List V} {ds es : List D}, RpA K B vs ds → RpA K B ws es → RpA K B (vs ++ ws) (ds ++ es)
  | _, _, _, _, .nil, b => b
  | _, _, _, _, .cons r a, b => .cons r (a.app b)
theorem RpA.one {v : V} {d : D} (h : Rp K B v d) : RpA K B [v] [d] := .cons h .nil
theorem RpA.take (n : Nat) : ∀ {vs : List V} {ds : List D}, RpA K B vs ds → RpA K B (vs.take n) (ds.take n) := by
  induction n with
  | zero => intro vs ds _; exact .nil
  | succ n ih =>
    intro vs ds h
    cases h with
    | nil => exact .nil
    | cons r a => exact .cons r (ih a)
theorem RpA.drop (n : Nat) : ∀ {vs : List V} {ds : List D}, RpA K B vs ds → RpA K B (vs.drop n) (ds.drop n) := by
  induction n with
  | zero => intro vs ds h; exact h
  | succ n ih =>
    intro vs ds h
    cases h with
    | nil => exact .nil
    | cons r a => exact ih a
theorem RpA.set {v : V} {d : D} (r : Rp K B v d) : ∀ {vs : List V} {ds : List D} (i : Nat), RpA K B vs ds → RpA K B (vs.set i v) (ds.set i d)
  | _, _, _, .nil => .nil
  | _, _, 0, .cons _ a => .cons r a
  | _, _, i + 1, .cons q a => .cons q (a.set r i)
theorem RpA.erase : ∀ {vs : List V} {ds : List D} (i : Nat), RpA K B vs ds → RpA K B (vs.eraseIdx i) (ds.eraseIdx i)
  | _, _, _, .nil => .nil
  | _, _, 0, .cons _ a => a
  | _, _, i + 1, .cons q a => .cons q (a.erase i)
theorem RpA.dropLast : ∀ {vs : List V} {ds : List D}, RpA K B vs ds → RpA K B vs.dropLast ds.dropLast
  | _, _, .nil => .nil
  | _, _, .cons q .nil => .nil
  | _, _, .cons q (.cons r a) => .cons q (RpA.dropLast (.cons r a))
theorem RpA.rep {v : V} {d : D} (r : Rp K B v d) : ∀ n, RpA K B (List.replicate n v) (List.replicate n d)
  | 0 => .nil
  | n + 1 => .cons r (RpA.rep r n)
theorem RpA.ints : ∀ {vs : List V} {ns : List Int}, RpA K B vs (ns.map D.int) → vs = ns.map V.int
  | _, [], .nil => rfl
  | _, n :: ns, .cons r a => by cases r; rw [List.map_cons, a.ints]
theorem RpA.ofInts : ∀ (ns : List Int), RpA K B (ns.map V.int) (ns.map D.int)
  | [] => .nil
  | n :: ns => .cons (.int n) (RpA.ofInts ns)
theorem RpA.bls : ∀ {vs : List V} {ns : List Bool}, RpA K B vs (ns.map D.bl) → vs = ns.map V.bl
  | _, [], .nil => rfl
  | _, n :: ns, .cons r a => by cases r; rw [List.map_cons, a.bls]
end

/-! ### to the library's data -/
mutual
def D.py : D → PyData
  | .non => .none
  | .bl b => .bool b
  | .int i => .int i
  | .str x => .str x
  | .tup ds => .tuple (D.pyA ds)
  | .lst ds => .list (D.pyA ds)
  | .scr ns => .list (ns.map PyData.int)
def D.pyA : List D → List PyData
  | [] => []
  | d :: ds => d.py :: D.pyA ds
end
theorem dp_ints {K : PySem.W.Frag} {H : Hp} : ∀ ns : List Int, DpAll K H (ns.map V.int) (ns.map PyData.int)
  | [] => .nil
  | n :: ns => .cons (.int n) (dp_ints ns)
mutual
theorem Rp.dp {K : PySem.W.Frag} {B : Hp} : ∀ {v : V} {d : D}, Rp K B v d → Dp K B v d.py
  | _, _, .non => .non
  | _, _, .bl b => .bl b
  | _, _, .int i => .int i
  | _, _, .str x => .str x
  | _, _, .tup h a => .tup (Evl.st_of h) a.dp
  | _, _, .lst h a => .lst (Evl.sq_of h) a.dp
  | _, _, .scr h => .lst h (dp_ints _)
theorem RpA.dp {K : PySem.W.Frag} {B : Hp} : ∀ {vs : List V} {ds : List D}, RpA K B vs ds → DpAll K B vs (D.pyA ds)
  | _, _, .nil => .nil
  | _, _, .cons h a => .cons h.dp a.dp
end

/-! ### environments -/
/-- what a mutable object holds -/
inductive MO where
  | lst (ds : List D)
  | dK (kvs : List (Key × D))
  | dT (kvs : List (List Key × D))
  deriving Inhabited
/-- a slot: not known; data; a mutable object that no one else holds (fz: it may be given away), the same locked (a walk goes over it) -/
inductive Slot where
  | un | dat (d : D) | own (fz : Bool) (m : MO) | lck (fz : Bool) (m : MO)
  deriving Inhabited
abbrev En := List Slot

def MOk (K : PySem.W.Frag) (B : Hp) (o : HO) : MO → Prop
  | .lst ds => ∃ xs, o = .lst xs ∧ RpA K B xs ds
  | .dK kvs => ∃ ws, o = .dK ws ∧ Paired (fun (p : Key × V) (q : Key × D) => p.1 = q.1 ∧ Rp K B p.2 q.2) ws kvs
  | .dT kvs => ∃ ws, o = .dT ws ∧ Paired (fun (p : List Key × V) (q : List Key × D) => p.1 = q.1 ∧ Rp K B p.2 q.2) ws kvs
theorem MOk.mono {K : PySem.W.Frag} {B B' : Hp} (e : Sub B B') {o : HO} : ∀ {m : MO}, MOk K B o m → MOk K B' o m
  | .lst _, ⟨xs, h, a⟩ => ⟨xs, h, a.mono e⟩
  | .dK _, ⟨ws, h, a⟩ => ⟨ws, h, Paired.mapP a fun _ _ z => ⟨z.1, z.2.mono e⟩⟩
  | .dT _, ⟨ws, h, a⟩ => ⟨ws, h, Paired.mapP a fun _ _ z => ⟨z.1, z.2.mono e⟩⟩

/-- the address in slot i -/
abbrev At (σ : L2.St) (i : Nat) (p : Addr) : Prop := σ[i]? = some (some (.ref p))
/-- the addresses that the code at hand may write to -/
def Own (σ : L2.St) (env : En) (p : Addr) : Prop := ∃ (i : Nat) (fz : Bool) (m : MO), env[i]? = some (.own fz m) ∧ At σ i p

def Slot.mut : Slot → Bool
  | .own _ _ => true
  | .lck _ _ => true
  | _ => false
/-- how a locked object stands on the heap -/
def LkH (H : Hp) (p : Addr) (o : HO) : MO → Prop
  | .lst _ => H p = some o
  | _ => Rd H p o
theorem LkH.rd {H : Hp} {p : Addr} {o : HO} {m : MO} (h : LkH H p o m) : Rd H p o := by
  cases m with
  | lst _ => exact .inl h
  | dK _ => exact h
  | dT _ => exact h
theorem LkH.mono {H H' : Hp} {p : Addr} {o : HO} {m : MO} (h : LkH H p o m) (k : ∀ u, H p = some u → H' p = some u) : LkH H' p o m := by
  cases m with
  | lst _ => exact k _ h
  | dK _ => exact h.elim (fun h => .inl (k _ h)) fun ⟨u, h⟩ => .inr ⟨u, k _ h⟩
  | dT _ => exact h.elim (fun h => .inl (k _ h)) fun ⟨u, h⟩ => .inr ⟨u, k _ h⟩
/-- the environment reads the slots: data in B, owned objects outside of it -/
structure RE (K : PySem.W.Frag) (σ : L2.St) (H B : Hp) (env : En) : Prop where
  sub : Sub B H
  len : env.length = σ.length
  dat : ∀ {i : Nat} {d}, env[i]? = some (Slot.dat d) → ∃ v, σ[i]? = some (some v) ∧ Rp K B v d
  own : ∀ {i : Nat} {fz m}, env[i]? = some (Slot.own fz m) → ∃ p o, At σ i p ∧ B p = none ∧ H p = some o ∧ MOk K B o m
  lck : ∀ {i : Nat} {fz m}, env[i]? = some (Slot.lck fz m) → ∃ p o, At σ i p ∧ B p = none ∧ LkH H p o m ∧ MOk K B o m
  apart : ∀ {i j : Nat} {s t p}, env[i]? = some s → env[j]? = some t → s.mut = true → t.mut = true → At σ i p → At σ j p → i = j

/-- what evaluating keeps: data stay, what is not owned stays, new data are new (or were owned and may be given away) -/
structure Stp (σ : L2.St) (H B : Hp) (env : En) (H' B' : Hp) (env' : En) : Prop where
  bb : Sub B B'
  th : ∀ {a}, H' a = none → H a = none
  fr : ∀ {a o}, H a = some o → ¬ Own σ env a → H' a = some o
  fre : ∀ {a o}, B' a = some o → (∃ u, B a = some u) ∨ H a = none ∨ ∃ (i : Nat) (m : MO), env[i]? = some (Slot.own true m) ∧ At σ i a
  ow : ∀ {i : Nat} {fz m}, env'[i]? = some (Slot.own fz m) → ∃ m', env[i]? = some (Slot.own fz m')
  lk : ∀ {i : Nat} {fz m}, env'[i]? = some (Slot.lck fz m) ↔ env[i]? = some (Slot.lck fz m)

section
variable {K : PySem.W.Frag} {σ : L2.St} {H B H' B' H2 B2 : Hp} {env env' env2 : En}
theorem Stp.refl : Stp σ H B env H B env := ⟨Sub.refl B, fun h => h, fun h _ => h, fun h => .inl ⟨_, h⟩, fun h => ⟨_, h⟩, Iff.rfl⟩
theorem Stp.own (s : Stp σ H B env H' B' env') {a : Addr} (h : Own σ env' a) : Own σ env a := by
  obtain ⟨i, fz, m, e, p⟩ := h
  obtain ⟨m', e'⟩ := s.ow e
  exact ⟨i, fz, m', e', p⟩
theorem Stp.trans (s : Stp σ H B env H' B' env') (t : Stp σ H' B' env' H2 B2 env2) : Stp σ H B env H2 B2 env2 where
  bb := s.bb.trans t.bb
  th := fun h => s.th (t.th h)
  fr := fun h n => t.fr (s.fr h n) fun z => n (s.own z)
  fre := fun {a o} h => by
    rcases t.fre h with ⟨u, x⟩ | x | ⟨i, m, x, y⟩
    · exact s.fre x
    · exact .inr (.inl (s.th x))
    · obtain ⟨m', e'⟩ := s.ow x
      exact .inr (.inr ⟨i, m', e', y⟩)
  ow := fun h => by
    obtain ⟨m', e'⟩ := t.ow h
    exact s.ow e'
  lk := t.lk.trans s.lk
/-- what the heap grows by: the rest stands -/
structure Gr (H B H' B' : Hp) : Prop where
  hh : Sub H H'
  bb : Sub B B'
  bh : Sub B' H'
  fre : ∀ {a o}, B' a = some o → (∃ u, B a = some u) ∨ H a = none
theorem Gr.refl (s : Sub B H) : Gr H B H B := ⟨Sub.refl H, Sub.refl B, s, fun h => .inl ⟨_, h⟩⟩
theorem Gr.trans (s : Gr H B H' B') (t : Gr H' B' H2 B2) : Gr H B H2 B2 := ⟨s.hh.trans t.hh, s.bb.trans t.bb, t.bh, fun h => by
  rcases t.fre h with ⟨u, x⟩ | x
  · exact s.fre x
  · exact .inr (s.hh.none x)⟩
theorem Gr.new (s : Sub B H) {p : Addr} {o : HO} (n : H p = none) : Gr H B (upd H p o) (upd B p o) :=
  ⟨Sub.new n, Sub.new (s.none n), s.upd, fun {a u} h => by
    by_cases e : a = p
    · subst e; exact .inr n
    · rw [upd_ne e] at h; exact .inl ⟨_, h⟩⟩
/-- .. by an object that no data speak of -/
theorem Gr.newH (s : Sub B H) {p : Addr} {o : HO} (n : H p = none) : Gr H B (upd H p o) B :=
  ⟨Sub.new n, Sub.refl B, s.trans (Sub.new n), fun h => .inl ⟨_, h⟩⟩
theorem Gr.stp (g : Gr H B H' B') : Stp σ H B env H' B' env :=
  ⟨g.bb, fun h => g.hh.none h, fun h _ => g.hh _ _ h, fun h => by
    rcases g.fre h with x | x
    · exact .inl x
    · exact .inr (.inl x), fun h => ⟨_, h⟩, Iff.rfl⟩
theorem Gr.out (g : Gr H B H' B') {p : Addr} {o : HO} (h : H p = some o) (b : B p = none) : B' p = none := by
  cases q : B' p with
  | none => rfl
  | some u =>
    rcases g.fre q with ⟨w, x⟩ | x
    · rw [b] at x; cases x
    · rw [h] at x; cases x
theorem RE.grow (R : RE K σ H B env) (g : Gr H B H' B') : RE K σ H' B' env where
  sub := g.bh
  len := R.len
  dat := fun h => by
    obtain ⟨v, e, r⟩ := R.dat h
    exact ⟨v, e, r.mono g.bb⟩
  own := fun h => by
    obtain ⟨p, o, a, b, c, m⟩ := R.own h
    exact ⟨p, o, a, g.out c b, g.hh _ _ c, m.mono g.bb⟩
  lck := fun h => by
    obtain ⟨p, o, a, b, c, m⟩ := R.lck h
    refine ⟨p, o, a, ?_, c.mono fun u h => g.hh _ _ h, m.mono g.bb⟩
    rcases c.rd with c | ⟨u, c⟩
    · exact g.out c b
    · exact g.out c b
  apart := R.apart
theorem Stp.none (s : Stp σ H B env H' B' env') {p : Addr} {o : HO} (h : H p = some o) (b : B p = none) (n : ¬ Own σ env p) : B' p = none := by
  cases q : B' p with
  | none => rfl
  | some u =>
    rcases s.fre q with ⟨w, x⟩ | x | ⟨i, m, x, y⟩
    · rw [b] at x; cases x
    · rw [h] at x; cases x
    · exact absurd ⟨i, true, m, x, y⟩ n
end
end Mi

/-! Mi2: a small language over plain data and what it evaluates to. -/
namespace Mi
open PySem PySem.Spec PyProof.Rows L2

inductive BO where | add | sub | mul | fdiv | mod | pow
  deriving DecidableEq, Inhabited
inductive CO where | eq | ne | lt | le | gt | ge | is_ | isn | in_ | nin
  deriving DecidableEq, Inhabited
inductive BI where | len | sum | all | any | int | abs | list | tuple | sorted | max2 | min2 | max1 | min1 | repr | isi (t : String)
  deriving DecidableEq, Inhabited
inductive MT where | append | extend | pop | popAt
  deriving DecidableEq, Inhabited
/-- a target -/
inductive T where | nm (i : Nat) | tp (ts : T) | nil | cons (t ts : T)
  deriving Inhabited
inductive E where
  | var (i : Nat) | cst (d : D) | tup (es : E) | lst (es : E)
  | anil | acons (e es : E) | astar (e es : E)
  | bin (o : BO) (a b : E) | neg (a : E) | cmp (o : CO) (a b : E) | chn (o o' : CO) (a b c : E)
  | and (a b : E) | or (a b : E) | not (a : E) | ite (c a b : E)
  | ix (a i : E) | slc (a lo hi : E) | gone
  | call (f : Nat) (es : E) | bi (b : BI) (es : E) | mth (m : MT) (r es : E) | cnt (a b : E) | dget (o k d : E)
  | lc (vs : List Nat) (tg : T) (it cs elt : E)
  | sumL (e : E) | rng (es : E) | lrng (es : E) | enm (e : E) | zip (a b : E) | items (e : E) | dnew (t : Bool)
  deriving Inhabited
inductive S where
  | nop | seq (a b : S) | exp (e : E) | asg (t : T) (e : E) | par (is : List Nat) (es : E) | put (o i v : E)
  | ret (e : E) | retN | ite (c : E) (a b : S) | whl (n : Nat) (c : E) (b : S) | for_ (t : T) (it : E) (b : S) | brk | cnt | never
  deriving Inhabited

/-- what an expression gives: data; the object of a slot; an object that is new and no one's -/
inductive P where | val (d : D) | slot (i : Nat) | new (m : MO) | its (xs : List D)
  deriving Inhabited
inductive Arg where | dat (d : D) | own (m : MO)
  deriving Inhabited
inductive Ret where | val (d : D) | new (m : MO)
  deriving Inhabited
inductive Out where | nx (e : En) | rt (r : Ret) (e : En) | bk (e : En) | ct (e : En)
  deriving Inhabited
abbrev Fn := List Arg → Option (Ret × List MO)

/-- look at it: a list that is owned is looked at as it is now -/
def pk : P → En → Option D
  | .val d, _ => some d
  | .slot i, env => match env[i]? with
    | some (.own _ (.lst ds)) => some (.lst ds)
    | some (.lck _ (.lst ds)) => some (.lst ds)
    | some (.dat d) => some d
    | _ => none
  | .new (.lst ds), _ => some (.lst ds)
  | .new _, _ => none
  | .its _, _ => none
/-- give it away: from now on no one changes it -/
def fz : P → En → Option (D × En)
  | .val d, env => some (d, env)
  | .slot i, env => match env[i]? with
    | some (.own true (.lst ds)) => some (.lst ds, env.set i (.dat (.lst ds)))
    | some (.dat d) => some (d, env)
    | _ => none
  | .new (.lst ds), env => some (.lst ds, env)
  | .new _, _ => none
  | .its _, _ => none
def fzs : List P → En → Option (List D × En)
  | [], env => some ([], env)
  | p :: ps, env => match fz p env with
    | some (d, e1) => match fzs ps e1 with
      | some (ds, e2) => some (d :: ds, e2)
      | none => none
    | none => none
def pks : List P → En → Option (List D)
  | [], _ => some []
  | p :: ps, env => match pk p env with
    | some d => match pks ps env with
      | some ds => some (d :: ds)
      | none => none
    | none => none

/-- a size that is surely within the line -/
abbrev lim : Nat := 4000000
/-- data that may be compared: n levels at most -/
def D.ok : Nat → D → Bool
  | _, .non => true
  | _, .bl _ => true
  | _, .int _ => true
  | _, .str x => PyData.strOk x
  | 0, _ => false
  | n + 1, .tup ds => ds.all (D.ok n)
  | n + 1, .lst ds => ds.all (D.ok n)
  | _, .scr _ => false

def binOp : BO → D → D → Option P
  | .add, .int i, .int j => some (.val (.int (i + j)))
  | .add, .str x, .str y => if x.length + y.length ≤ lim then some (.val (.str (x ++ y))) else none
  | .add, .lst xs, .lst ys => if xs.length + ys.length ≤ lim then some (.new (.lst (xs ++ ys))) else none
  | .add, .tup xs, .tup ys => if xs.length + ys.length ≤ lim then some (.val (.tup (xs ++ ys))) else none
  | .sub, .int i, .int j => some (.val (.int (i - j)))
  | .mul, .int i, .int j => if i.natAbs.log2 + j.natAbs.log2 < 1000000 then some (.val (.int (i * j))) else none
  | .mul, .lst xs, .int k => if 0 ≤ k ∧ k ≤ 1000 ∧ xs.length ≤ 1000 then some (.new (.lst (List.replicate k.toNat xs).flatten)) else none
  | .mul, .tup xs, .int k => if xs ≠ [] ∧ 1 ≤ k ∧ k ≤ 1000 ∧ xs.length ≤ 1000 then some (.val (.tup (List.replicate k.toNat xs).flatten)) else none
  | .fdiv, .int i, .int j => if j ≠ 0 ∧ j.natAbs.log2 < 9000 then some (.val (.int (i.fdiv j))) else none
  | .mod, .int i, .int j => if j ≠ 0 then some (.val (.int (i.fmod j))) else none
  | .pow, .int i, .int j => if 2 ≤ i ∧ 1 ≤ j ∧ j ≤ 1000 ∧ i.natAbs.log2 < 4000 then some (.val (.int (i ^ j.toNat))) else none
  | _, _, _ => none

def D.isFlat : D → Bool
  | .non => true | .bl _ => true | .int _ => true | .str _ => true | _ => false
def D.isNon : D → Bool
  | .non => true
  | _ => false
def D.toInt? : D → Option Int
  | .int i => some i
  | _ => none
def D.toBl? : D → Option Bool
  | .bl b => some b
  | _ => none
def intsOf : List D → Option (List Int)
  | [] => some []
  | d :: ds => match d.toInt?, intsOf ds with
    | some i, some ns => some (i :: ns)
    | _, _ => none
def blsOf : List D → Option (List Bool)
  | [] => some []
  | d :: ds => match d.toBl?, blsOf ds with
    | some i, some ns => some (i :: ns)
    | _, _ => none
def D.lstOf? : D → Option (List D)
  | .lst ds => some ds
  | _ => none
def lstsOf : List D → Option (List (List D))
  | [] => some []
  | d :: ds => match d.lstOf?, lstsOf ds with
    | some i, some ns => some (i :: ns)
    | _, _ => none
/-- the items of a list or tuple -/
def D.seq? : D → Option (List D)
  | .lst ds => some ds
  | .tup ds => some ds
  | _ => none

def eqOp (a b : D) : Option Bool := if a.ok 9 && b.ok 9 then some (PyData.eqv a.py b.py) else none
def inOp (a b : D) : Option Bool := match b.seq? with
  | some ds => if a.ok 9 && ds.all (D.ok 9) then some (ds.any fun d => PyData.eqv d.py a.py) else none
  | none => none
def cmpOp : CO → D → D → Option Bool
  | .eq, a, b => eqOp a b
  | .ne, a, b => (eqOp a b).map (!·)
  | .lt, .int i, .int j => some (decide (i < j))
  | .le, .int i, .int j => some (decide (i ≤ j))
  | .gt, .int i, .int j => some (decide (j < i))
  | .ge, .int i, .int j => some (decide (j ≤ i))
  | .lt, .tup xs, .tup ys => match intsOf xs, intsOf ys with
    | some ns, some ms => some (HT.lexLt ns ms)
    | _, _ => none
  | .is_, a, .non => some a.isNon
  | .isn, a, .non => some (!a.isNon)
  | .in_, a, b => inOp a b
  | .nin, a, b => (inOp a b).map (!·)
  | _, _, _ => none

/-- ascending, as sorted gives it -/
def sortI : List Int → List Int := fun ns => ns.mergeSort (fun a b => decide (a ≤ b))
def D.okRepr (d : D) : Bool := d.py.showable && decide (d.py.shown.length ≤ sizeLine) && decide (d.py.depth ≤ 64) && (!d.py.hasDict) && (match d with | .tup _ => true | .lst _ => true | _ => false)
def kindOf : D → String
  | .non => "NoneType" | .bl _ => "bool" | .int _ => "int" | .str _ => "str" | .tup _ => "tuple" | .lst _ => "list" | .scr _ => "list"

/-- isinstance for the built-in classes that occur -/
def D.isA (d : D) (t : String) : Bool := match d with
  | .bl _ => t == "bool" || t == "int"
  | .non => false
  | .int _ => t == "int"
  | .str _ => t == "str"
  | .tup _ => t == "tuple"
  | .lst _ => t == "list"
  | .scr _ => t == "list"

def biOp : BI → List D → Option P
  | .len, [.tup ds] => some (.val (.int ds.length))
  | .len, [.lst ds] => some (.val (.int ds.length))
  | .len, [.scr ns] => some (.val (.int ns.length))
  | .len, [.str x] => if x.length ≤ lim then some (.val (.int x.length)) else none
  | .sum, [.lst ds] => match intsOf ds with
    | some ns => some (.val (.int ns.sum))
    | none => none
  | .all, [.lst ds] => match blsOf ds with
    | some bs => some (.val (.bl (bs.all id)))
    | none => none
  | .any, [.lst ds] => match blsOf ds with
    | some bs => some (.val (.bl (bs.any id)))
    | none => none
  | .int, [.int i] => some (.val (.int i))
  | .int, [.bl b] => some (.val (.int (if b then 1 else 0)))
  | .abs, [.int i] => some (.val (.int (if i < 0 then -i else i)))
  | .list, [.lst ds] => some (.new (.lst ds))
  | .list, [.tup ds] => some (.new (.lst ds))
  | .tuple, [.lst ds] => some (.val (.tup ds))
  | .tuple, [.tup ds] => some (.val (.tup ds))
  | .sorted, [.lst ds] => match intsOf ds with
    | some ns => some (.new (.lst ((sortI ns).map D.int)))
    | none => none
  | .max2, [.int i, .int j] => some (.val (.int (if j > i then j else i)))
  | .min2, [.int i, .int j] => some (.val (.int (if j < i then j else i)))
  | .repr, [d] => if d.okRepr then some (.val (.str d.py.shown)) else none
  | .isi t, [d] => if t = "int" ∨ t = "bool" ∨ t = "str" ∨ t = "tuple" ∨ t = "list" then some (.val (.bl (d.isA t))) else none
  | _, _ => none

/-! ### dicts -/
def valD {κ : Type} [DecidableEq κ] : List (κ × D) → κ → Option D
  | [], _ => none
  | (k, d) :: r, x => if k = x then some d else valD r x
def putD {κ : Type} [DecidableEq κ] (kvs : List (κ × D)) (x : κ) (v : D) : List (κ × D) :=
  if (kvs.any fun kv => decide (kv.1 = x)) = true then kvs.map (fun kv => if kv.1 = x then (kv.1, v) else kv) else kvs ++ [(x, v)]
def D.key? : D → Option Key
  | .int i => some (.inl i)
  | .str x => some (.inr x)
  | _ => none
def keysOf : List D → Option (List Key)
  | [] => some []
  | d :: ds => match d.key?, keysOf ds with
    | some k, some ks => some (k :: ks)
    | _, _ => none
def dlook (m : MO) (k : D) : Option (Option D) := match m, k with
  | .dK kvs, .int i => some (valD kvs (.inl i))
  | .dK kvs, .str x => some (valD kvs (.inr x))
  | .dT kvs, .tup ds => (keysOf ds).map fun ks => valD kvs ks
  | _, _ => none
def dput (m : MO) (k v : D) : Option MO := match m, k with
  | .dK kvs, .int i => if kvs.length < lim then some (.dK (putD kvs (.inl i) v)) else none
  | .dK kvs, .str x => if kvs.length < lim then some (.dK (putD kvs (.inr x) v)) else none
  | .dT kvs, .tup ds => match keysOf ds with
    | some ks => if kvs.length < lim then some (.dT (putD kvs ks v)) else none
    | none => none
  | _, _ => none
def keyD : Key → D
  | .inl i => .int i
  | .inr x => .str x
def lstIn (i : Nat) (env : En) : Bool := match env[i]? with
  | some (.own _ (.lst _)) => true
  | _ => false
def Slot.mo? : Slot → Option MO
  | .own _ m => some m
  | .lck _ m => some m
  | _ => none
def dictIn (i : Nat) (env : En) : Bool := match env[i]?.bind Slot.mo? with
  | some (.dK _) => true
  | some (.dT _) => true
  | _ => false
def dkeys : MO → Option (List D)
  | .dK kvs => some (kvs.map fun p => keyD p.1)
  | _ => none
/-- x in d, x not in d -/
def dcmp (o : CO) (p q : P) (env : En) : Option (P × En) := match o, p, q with
  | .in_, .val k, .slot i => match env[i]?.bind Slot.mo? with
    | some m => match dlook m k with
      | some r => some (.val (.bl r.isSome), env)
      | none => none
    | none => none
  | .nin, .val k, .slot i => match env[i]?.bind Slot.mo? with
    | some m => match dlook m k with
      | some r => some (.val (.bl (!r.isSome)), env)
      | none => none
    | none => none
  | _, _, _ => none
/-- d[k] -/
def dix (p : P) (k : D) (env : En) : Option D := match p with
  | .slot i => match env[i]?.bind Slot.mo? with
    | some m => match dlook m k with
      | some (some d) => some d
      | _ => none
    | none => none
  | _ => none
/-- an index of either sign -/
def ixOp : D → D → Option D
  | .tup ds, .int i => atI ds i
  | .lst ds, .int i => atI ds i
  | .scr ns, .int i => (atI ns i).map D.int
  | _, _ => none
def cutD (xs : List D) (lo hi : Option Int) : List D := (xs.drop (HT.sIx xs.length 0 lo)).take (HT.sIx xs.length xs.length hi - HT.sIx xs.length 0 lo)
def slcOp : D → Option Int → Option Int → Option P
  | .tup ds, lo, hi => some (.val (.tup (cutD ds lo hi)))
  | .lst ds, lo, hi => some (.new (.lst (cutD ds lo hi)))
  | .scr ns, lo, hi => some (.new (.lst (cutD (ns.map D.int) lo hi)))
  | _, _, _ => none

/-! ### targets -/
def Slot.free : Slot → Bool
  | .own false _ => false
  | .lck _ _ => false
  | _ => true
def setS (i : Nat) (s : Slot) (env : En) : Option En := match env[i]? with
  | some t => if t.free then some (env.set i s) else none
  | none => none
mutual
def setD : T → D → En → Option En
  | .nm i, d, env => setS i (.dat d) env
  | .tp ts, .tup ds, env => setDs ts ds env
  | _, _, _ => none
def setDs : T → List D → En → Option En
  | .nil, [], env => some env
  | .cons t ts, d :: ds, env => match setD t d env with
    | some e => setDs ts ds e
    | none => none
  | _, _, _ => none
end
def setP : T → P → En → Option En
  | .nm i, .new m, env => setS i (.own true m) env
  | t, p, env => match fz p env with
    | some (d, e) => setD t d e
    | none => none

def wipeS (env : En) : List Nat → En
  | [] => env
  | v :: vs => (wipeS env vs).set v .un
/-- the slots vs as they were in old -/
def backS (old env : En) : List Nat → En
  | [] => env
  | v :: vs => match old[v]? with
    | some s => (backS old env vs).set v s
    | none => backS old env vs

/-! ### calls -/
def toArgs : List P → En → Option (List Arg × List Nat)
  | [], _ => some ([], [])
  | .val d :: ps, env => match toArgs ps env with
    | some (as, is) => some (.dat d :: as, is)
    | none => none
  | .new (.lst ds) :: ps, env => match toArgs ps env with
    | some (as, is) => some (.dat (.lst ds) :: as, is)
    | none => none
  | .new _ :: _, _ => none
  | .its _ :: _, _ => none
  | .slot i :: ps, env => match env[i]?, toArgs ps env with
    | some (.own _ m), some (as, is) => if i ∈ is then none else some (.own m :: as, i :: is)
    | some (.dat d), some (as, is) => some (.dat d :: as, is)
    | _, _ => none
def putBack : List Nat → List MO → En → Option En
  | [], [], env => some env
  | i :: is, m :: ms, env => match env[i]? with
    | some (.own f _) => putBack is ms (env.set i (.own f m))
    | _ => none
  | _, _, _ => none
def Ret.p : Ret → P
  | .val d => .val d
  | .new m => .new m

/-! ### the items that a walk goes over; what is walked is locked -/
def itsOf (p : P) (env : En) : Option (List D × Option Nat × En) := match p with
  | .its xs => some (xs, none, env)
  | .val d => match d.seq? with
    | some ds => some (ds, none, env)
    | none => none
  | .new (.lst ds) => some (ds, none, env)
  | .new _ => none
  | .slot i => match env[i]? with
    | some (.own f (.lst ds)) => some (ds, some i, env.set i (.lck f (.lst ds)))
    | some (.lck _ (.lst ds)) => some (ds, none, env)
    | some (.dat d) => match d.seq? with
      | some ds => some (ds, none, env)
      | none => none
    | _ => none
/-- a dict by its name -/
def dictIt (e : E) (env : En) : Option (List D × Option Nat × En) := match e with
  | .var i => match env[i]? with
    | some (.own f m) => match dkeys m with
      | some ks => some (ks, some i, env.set i (.lck f m))
      | none => none
    | _ => none
  | _ => none
/-- behind it -/
def freeS (lk : Option Nat) (env : En) : En := match lk with
  | none => env
  | some i => match env[i]? with
    | some (.lck f m) => env.set i (.own f m)
    | _ => env
def rangeD (lo : Int) (n : Nat) : List D := (List.range n).map fun (i : Nat) => D.int (lo + (i : Int))
def rngOf : List D → Option (List D)
  | [.int n] => if -(2 ^ 40) ≤ n ∧ n ≤ 2 ^ 40 then some (rangeD 0 n.toNat) else none
  | [.int a, .int b] => if -(2 ^ 40) ≤ a ∧ a ≤ 2 ^ 40 ∧ -(2 ^ 40) ≤ b ∧ b ≤ 2 ^ 40 then some (rangeD a (b - a).toNat) else none
  | _ => none

def enumD (ds : List D) : List D := ds.mapIdx fun i d => .tup [.int (i : Nat), d]
def zipOp : D → D → Option (List D)
  | .lst xs, .lst ys => some (List.zipWith (fun x y => D.tup [x, y]) xs ys)
  | .tup xs, .tup ys => some (List.zipWith (fun x y => D.tup [x, y]) xs ys)
  | _, _ => none

/-- [elt for ..]: f gives what a turn makes -/
def lcGo (f : D → En → Option (Option D × En)) : List D → En → Option (List D × En)
  | [], env => some ([], env)
  | x :: xs, env => match f x env with
    | some (o, e1) => match lcGo f xs e1 with
      | some (ys, e2) => some (o.toList ++ ys, e2)
      | none => none
    | none => none

mutual
def evE (Φ : Nat → Fn) : E → En → Option (P × En)
  | .var i, env => match env[i]? with
    | some (.dat d) => some (.val d, env)
    | some (.own _ _) => some (.slot i, env)
    | some (.lck _ _) => some (.slot i, env)
    | _ => none
  | .cst d, env => some (.val d, env)
  | .tup es, env => match evA Φ es env with
    | some (ps, e1) => match fzs ps e1 with
      | some (ds, e2) => if ds.length ≤ lim then some (.val (.tup ds), e2) else none
      | none => none
    | none => none
  | .lst es, env => match evA Φ es env with
    | some (ps, e1) => match fzs ps e1 with
      | some (ds, e2) => if ds.length ≤ lim then some (.new (.lst ds), e2) else none
      | none => none
    | none => none
  | .bin o a b, env => match evE Φ a env with
    | some (p, e1) => match evE Φ b e1 with
      | some (q, e2) => match pk p e2, pk q e2 with
        | some x, some y => match binOp o x y with
          | some z => some (z, e2)
          | none => none
        | _, _ => none
      | none => none
    | none => none
  | .neg a, env => match evE Φ a env with
    | some (.val (.int i), e1) => some (.val (.int (-i)), e1)
    | _ => none
  | .cmp o a b, env => match evE Φ a env with
    | some (p, e1) => match evE Φ b e1 with
      | some (q, e2) => match pk p e2, pk q e2 with
        | some x, some y => match cmpOp o x y with
          | some z => some (.val (.bl z), e2)
          | none => none
        | _, _ => dcmp o p q e2
      | none => none
    | none => none
  | .chn o o' a b c, env => match evE Φ a env with
    | some (.val x, e1) => match evE Φ b e1 with
      | some (.val y, e2) => match cmpOp o x y with
        | some true => match evE Φ c e2 with
          | some (.val z, e3) => match cmpOp o' y z with
            | some r => some (.val (.bl r), e3)
            | none => none
          | _ => none
        | some false => some (.val (.bl false), e2)
        | none => none
      | _ => none
    | _ => none
  | .and a b, env => match evE Φ a env with
    | some (.val (.bl true), e1) => match evE Φ b e1 with
      | some (.val (.bl r), e2) => some (.val (.bl r), e2)
      | _ => none
    | some (.val (.bl false), e1) => some (.val (.bl false), e1)
    | _ => none
  | .or a b, env => match evE Φ a env with
    | some (.val (.bl false), e1) => match evE Φ b e1 with
      | some (.val (.bl r), e2) => some (.val (.bl r), e2)
      | _ => none
    | some (.val (.bl true), e1) => some (.val (.bl true), e1)
    | _ => none
  | .not a, env => match evE Φ a env with
    | some (.val (.bl r), e1) => some (.val (.bl (!r)), e1)
    | _ => none
  | .ite c a b, env => match evE Φ c env with
    | some (.val (.bl true), e1) => evE Φ a e1
    | some (.val (.bl false), e1) => evE Φ b e1
    | _ => none
  | .ix a i, env => match evE Φ a env with
    | some (p, e1) => match evE Φ i e1 with
      | some (.val k, e2) => match pk p e2 with
        | some x => match ixOp x k with
          | some d => some (.val d, e2)
          | none => none
        | none => match dix p k e2 with
          | some d => some (.val d, e2)
          | none => none
      | _ => none
    | none => none
  | .slc a lo hi, env => match evE Φ a env with
    | some (p, e1) => match evO Φ lo e1 with
      | some (l, e2) => match evO Φ hi e2 with
        | some (h, e3) => match pk p e3 with
          | some x => match slcOp x l h with
            | some r => some (r, e3)
            | none => none
          | none => none
        | none => none
      | none => none
    | none => none
  | .call f es, env => match evA Φ es env with
    | some (ps, e1) => match toArgs ps e1 with
      | some (as, is) => match Φ f as with
        | some (r, ms) => match putBack is ms e1 with
          | some e2 => some (r.p, e2)
          | none => none
        | none => none
      | none => none
    | none => none
  | .bi b es, env => match evA Φ es env with
    | some (ps, e1) => match pks ps e1 with
      | some ds => match biOp b ds with
        | some r => some (r, e1)
        | none => none
      | none => none
    | none => none
  | .mth m r es, env => match evE Φ r env with
    | some (.slot i, e1) => if lstIn i e1 then match evA Φ es e1 with
      | some (ps, e2) => match m, ps with
        | .append, [p] => match fz p e2 with
          | some (d, e3) => match e3[i]? with
            | some (.own f (.lst ds)) => if ds.length < lim then some (.val .non, e3.set i (.own f (.lst (ds ++ [d])))) else none
            | _ => none
          | none => none
        | .extend, [p] => match fz p e2 with
          | some (.lst zs, e3) => match e3[i]? with
            | some (.own f (.lst ds)) => if ds.length + zs.length ≤ lim then some (.val .non, e3.set i (.own f (.lst (ds ++ zs)))) else none
            | _ => none
          | _ => none
        | .pop, [] => match e2[i]? with
          | some (.own f (.lst ds)) => match ds[ds.length - 1]? with
            | some d => some (.val d, e2.set i (.own f (.lst ds.dropLast)))
            | none => none
          | _ => none
        | .popAt, [.val (.int k)] => match e2[i]? with
          | some (.own f (.lst ds)) => if 0 ≤ k ∧ k ≤ 2 ^ 40 then match ds[k.toNat]? with
              | some d => some (.val d, e2.set i (.own f (.lst (ds.eraseIdx k.toNat))))
              | none => none
            else none
          | _ => none
        | _, _ => none
      | none => none
      else none
    | _ => none
  | .lc vs tg it cs elt, env => match (match dictIt it env with
      | some r => some r
      | none => match evE Φ it env with
        | some (p, e0) => itsOf p e0
        | none => none) with
    | some (xs, lk, e1) => if xs.length ≤ lim then
        match lcGo (fun x e => match setD tg x e with
          | some e2 => match evC Φ cs e2 with
            | some (true, e3) => match evE Φ elt e3 with
              | some (p, e4) => match fz p e4 with
                | some (d, e5) => some (some d, wipeS e5 vs)
                | none => none
              | none => none
            | some (false, e3) => some (none, wipeS e3 vs)
            | none => none
          | none => none) xs (wipeS e1 vs) with
        | some (ds, e2) => some (.new (.lst ds), freeS lk (backS e1 e2 vs))
        | none => none
      else none
    | none => none
  | .lrng es, env => match evA Φ es env with
    | some (ps, e1) => match pks ps e1 with
      | some ds => match rngOf ds with
        | some xs => if xs.length ≤ lim then some (.new (.lst xs), e1) else none
        | none => none
      | none => none
    | none => none
  | .sumL e, env => match evE Φ e env with
    | some (p, e1) => match pk p e1 with
      | some (.lst ds) => match lstsOf ds with
        | some xs => if xs.flatten.length ≤ 1000000 then some (.new (.lst xs.flatten), e1) else none
        | none => none
      | _ => none
    | none => none
  | .dnew t, env => some (.new (if t then .dT [] else .dK []), env)
  | .cnt a b, env => match evE Φ a env with
    | some (p, e1) => match pk p e1 with
      | some (.lst _) => match evE Φ b e1 with
        | some (.val (.int k), e2) => match pk p e2 with
          | some (.lst ds) => match intsOf ds with
            | some ns => some (.val (.int (ns.count k)), e2)
            | none => none
          | _ => none
        | _ => none
      | _ => none
    | none => none
  | .dget o k x, env => match evE Φ o env with
    | some (.slot i, e1) => if dictIn i e1 then match evE Φ k e1 with
      | some (.val k, e2) => match evE Φ x e2 with
        | some (.val x, e3) => match e3[i]?.bind Slot.mo? with
          | some m => match dlook m k with
            | some r => some (.val (r.getD x), e3)
            | none => none
          | none => none
        | _ => none
      | _ => none
      else none
    | _ => none
  | .anil, _ => none
  | .acons _ _, _ => none
  | .astar _ _, _ => none
  | .gone, _ => none
  | .rng es, env => match evA Φ es env with
    | some (ps, e1) => match pks ps e1 with
      | some ds => match rngOf ds with
        | some xs => some (.its xs, e1)
        | none => none
      | none => none
    | none => none
  | .enm e, env => match evE Φ e env with
    | some (p, e1) => match fz p e1 with
      | some (.lst ds, e2) => some (.its (enumD ds), e2)
      | _ => none
    | none => none
  | .zip a b, env => match evE Φ a env with
    | some (p, e1) => match evE Φ b e1 with
      | some (q, e2) => match fz p e2 with
        | some (x, e3) => match fz q e3 with
          | some (y, e4) => match zipOp x y with
            | some ds => some (.its ds, e4)
            | none => none
          | none => none
        | none => none
      | none => none
    | none => none
  | .items _, _ => none
termination_by structural e => e
/-- an argument list -/
def evA (Φ : Nat → Fn) : E → En → Option (List P × En)
  | .anil, env => some ([], env)
  | .acons e es, env => match evE Φ e env with
    | some (p, e1) => match evA Φ es e1 with
      | some (ps, e2) => some (p :: ps, e2)
      | none => none
    | none => none
  | .astar e es, env => match evE Φ e env with
    | some (p, e1) => match pk p e1 with
      | some x => match x.seq? with
        | some ds => match evA Φ es e1 with
          | some (ps, e2) => some (ds.map P.val ++ ps, e2)
          | none => none
        | none => none
      | none => none
    | none => none
  | _, _ => none
termination_by structural e => e
/-- an end of a slice -/
def evO (Φ : Nat → Fn) : E → En → Option (Option Int × En)
  | .gone, env => some (none, env)
  | .acons e _, env => match evE Φ e env with
    | some (.val (.int i), e1) => some (some i, e1)
    | _ => none
  | _, _ => none
termination_by structural e => e
/-- the tests of a comprehension: none or one -/
def evC (Φ : Nat → Fn) : E → En → Option (Bool × En)
  | .anil, env => some (true, env)
  | .acons e .anil, env => match evE Φ e env with
    | some (.val (.bl b), e1) => some (b, e1)
    | _ => none
  | _, _ => none
termination_by structural e => e
end

/-! ### statements -/
/-- what is stored: data, or a new object -/
def rsP : P → En → Option (P × En)
  | .new m, env => some (.new m, env)
  | p, env => match fz p env with
    | some (d, e) => some (.val d, e)
    | none => none
def rsPs : List P → En → Option (List P × En)
  | [], env => some ([], env)
  | p :: ps, env => match rsP p env with
    | some (q, e1) => match rsPs ps e1 with
      | some (qs, e2) => some (q :: qs, e2)
      | none => none
    | none => none
def setVs : List Nat → List P → En → Option En
  | [], [], env => some env
  | i :: is, .val d :: ps, env => match setS i (.dat d) env with
    | some e1 => setVs is ps e1
    | none => none
  | i :: is, .new m :: ps, env => match setS i (.own true m) env with
    | some e1 => setVs is ps e1
    | none => none
  | _, _, _ => none
def forGo (f : D → En → Option Out) : List D → En → Option Out
  | [], env => some (.nx env)
  | x :: xs, env => match f x env with
    | some (.nx e) => forGo f xs e
    | some (.ct e) => forGo f xs e
    | some (.bk e) => some (.nx e)
    | some (.rt r e) => some (.rt r e)
    | none => none
def whlGo (c : En → Option (Bool × En)) (f : En → Option Out) : Nat → En → Option Out
  | 0, _ => none
  | n + 1, env => match c env with
    | some (true, e1) => match f e1 with
      | some (.nx e) => whlGo c f n e
      | some (.ct e) => whlGo c f n e
      | some (.bk e) => some (.nx e)
      | some (.rt r e) => some (.rt r e)
      | none => none
    | some (false, e1) => some (.nx e1)
    | none => none
def evT (Φ : Nat → Fn) (c : E) (env : En) : Option (Bool × En) := match evE Φ c env with
  | some (.val (.bl b), e1) => some (b, e1)
  | _ => none
/-- a value handed back: an own list goes along -/
def retOf (p : P) (env : En) : Option (Ret × En) := match p with
  | .val d => some (.val d, env)
  | .new m => some (.new m, env)
  | .its _ => none
  | .slot i => match env[i]? with
    | some (.own true m) => some (.new m, env.set i .un)
    | some (.dat d) => some (.val d, env)
    | _ => none
def putAt (m : MO) (k v : D) : Option MO := match m, k with
  | .lst ds, .int i => if 0 ≤ i ∧ i < ds.length then some (.lst (ds.set i.toNat v)) else none
  | .dK _, k => dput m k v
  | .dT _, k => dput m k v
  | _, _ => none

def evS (Φ : Nat → Fn) : S → En → Option Out
  | .nop, env => some (.nx env)
  | .never, _ => none
  | .brk, env => some (.bk env)
  | .cnt, env => some (.ct env)
  | .seq a b, env => match evS Φ a env with
    | some (.nx e) => evS Φ b e
    | o => o
  | .exp e, env => match evE Φ e env with
    | some (_, e1) => some (.nx e1)
    | none => none
  | .asg t e, env => match evE Φ e env with
    | some (p, e1) => match setP t p e1 with
      | some e2 => some (.nx e2)
      | none => none
    | none => none
  | .par is es, env => match evA Φ es env with
    | some (ps, e1) => match rsPs ps e1 with
      | some (qs, e2) => match setVs is qs e2 with
        | some e3 => some (.nx e3)
        | none => none
      | none => none
    | none => none
  | .put o i v, env => match evE Φ v env with
    | some (pv, e1) => match evE Φ o e1 with
      | some (.slot s, e2) => match evE Φ i e2 with
        | some (.val k, e3) => match fz pv e3 with
          | some (d, e4) => match e4[s]? with
            | some (.own f m) => match putAt m k d with
              | some m' => some (.nx (e4.set s (.own f m')))
              | none => none
            | _ => none
          | none => none
        | _ => none
      | _ => none
    | none => none
  | .ret e, env => match evE Φ e env with
    | some (p, e1) => match retOf p e1 with
      | some (r, e2) => some (.rt r e2)
      | none => none
    | none => none
  | .retN, env => some (.rt (.val .non) env)
  | .ite c a b, env => match evT Φ c env with
    | some (true, e1) => evS Φ a e1
    | some (false, e1) => evS Φ b e1
    | none => none
  | .whl n c b, env => whlGo (evT Φ c) (evS Φ b) n env
  | .for_ t it b, env => match (match dictIt it env with
      | some r => some r
      | none => match evE Φ it env with
        | some (p, e0) => itsOf p e0
        | none => none) with
    | some (xs, lk, e1) => match forGo (fun x e => match setD t x e with
        | some e2 => evS Φ b e2
        | none => none) xs e1 with
      | some (.nx e2) => some (.nx (freeS lk e2))
      | some (.rt r e2) => some (.rt r (freeS lk e2))
      | _ => none
    | none => none
termination_by structural s => s

/-! ### defs -/
def Arg.slot : Arg → Slot
  | .dat d => .dat d
  | .own m => .own false m
def outsOf : List Arg → En → Option (List MO)
  | [], _ => some []
  | .dat _ :: as, _ :: env => outsOf as env
  | .own _ :: as, .own false m :: env => match outsOf as env with
    | some ms => some (m :: ms)
    | none => none
  | _, _ => none
/-- np parameters, n slots in all -/
def semF (Φ : Nat → Fn) (np n : Nat) (b : S) : Fn := fun as =>
  if as.length = np then
    match evS Φ b (as.map Arg.slot ++ List.replicate (n - np) Slot.un) with
    | some (.rt r e) => match outsOf as e with
      | some ms => some (r, ms)
      | none => none
    | some (.nx e) => match outsOf as e with
      | some ms => some (.val .non, ms)
      | none => none
    | _ => none
  else none
end Mi

namespace Mi
example (Φ : Nat → Fn) : evE Φ (.bin .add (.var 0) (.cst (.int 1))) [.dat (.int 3)] = some (.val (.int 4), [.dat (.int 3)]) := rfl
example (Φ : Nat → Fn) (xs : List D) : evE Φ (.bi .len (.acons (.var 0) .anil)) [.dat (.tup xs)] = some (.val (.int xs.length), [.dat (.tup xs)]) := rfl
end Mi

/-! Mi3: the operators do what the evaluator says. -/
namespace Mi
open PySem PySem.Spec PyProof.Rows L2

/-- what is wanted behind an operation that gives p -/
def ResP (K : PySem.W.Frag) (H B : Hp) (Q : VK) : P → Prop
  | .val d => ∀ v H' B', Gr H B H' B' → Rp K B' v d → Q v H'
  | .new m => ∀ a o H' B', Gr H B H' B' → H a = none → H' a = some o → B' a = none → MOk K B' o m → Q (.ref a) H'
  | _ => False
/-- a value that is looked at -/
def RpS (K : PySem.W.Frag) (B H : Hp) (v : V) (d : D) : Prop := Rp K B v d ∨ ∃ a xs ds, v = .ref a ∧ d = .lst ds ∧ H a = some (.lst xs) ∧ RpA K B xs ds

theorem lim_line : lim ≤ sizeLine := by decide
section
variable {K : PySem.W.Frag} {B H H' B' : Hp} {v : V} {d : D} {Q : VK}
theorem RpS.lst {ds : List D} (h : RpS K B H v (.lst ds)) (s : Sub B H) : ∃ a xs, v = .ref a ∧ H a = some (.lst xs) ∧ RpA K B xs ds := by
  rcases h with h | ⟨a, xs, es, e1, e2, e3, e4⟩
  · cases h with
    | lst h1 h2 => exact ⟨_, _, rfl, s _ _ h1, h2⟩
  · cases e2; exact ⟨a, xs, e1, e3, e4⟩
theorem RpS.tup {ds : List D} (h : RpS K B H v (.tup ds)) (s : Sub B H) : ∃ a xs, v = .ref a ∧ SqT K H a xs ∧ RpA K B xs ds := by
  rcases h with h | ⟨a, xs, es, e1, e2, e3, e4⟩
  · cases h with
    | tup h1 h2 => exact ⟨_, _, rfl, Evl.st_of (s _ _ h1), h2⟩
  · cases e2
theorem RpS.scr {ns : List Int} (h : RpS K B H v (.scr ns)) (s : Sub B H) : ∃ a, v = .ref a ∧ SqL K H a (ns.map V.int) := by
  rcases h with h | ⟨a, xs, es, e1, e2, e3, e4⟩
  · cases h with
    | scr h1 => exact ⟨_, rfl, s.seqL h1⟩
  · cases e2
theorem RpS.int {i : Int} (h : RpS K B H v (.int i)) : v = .int i := by
  rcases h with h | ⟨a, xs, es, e1, e2, e3, e4⟩
  · cases h; rfl
  · cases e2
theorem RpS.str {i : Str} (h : RpS K B H v (.str i)) : v = .str i := by
  rcases h with h | ⟨a, xs, es, e1, e2, e3, e4⟩
  · cases h; rfl
  · cases e2
theorem RpS.bl {i : Bool} (h : RpS K B H v (.bl i)) : v = .bl i := by
  rcases h with h | ⟨a, xs, es, e1, e2, e3, e4⟩
  · cases h; rfl
  · cases e2
theorem RpS.non (h : RpS K B H v .non) : v = .non := by
  rcases h with h | ⟨a, xs, es, e1, e2, e3, e4⟩
  · cases h; rfl
  · cases e2
theorem RpS.dp (h : RpS K B H v d) (s : Sub B H) : Dp K H v d.py := by
  rcases h with h | ⟨a, xs, es, e1, e2, e3, e4⟩
  · exact (h.mono s).dp
  · cases e1; cases e2; exact .lst (Evl.sq_of e3) (e4.mono s).dp
theorem RpS.of (h : Rp K B v d) : RpS K B H v d := .inl h
theorem ResP.int {i : Int} (h : ResP K H B Q (.val (.int i))) (s : Sub B H) : Q (.int i) H := h _ _ _ (Gr.refl s) (.int i)
theorem ResP.str {i : Str} (h : ResP K H B Q (.val (.str i))) (s : Sub B H) : Q (.str i) H := h _ _ _ (Gr.refl s) (.str i)
theorem ResP.bl {i : Bool} (h : ResP K H B Q (.val (.bl i))) (s : Sub B H) : Q (.bl i) H := h _ _ _ (Gr.refl s) (.bl i)
theorem ResP.non (h : ResP K H B Q (.val .non)) (s : Sub B H) : Q .non H := h _ _ _ (Gr.refl s) .non
theorem ResP.rp (h : ResP K H B Q (.val d)) (s : Sub B H) (r : Rp K B v d) : Q v H := h _ _ _ (Gr.refl s) r
/-- a new list -/
theorem ResP.lst {xs : List V} {ds : List D} (h : ResP K H B Q (.new (.lst ds))) (s : Sub B H) (r : RpA K B xs ds) {p : Addr} (n : H p = none) : Q (.ref p) (upd H p (.lst xs)) :=
  h p _ _ _ (Gr.newH s n) n upd_same (s.none n) ⟨xs, rfl, r⟩
/-- a new tuple -/
theorem ResP.tup {xs : List V} {ds : List D} (h : ResP K H B Q (.val (.tup ds))) (s : Sub B H) (r : RpA K B xs ds) {p : Addr} (n : H p = none) : Q (.ref p) (upd H p (.tup xs)) :=
  h _ _ _ (Gr.new s n) (.tup upd_same (r.mono (Sub.new (s.none n))))
end

def BO.op : BO → Operator
  | .add => .Add | .sub => .Sub | .mul => .Mult | .fdiv => .FloorDiv | .mod => .Mod | .pow => .Pow
def CO.op : CO → CmpOp
  | .eq => .Eq | .ne => .NotEq | .lt => .Lt | .le => .LtE | .gt => .Gt | .ge => .GtE | .is_ => .Is | .isn => .IsNot | .in_ => .In | .nin => .NotIn

/-! ### a tuple times 1 -/
theorem tup_by_one (l : Addr) (items : Array Value) (n : Nat) (u : Tok) :
    Meets (Builtin.«tuple.__mul__» ⟨[.ref l, .int 1 u], []⟩) (fun _ R s => (∃ dd sl, s.heap.get? l = some { cls := .type "tuple", dict := dd, data := .seq items n, slots := sl }) ∧ R (.ok (.ret (Value.ref l))) s) :=
  .of_wp fun prog w A R s h => by
    obtain ⟨hp, g, d, tk, os⟩ := s
    obtain ⟨⟨dd, sl, hl⟩, h⟩ := h
    have f1 := AutoSeq1.idx_int
    have c0 : (decide ((1 : Int) < -(2 ^ 63)) || decide ((1 : Int) ≥ 2 ^ 63)) = false := by decide
    have c1 : (items.isEmpty || ((1 : Int) == 1)) = true := by rw [Bool.or_eq_true]; right; decide
    wp_walk using wpAny_loadPart' hl
    repeat (first
      | (refine wpAny_ite_false (decide_eq_false (by rw [c0]; exact Bool.false_ne_true)) ?_; wp_walk using wpAny_loadPart' hl)
      | (refine wpAny_ite_true (decide_eq_true (by rw [c1])) ?_; wp_walk using wpAny_loadPart' hl))
    exact ⟨_, rfl, h⟩
section
variable {X : Cx}
/-- t * 1 is t -/
theorem op_tup1 : OpR X (binaryOp .Mult) (fun x y H Q => ∃ l xs, x = .ref l ∧ y = .int 1 ∧ SqT X.K H l xs ∧ Q (.ref l) H) := by
  intro pins s σ H x y v u Q I rx ry h
  obtain ⟨l, xs, rfl, rfl, hT, q⟩ := h
  cases rx
  obtain ⟨t, rfl⟩ := ry
  obtain ⟨its, r, ⟨⟨cls, dd, data, sl⟩, ho, hc, n, hd⟩, hs⟩ := I.tuple hT
  simp only at hc hd
  subst hc hd
  exact wpAny_binaryOp_repeat_ref (T := "tuple") (U := "int") (by decide) ⟨_, ho, rfl⟩ (fun s' => typeIs_int s' 1 t) noFill_tuple_mul F.fills_int_mul F.slot_int_rmul repeat_tuple F.slot_int_index.lookup
    (call_meets F.slot_int_rmul (typeIs_int s 1 t) F.entry_int_rmul (F.args_int_rmul_2 _ _) (int_rmul_tuple 1 t l its.toArray n dd sl)
      ⟨ho, rfl, ⟨_, ho, rfl⟩, call_meets F.slot_tuple_mul ⟨_, ho, rfl⟩ F.entry_tuple_mul (F.args_tuple_mul_2 _ _) (tup_by_one l its.toArray n t) ⟨⟨dd, sl, ho⟩, ⟨.ref l, H, I, rfl, q⟩⟩⟩)
/-- // by any number but 0 that is not too great -/
theorem op_fdivA : OpR X (binaryOp .FloorDiv) (rI (fun _ j => j ≠ 0 ∧ j.natAbs.log2 < 9000) fun i j => .int (i.fdiv j)) :=
  opI fun _ _ _ _ _ _ _ hc q => floordiv_int hc.1 q (.inl (PyProof.noPylong_of_log2 hc.2))
theorem op_powA : OpR X (binaryOp .Pow) (rI (fun i j => 2 ≤ i ∧ 1 ≤ j ∧ j ≤ 1000 ∧ i.natAbs.log2 < 4000) fun i j => .int (i ^ j.toNat)) :=
  opI fun i j _ _ _ _ _ hc q => pow_int (by omega) (by
    obtain ⟨_, h1, h2, h3⟩ := hc
    have hb : (Builtin.Int.intBits i : Int) ≤ 4000 := by
      unfold Builtin.Int.intBits
      split <;> omega
    have h4 : (Builtin.Int.intBits i : Int) * j ≤ 4000 * 1000 := Int.mul_le_mul hb h2 (by omega) (by omega)
    omega) q
theorem ok_lay : ∀ (n : Nat) (d : D), d.ok n = true → d.py.canLay0 = true ∧ d.py.depth ≤ n := by
  have all : ∀ (n : Nat), (∀ d : D, d.ok n = true → d.py.canLay0 = true ∧ d.py.depth ≤ n) → ∀ ds : List D, ds.all (D.ok n) = true → PyData.canLayAll0 (D.pyA ds) = true ∧ PyData.depthAll (D.pyA ds) ≤ n := by
    intro n ih ds
    induction ds with
    | nil => intro _; exact ⟨by simp [D.pyA, PyData.canLayAll0], by simp [D.pyA, PyData.depthAll]⟩
    | cons d ds ihd =>
      intro h
      rw [List.all_cons, Bool.and_eq_true] at h
      obtain ⟨h1, h2⟩ := ih d h.1
      obtain ⟨h3, h4⟩ := ihd h.2
      refine ⟨by simp [D.pyA, PyData.canLayAll0, h1, h3], ?_⟩
      simp only [D.pyA, PyData.depthAll]
      omega
  intro n
  induction n with
  | zero =>
    intro d h
    cases d <;> simp_all [D.ok, D.py, PyData.canLay0, PyData.depth]
  | succ n ih =>
    intro d h
    cases d with
    | tup ds =>
      obtain ⟨h1, h2⟩ := all n ih ds (by simpa [D.ok] using h)
      exact ⟨by simpa [D.py, PyData.canLay0] using h1, by simp only [D.py, PyData.depth]; omega⟩
    | lst ds =>
      obtain ⟨h1, h2⟩ := all n ih ds (by simpa [D.ok] using h)
      exact ⟨by simpa [D.py, PyData.canLay0] using h1, by simp only [D.py, PyData.depth]; omega⟩
    | _ => simp_all [D.ok, D.py, PyData.canLay0, PyData.depth]
theorem ok_layA (n : Nat) : ∀ ds : List D, ds.all (D.ok n) = true → PyData.canLayAll0 (D.pyA ds) = true
  | [], _ => by simp [D.pyA, PyData.canLayAll0]
  | d :: ds, h => by
    rw [List.all_cons, Bool.and_eq_true] at h
    simp [D.pyA, PyData.canLayAll0, (ok_lay n d h.1).1, ok_layA n ds h.2]
theorem ok_shaped {d : D} (h : d.ok 9 = true) : SeqAt.shaped d.py = true := by
  obtain ⟨h1, h2⟩ := ok_lay 9 d h
  unfold SeqAt.shaped
  rw [h1, decide_eq_true (show d.py.depth ≤ 64 by omega)] <;> rfl
theorem any_py (f : PyData → Bool) : ∀ ds : List D, (D.pyA ds).any f = ds.any fun d => f d.py
  | [] => rfl
  | d :: ds => by simp only [D.pyA, List.any_cons, any_py f ds]

/-! ### the two-place operators -/
def rBin (K : PySem.W.Frag) (o : BO) : R2 := fun x y H Q => ∃ B d e z, Sub B H ∧ RpS K B H x d ∧ RpS K B H y e ∧ binOp o d e = some z ∧ ResP K H B Q z
theorem lim_le {n : Nat} (h : n ≤ lim) : n ≤ sizeLine := Nat.le_trans h lim_line
theorem RpA.flat {K : PySem.W.Frag} {B : Hp} {xs : List V} {ds : List D} (r : RpA K B xs ds) : ∀ k : Nat, RpA K B (List.replicate k xs).flatten (List.replicate k ds).flatten
  | 0 => .nil
  | k + 1 => by
    rw [List.replicate_succ, List.replicate_succ, List.flatten_cons, List.flatten_cons]
    exact r.app (r.flat k)
theorem bin_ok (o : BO) : OpR X (binaryOp o.op) (rBin X.K o) := by
  intro pins s σ H x y v u Q I rx ry h
  obtain ⟨B, d, e, z, sb, hx, hy, hz, q⟩ := h
  unfold binOp at hz
  split at hz
  · cases hz; cases hx.int; cases hy.int
    exact op_add pins s σ H _ _ v u Q I rx ry ⟨_, _, rfl, rfl, q.int sb⟩
  · split at hz
    · cases hz; cases hx.str; cases hy.str
      exact op_add_str pins s σ H _ _ v u Q I rx ry ⟨_, _, rfl, rfl, lim_le (by assumption), q.str sb⟩
    · cases hz
  · split at hz
    · cases hz
      obtain ⟨a, xs, rfl, h1, r1⟩ := hx.lst sb
      obtain ⟨b, ys, rfl, h2, r2⟩ := hy.lst sb
      exact op_cat pins s σ H _ _ v u Q I rx ry ⟨a, b, xs, ys, rfl, rfl, h1, h2, by rw [r1.length, r2.length]; exact lim_le (by assumption), fun p n => q.lst sb (r1.app r2) n⟩
    · cases hz
  · split at hz
    · cases hz
      obtain ⟨a, xs, rfl, h1, r1⟩ := hx.tup sb
      obtain ⟨b, ys, rfl, h2, r2⟩ := hy.tup sb
      refine op_catA pins s σ H _ _ v u Q I rx ry ⟨a, b, xs, ys, rfl, rfl, h1, h2, by rw [r1.length, r2.length]; exact lim_le (by assumption), fun e => ?_, fun _ e => ?_, fun _ _ p n => q.tup sb (r1.app r2) n⟩
      · subst e
        cases r1
        rcases hy with hy | ⟨_, _, _, _, w, _⟩
        · exact q.rp sb hy
        · cases w
      · subst e
        cases r2
        rw [List.append_nil] at q
        rcases hx with hx | ⟨_, _, _, _, w, _⟩
        · exact q.rp sb hx
        · cases w
    · cases hz
  · cases hz; cases hx.int; cases hy.int
    exact op_sub pins s σ H _ _ v u Q I rx ry ⟨_, _, rfl, rfl, q.int sb⟩
  · split at hz
    · cases hz; cases hx.int; cases hy.int
      exact op_mulW pins s σ H _ _ v u Q I rx ry ⟨_, _, rfl, rfl, by assumption, q.int sb⟩
    · cases hz
  · split at hz
    · cases hz
      rename_i xs k hc
      obtain ⟨a, xs', rfl, h1, r1⟩ := hx.lst sb
      cases hy.int
      refine op_rep pins s σ H _ _ v u Q I rx ry ⟨a, k, xs', rfl, rfl, h1, by omega, by omega, ?_, fun p n => q.lst sb (r1.flat _) n⟩
      rw [r1.length]
      have a1 : xs.length * k.toNat ≤ 1000 * 1000 := Nat.mul_le_mul hc.2.2 (by omega)
      rw [sizeLine_eq]
      omega
    · cases hz
  · split at hz
    · cases hz
      rename_i xs k hc
      obtain ⟨hne, hk1, hk2, hl⟩ := hc
      obtain ⟨a, xs', rfl, h1, r1⟩ := hx.tup sb
      cases hy.int
      by_cases hk : k = 1
      · subst hk
        refine op_tup1 pins s σ H _ _ v u Q I rx ry ⟨a, xs', rfl, rfl, h1, ?_⟩
        have e : (List.replicate (1 : Int).toNat xs).flatten = xs := by simp
        rw [e] at q
        rcases hx with hx | ⟨_, _, _, _, w, _⟩
        · exact q.rp sb hx
        · cases w
      · refine op_repT pins s σ H _ _ v u Q I rx ry ⟨a, k, xs', rfl, rfl, h1, fun e => hne ?_, by omega, hk2, by rw [r1.length]; exact hl, fun p n => q.tup sb (r1.flat _) n⟩
        subst e
        cases r1
        rfl
    · cases hz
  · split at hz
    · cases hz; cases hx.int; cases hy.int
      exact op_fdivA pins s σ H _ _ v u Q I rx ry ⟨_, _, rfl, rfl, by assumption, q.int sb⟩
    · cases hz
  · split at hz
    · cases hz; cases hx.int; cases hy.int
      exact op_modN pins s σ H _ _ v u Q I rx ry ⟨_, _, rfl, rfl, by assumption, q.int sb⟩
    · cases hz
  · split at hz
    · cases hz; cases hx.int; cases hy.int
      exact op_powA pins s σ H _ _ v u Q I rx ry ⟨_, _, rfl, rfl, by assumption, q.int sb⟩
    · cases hz
  · cases hz

/-! ### comparisons -/
def rCmp (K : PySem.W.Frag) (o : CO) : R2 := fun x y H Q => ∃ B d e z, Sub B H ∧ RpS K B H x d ∧ RpS K B H y e ∧ cmpOp o d e = some z ∧ Q (.bl z) H
theorem intsOf_map : ∀ {ds : List D} {ns : List Int}, intsOf ds = some ns → ds = ns.map D.int
  | [], ns, h => by cases h; rfl
  | d :: ds, ns, h => by
    unfold intsOf at h
    cases d <;> simp only [D.toInt?] at h <;> try (exact absurd h (by simp))
    rename_i i
    cases e : intsOf ds with
    | none => rw [e] at h; exact absurd h (by simp)
    | some ms =>
      rw [e] at h
      cases h
      rw [intsOf_map e]; rfl
theorem blsOf_map : ∀ {ds : List D} {ns : List Bool}, blsOf ds = some ns → ds = ns.map D.bl
  | [], ns, h => by cases h; rfl
  | d :: ds, ns, h => by
    unfold blsOf at h
    cases d <;> simp only [D.toBl?] at h <;> try (exact absurd h (by simp))
    rename_i i
    cases e : blsOf ds with
    | none => rw [e] at h; exact absurd h (by simp)
    | some ms =>
      rw [e] at h
      cases h
      rw [blsOf_map e]; rfl
theorem room9 {A : Around} {a b : PyData} (h : a.depth ≤ 9) (hu : A.units + 65 < cLine) : A.units + 1 + min b.depth a.depth < cLine := by
  have := Nat.min_le_right b.depth a.depth
  omega
theorem cmp_ok (o : CO) (hu : X.A.units + 65 < cLine) : OpR X (compareOp o.op) (rCmp X.K o) := by
  intro pins s σ H x y v u Q I rx ry h
  obtain ⟨B, d, e, z, sb, hx, hy, hz, q⟩ := h
  have eqs : ∀ {r : Bool}, eqOp d e = some r → SeqAt.shaped d.py = true ∧ SeqAt.shaped e.py = true ∧ r = PyData.eqv d.py e.py := by
    intro r h
    unfold eqOp at h
    split at h
    · rename_i hc
      rw [Bool.and_eq_true] at hc
      cases h
      exact ⟨ok_shaped hc.1, ok_shaped hc.2, rfl⟩
    · cases h
  have ins : ∀ {r : Bool}, inOp d e = some r → ∃ ds, (e = .lst ds ∨ e = .tup ds) ∧ d.ok 9 = true ∧ ds.all (D.ok 9) = true ∧ r = (D.pyA ds).any fun z => PyData.eqv z d.py := by
    intro r h
    unfold inOp at h
    split at h
    · rename_i ds hs
      split at h
      · rename_i hc
        rw [Bool.and_eq_true] at hc
        cases h
        refine ⟨ds, ?_, hc.1, hc.2, (any_py (fun z => PyData.eqv z d.py) ds).symm⟩
        unfold D.seq? at hs
        split at hs <;> cases hs
        · exact .inl rfl
        · exact .inr rfl
      · cases h
    · cases h
  unfold cmpOp at hz
  split at hz
  · obtain ⟨s1, s2, rfl⟩ := eqs hz
    exact op_eqD (by omega) pins s σ H _ _ v u Q I rx ry ⟨_, _, hx.dp sb, hy.dp sb, s1, s2, q⟩
  · cases hq : eqOp d e with
    | none => rw [hq] at hz; cases hz
    | some r =>
      rw [hq] at hz; cases hz
      obtain ⟨s1, s2, rfl⟩ := eqs hq
      exact op_neD (by omega) pins s σ H _ _ v u Q I rx ry ⟨_, _, hx.dp sb, hy.dp sb, s1, s2, q⟩
  · cases hz; cases hx.int; cases hy.int
    exact op_lt pins s σ H _ _ v u Q I rx ry ⟨_, _, rfl, rfl, q⟩
  · cases hz; cases hx.int; cases hy.int
    exact op_le pins s σ H _ _ v u Q I rx ry ⟨_, _, rfl, rfl, q⟩
  · cases hz; cases hx.int; cases hy.int
    exact op_gt pins s σ H _ _ v u Q I rx ry ⟨_, _, rfl, rfl, q⟩
  · cases hz; cases hx.int; cases hy.int
    exact op_ge pins s σ H _ _ v u Q I rx ry ⟨_, _, rfl, rfl, q⟩
  · split at hz
    · rename_i e1 e2
      cases hz
      cases intsOf_map e1
      cases intsOf_map e2
      obtain ⟨a, xs, rfl, h1, r1⟩ := hx.tup sb
      obtain ⟨b, ys, rfl, h2, r2⟩ := hy.tup sb
      cases r1.ints
      cases r2.ints
      exact op_ltT (by omega) pins s σ H _ _ v u Q I rx ry ⟨a, b, _, _, rfl, rfl, h1, h2, q⟩
    · cases hz
  · cases hz
    cases hy.non
    refine op_isN pins s σ H _ _ v u Q I rx ry ⟨rfl, ?_⟩
    have e : decide (x = V.non) = d.isNon := by
      rcases hx with hx | ⟨a, xs, ds, rfl, rfl, _⟩
      · cases hx <;> rfl
      · rfl
    rw [e]; exact q
  · cases hz
    cases hy.non
    refine op_notN pins s σ H _ _ v u Q I rx ry ⟨rfl, ?_⟩
    have e : (!decide (x = V.non)) = !d.isNon := by
      rcases hx with hx | ⟨a, xs, ds, rfl, rfl, _⟩
      · cases hx <;> rfl
      · rfl
    rw [e]; exact q
  · obtain ⟨ds, hd, o1, o2, rfl⟩ := ins hz
    obtain ⟨as, r1⟩ := Dp.reads I d.py x v (hx.dp sb) rx
    obtain ⟨bs, r2⟩ := Dp.reads I e.py y u (hy.dp sb) ry
    obtain ⟨l1, l2⟩ := ok_lay 9 d o1
    have l3 := ok_layA 9 ds o2
    have rm : X.A.units + 1 + min (PyData.depthAll (D.pyA ds)) d.py.depth < cLine := by
      have := Nat.min_le_right (PyData.depthAll (D.pyA ds)) d.py.depth
      omega
    rcases hd with rfl | rfl
    · exact SeqAt.in_list_reads r2 r1 l3 l1 rm ⟨.bl _, H, I, rfl, q⟩
    · exact SeqAt.in_tuple_reads r2 r1 l3 l1 rm ⟨.bl _, H, I, rfl, q⟩
  · cases hq : inOp d e with
    | none => rw [hq] at hz; cases hz
    | some r =>
      rw [hq] at hz; cases hz
      obtain ⟨ds, hd, o1, o2, rfl⟩ := ins hq
      obtain ⟨as, r1⟩ := Dp.reads I d.py x v (hx.dp sb) rx
      obtain ⟨bs, r2⟩ := Dp.reads I e.py y u (hy.dp sb) ry
      obtain ⟨l1, l2⟩ := ok_lay 9 d o1
      have l3 := ok_layA 9 ds o2
      have rm : X.A.units + 1 + min (PyData.depthAll (D.pyA ds)) d.py.depth < cLine := by
        have := Nat.min_le_right (PyData.depthAll (D.pyA ds)) d.py.depth
        omega
      rcases hd with rfl | rfl
      · exact SeqAt.notIn_list_reads r2 r1 l3 l1 rm ⟨.bl _, H, I, rfl, q⟩
      · exact SeqAt.notIn_tuple_reads r2 r1 l3 l1 rm ⟨.bl _, H, I, rfl, q⟩
  · cases hz
end
end Mi

/-! Mi4: the built-ins do what the evaluator says. -/
namespace Mi
open PySem PySem.Spec PyProof.Rows L2

/-! ### sum of lists -/
section
variable {prog : Program} {w : World} {A : Around} {R : Result → Shared → Prop} {I : Addr} {fp wr : List Addr} {n : Nat} {P : Nat → Value → Prop} {St : Nat → Heap → Prop}
/-- what a list holds, whatever its bookkeeping -/
abbrev Holds (h : Heap) (a : Addr) (vs : List Value) : Prop := ∃ c, h.get? a = some { cls := .type "list", dict := none, data := .seq vs.toArray c, slots := #[] }
theorem args_sum2 (a b : Value) : argsOk "sum" ⟨[a, b], []⟩ := by unfold argsOk; kernel_rfl
theorem code_sum_lists (W : Walks prog w A.in1 I fp wr n P St) (row : Nat → List Value) (h0 : Heap) (hval : ∀ i v, i < n → P i v → ∃ a, v = .ref a ∧ Holds h0 a (row i)) (hwr : ∀ b ∈ wr, h0.get? b = none) (S : Addr) (hSf : S ∉ fp) (hS0 : h0.get? S = none) (hIf : I ∈ fp) (hal : ∀ i h, St i h → ∀ b ∈ fp, ∃ o, h.get? b = some o)
    (hsz : ((List.range n).map fun i => (row i).length).sum ≤ sizeLine) :
    ∀ (k i : Nat) (s : Shared) (st : Int) (p : Addr) (c : Nat), n - i = k → i ≤ n → St i s.heap → (∀ b o, h0.get? b = some o → s.heap.get? b = some o) → (p ∉ fp) → (p ≠ S) → Holds s.heap p ((List.range i).map row).flatten →
    s.heap.get? S = some { cls := .type "list", dict := none, data := .seq #[.ref p] c, slots := #[] } → (st = 2) →
    (∀ h' tk q, (∀ b o, h0.get? b = some o → h'.get? b = some o) → (∀ b o, b ∉ wr → b ≠ S → s.heap.get? b = some o → h'.get? b = some o) → Holds h' q ((List.range n).map row).flatten → (i = n → q = p) → (i < n → I < q) → R (.ok (.ret (.ref q))) { s with heap := h', toks := tk }) →
    codeAny (model prog w) A (.builtin "sum.loop" ⟨[.ref I, .ref S, rawInt st, rawInt 0], []⟩) R s := by
  have hSw : S ∉ wr := fun h => hSf (W.sub _ h)
  intro k
  induction k with
  | zero =>
    intro i s st p c hk hi hst hold hpf hpS hp hS hs2 hR
    have hin : i = n := by omega
    subst hin
    refine codeAny_builtin F.entry_sum_loop ?_
    rw [Around.under_plainId F.plain_sum_loop _]
    show wpAny _ A.in1 (seqItems? (.ref S) >>= _) _ _ s
    refine wpAny_bind (wpAny_seqItems hS rfl ?_)
    show wpAny _ A.in1 (tryCatch (pyNext (.ref I)) _ >>= _) _ _ s
    refine wpAny_bind (wpAny_tryCatch (W.done s _ _ hst fun h' tk hk' => ?_))
    have nw : ∀ b o, h0.get? b = some o → b ∉ wr := fun b o e hb => by rw [hwr b hb] at e; cases e
    obtain ⟨c2, hp2⟩ := hp
    exact wpAny_pure (hR h' tk p (fun b o e => hk' b o (nw b o e) (hold b o e)) (fun b o hb _ e => hk' b o hb e) ⟨c2, hk' p _ (fun hb => hpf (W.sub _ hb)) hp2⟩ (fun _ => rfl) fun h => absurd h (Nat.lt_irrefl _))
  | succ k ih =>
    intro i s st p c hk hi hst hold hpf hpS hp hS hs2 hR
    subst hs2
    have hlt : i < n := by omega
    have nw : ∀ b o, h0.get? b = some o → b ∉ wr := fun b o e hb => by rw [hwr b hb] at e; cases e
    refine codeAny_builtin F.entry_sum_loop ?_
    rw [Around.under_plainId F.plain_sum_loop _]
    show wpAny _ A.in1 (seqItems? (.ref S) >>= _) _ _ s
    refine wpAny_bind (wpAny_seqItems hS rfl ?_)
    show wpAny _ A.in1 (tryCatch (pyNext (.ref I)) _ >>= _) _ _ s
    refine wpAny_bind (wpAny_tryCatch (W.item i s _ _ hlt hst fun v h' tk hP hst' hk' => ?_))
    obtain ⟨a, rfl, ca, ha⟩ := hval i v hlt hP
    obtain ⟨c2, hp2⟩ := hp
    have hS' := hk' S _ hSw hS
    have hp' := hk' p _ (fun hb => hpf (W.sub _ hb)) hp2
    have ha' := hk' a _ (nw a _ ha) (hold a _ ha)
    have e1 : ((List.range (i + 1)).map row).flatten = ((List.range i).map row).flatten ++ row i := by
      rw [List.range_succ, List.map_append, List.flatten_append]
      simp
    have len : ∀ (j : Nat), ((List.range j).map row).flatten.length = ((List.range j).map fun i => (row i).length).sum := by
      intro j
      rw [List.length_flatten, List.map_map]; rfl
    have mono : ∀ (d j : Nat), ((List.range j).map fun i => (row i).length).sum ≤ ((List.range (j + d)).map fun i => (row i).length).sum := by
      intro d j
      induction d with
      | zero => exact Nat.le_refl _
      | succ d ihd =>
        rw [show j + (d + 1) = (j + d) + 1 by omega, List.range_succ, List.map_append, List.sum_append]
        omega
    have hz : (((List.range i).map row).flatten ++ row i).length ≤ sizeLine := by
      rw [← e1, len]
      have := mono (n - (i + 1)) (i + 1)
      rw [show i + 1 + (n - (i + 1)) = n by omega] at this
      omega
    show wpAny _ A.in1 ((holding [Value.ref a] (binaryOp .Add (.ref p) (.ref a))).attempt >>= _) _ _ _
    refine wpAny_bind (wpAny_attempt (wpAny_holding ?_))
    refine PySem.P.add_list hp' ha' ?_ (by rw [List.size_toArray, List.size_toArray]; rw [List.length_append] at hz; omega)
    generalize hh1 : h'.push { cls := .type "list", data := .seq (((List.range i).map row).flatten.toArray ++ (row i).toArray) } = h1
    have k1 : ∀ b o, h'.get? b = some o → h1.get? b = some o := fun b o e => by rw [← hh1]; exact Heap.get?_push_of_some _ e
    have hq1 : h1.get? h'.objs.size = some { cls := .type "list", data := .seq (((List.range i).map row).flatten.toArray ++ (row i).toArray) } := by rw [← hh1]; exact Heap.get?_push_size _ rfl
    have hq2 : h1.get? h'.objs.size = some { cls := .type "list", data := .seq ((List.range (i + 1)).map row).flatten.toArray } := by
      rw [hq1, e1, List.append_toArray]
    have hS1 := k1 S _ hS'
    have nS : h'.objs.size ≠ S := fun e => by
      have := Heap.lt_size hS'
      rw [e] at this; exact absurd this (Nat.lt_irrefl _)
    show wpAny _ A.in1 (updateSeq S (fun _ => #[Value.ref h'.objs.size]) >>= _) _ _ _
    refine wpAny_bind (wpAny_updateSeq hS1 rfl ?_)
    have hS2 := Heap.get?_update_self (Obj.mapSeq fun _ => #[Value.ref h'.objs.size]) hS1 rfl
    refine wpAny_bind (wpAny_letGo ?_)
    have up : ∀ b o, b ≠ S → h1.get? b = some o → ((h1.update S (Obj.mapSeq fun _ => #[Value.ref h'.objs.size])).update S (Obj.mapSeq fun _ => #[Value.ref h'.objs.size])).get? b = some o := fun b o hb e =>
      (Heap.get?_update_other _ _ (Ne.symm hb)).trans ((Heap.get?_update_other _ _ (Ne.symm hb)).trans e)
    have nfp : h'.objs.size ∉ fp := fun hb => by
      obtain ⟨o, e⟩ := hal _ _ hst' _ hb
      exact absurd (Heap.lt_size e) (Nat.lt_irrefl _)
    have old : ∀ b o, b ∉ wr → b ≠ S → s.heap.get? b = some o → ((h1.update S (Obj.mapSeq fun _ => #[Value.ref h'.objs.size])).update S (Obj.mapSeq fun _ => #[Value.ref h'.objs.size])).get? b = some o :=
      fun b o hb hs e => up b o hs (k1 b o (hk' b o hb e))
    have hst2 : St (i + 1) ((h1.update S (Obj.mapSeq fun _ => #[Value.ref h'.objs.size])).update S (Obj.mapSeq fun _ => #[Value.ref h'.objs.size])) :=
      W.frame _ _ _ hst' fun b hb o e => up b o (fun z => hSf (z ▸ hb)) (k1 b o e)
    refine wpAny_bind (wpAny_updateSeq hS2 rfl (wpAny_pure ⟨plainId_quiet F.plain_sum_loop _, ?_⟩))
    refine ih (i + 1) _ 2 h'.objs.size _ (by omega) hlt hst2 (fun b o e => old b o (nw b o e) (fun z => by rw [z, hS0] at e; cases e) (hold b o e)) nfp nS ⟨_, up _ _ nS hq2⟩ (Heap.get?_update_self _ hS2 rfl) rfl ?_
    intro h'' tk'' q a1 a2 a3 a4 a5
    refine hR h'' tk'' q a1 (fun b o hb hs e => a2 b o hb hs (old b o hb hs e)) a3 (fun z => absurd z (by omega)) fun _ => ?_
    by_cases hin : i + 1 = n
    · have e := a4 hin
      subst e
      obtain ⟨o, e⟩ := hal _ _ hst' I hIf
      exact Heap.lt_size e
    · exact a5 (by omega)
end
section
variable {prog : Program} {w : World} {A : Around} {E : Value → Shared → Prop} {s : Shared}
/-- sum(l, start), l a list of lists, start a list without items: start itself, or a new list -/
theorem call_sum_lists {l st : Addr} {as : List Addr} {rows : List (List Value)} {n c : Nat} {Q : Value → Shared → Prop} (hh : A.handled = none) (hl0 : l ≠ st)
    (hl : s.heap.get? l = some { cls := .type "list", dict := none, data := .seq (as.map Value.ref).toArray n, slots := #[] })
    (hst : s.heap.get? st = some { cls := .type "list", dict := none, data := .seq #[] c, slots := #[] })
    (hr : Paired (fun (a : Addr) (vs : List Value) => Holds s.heap a vs) as rows) (hsz : rows.flatten.length ≤ sizeLine)
    (h : ∀ h' tk q, (∀ b o, s.heap.get? b = some o → h'.get? b = some o) → Holds h' q rows.flatten → (q = st ∨ s.heap.objs.size ≤ q) → Q (.ref q) { s with heap := h', toks := tk }) :
    wpAny (model prog w) A (call (.builtin "sum") [.ref l, .ref st]) Q E s := by
  have hlist : s.heap.IsList l (as.map Value.ref).toArray := ⟨_, hl, rfl, n, rfl⟩
  have hlt : l < s.heap.objs.size := Heap.lt_size hl
  have stt : ∀ s' : Shared, (∀ b o, s.heap.get? b = some o → s'.heap.get? b = some o) → s'.TypeIs (.ref st) "list" := fun s' k => ⟨_, k _ _ hst, rfl⟩
  have hlen : rows.length = as.length := (Paired.length hr).symm
  refine call_function_tree F.kind_sum F.plain_sum F.entry_sum (args_sum2 _ _) ?_
  unfold Builtin.«sum»
  simp only [List.length_cons, List.length_nil]
  rw [if_neg (by decide)]
  refine wpAny_bind (wpAny_of_eq (show Builtin.Builtins.bindParams "sum" ["start"] 0 ⟨[.ref st], []⟩ = pure [some (.ref st)] from rfl) ?_)
  refine wpAny_bind (wpAny_pyIter_list hlist ?_)
  generalize hs2 : ({ s with heap := s.heap.push { cls := .type "list_iterator", data := .fields #[.ref l, .int 0 0] } } : Shared) = s₂
  have k2 : ∀ b o, s.heap.get? b = some o → s₂.heap.get? b = some o := fun b o e => by rw [← hs2]; exact Heap.get?_push_of_some _ e
  refine wpAny_bind (wpAny_pure ?_)
  simp only [List.forIn_cons, List.forIn_nil]
  refine wpAny_bind (wpAny_bind (wpAny_bind (wpAny_isInstance (T := "list") (b := false) (stt s₂ k2) PySem.F.sub_list_str ?_)))
  simp only [Bool.false_eq_true, if_false]
  refine wpAny_pure (wpAny_bind (wpAny_bind (wpAny_isInstance (T := "list") (b := false) (stt s₂ k2) PySem.F.sub_list_bytes ?_)))
  simp only [Bool.false_eq_true, if_false]
  refine wpAny_pure (wpAny_bind (wpAny_bind (wpAny_isInstance (T := "list") (b := false) (stt s₂ k2) PySem.F.sub_list_bytearray ?_)))
  simp only [Bool.false_eq_true, if_false]
  refine wpAny_pure (wpAny_pure ?_)
  refine wpAny_bind (wpAny_newObj_type ?_)
  have hI : s₂.heap.get? s.heap.objs.size = some { cls := .type "list_iterator", data := .fields #[.ref l, .int 0 0] } := by rw [← hs2]; exact Heap.get?_push_size _ rfl
  have lt2 : ∀ b ∈ [s.heap.objs.size, l], b < s₂.heap.objs.size := fun b hb => by
    rcases List.mem_cons.mp hb with e | hb
    · subst e; exact Heap.lt_size hI
    · rcases List.mem_cons.mp hb with e | hb
      · subst e; exact Heap.lt_size (k2 _ _ hl)
      · cases hb
  have hSf : s₂.heap.objs.size ∉ [s.heap.objs.size, l] := fun hm => Nat.lt_irrefl _ (lt2 _ hm)
  have hnl : l ≠ s.heap.objs.size := Nat.ne_of_lt hlt
  have W := Walks.list (prog := prog) (w := w) (A := A.in1) (show A.in1.handled = none from hh) s.heap.objs.size l hnl (as.map Value.ref).toArray
  have stp : ∀ (q : Shared), (∀ b o, s₂.heap.get? b = some o → q.heap.get? b = some o) → q.heap.IsListIter s.heap.objs.size l 0 ∧ q.heap.IsList l (as.map Value.ref).toArray := fun q kq =>
    ⟨⟨_, kq _ _ hI, rfl, rfl⟩, ⟨_, kq _ _ (k2 _ _ hl), rfl, n, rfl⟩⟩
  have szn : (as.map Value.ref).toArray.size = rows.length := by rw [List.size_toArray, List.length_map, hlen]
  have rowsum : ((List.range rows.length).map fun i => (rows.getD i []).length).sum = rows.flatten.length := by
    rw [List.length_flatten]
    congr 1
    refine List.ext_getElem (by simp) fun i h1 h2 => ?_
    simp at h1
    simp [h1]
  have rowall : ((List.range rows.length).map fun i => rows.getD i []).flatten = rows.flatten := by
    congr 1
    refine List.ext_getElem (by simp) fun i h1 h2 => ?_
    simp at h1
    simp [h1]
  have hS0 : s.heap.get? s₂.heap.objs.size = none := by
    cases q : s.heap.get? s₂.heap.objs.size with
    | none => rfl
    | some o => exact absurd (Heap.lt_size (k2 _ _ q)) (Nat.lt_irrefl _)
  have stne : st ≠ s.heap.objs.size := Nat.ne_of_lt (Heap.lt_size hst)
  have pairget : ∀ i a, as[i]? = some a → Holds s.heap a (rows.getD i []) := by
    intro i a e
    have : ∀ (as : List Addr) (rows : List (List Value)), Paired (fun (a : Addr) (vs : List Value) => Holds s.heap a vs) as rows → ∀ i a, as[i]? = some a → Holds s.heap a (rows.getD i []) := by
      intro as
      induction as with
      | nil => intro rows _ i a e; simp at e
      | cons x xs ih =>
        intro rows hp i a e
        cases hp with
        | cons r t =>
          cases i with
          | zero => simp at e; subst e; exact r
          | succ i => exact ih _ t i a (by simpa using e)
    exact this as rows hr i a e
  generalize hs3 : ({ s₂ with heap := s₂.heap.push { cls := .type "list", data := .seq ([Value.ref st]).toArray } } : Shared) = s₃
  have k3 : ∀ b o, s₂.heap.get? b = some o → s₃.heap.get? b = some o := fun b o e => by rw [← hs3]; exact Heap.get?_push_of_some _ e
  refine wpAny_pure ⟨plainId_quiet F.plain_sum_loop _, ?_⟩
  refine code_sum_lists W (fun i => rows.getD i []) s.heap (fun i v hi e => ?_) (fun b hb => ?_) s₂.heap.objs.size hSf hS0 List.mem_cons_self (fun i h hs b hb => ?_) (by rw [szn, rowsum]; exact hsz) _ 0 s₃ 2 st 0 rfl (Nat.zero_le _) (stp s₃ k3) (fun b o e => k3 b o (k2 b o e)) ?_ ?_ ⟨c, k3 _ _ (k2 _ _ hst)⟩ (by rw [← hs3]; exact Heap.get?_push_size _ rfl) rfl fun h' tk q a1 a2 a3 a4 a5 => ?_
  · rw [List.getElem?_toArray, List.getElem?_map] at e
    cases ei : as[i]? with
    | none => rw [ei] at e; cases e
    | some a =>
      rw [ei] at e; cases e
      exact ⟨a, rfl, pairget i a ei⟩
  · have e : b = s.heap.objs.size := by simpa using hb
    subst e
    exact Heap.get?_none_of_le (Nat.le_refl _)
  · obtain ⟨⟨o, e1, _⟩, ⟨o2, e2, _⟩⟩ := hs
    rcases List.mem_cons.mp hb with e | hb
    · subst e; exact ⟨_, e1⟩
    · rcases List.mem_cons.mp hb with e | hb
      · subst e; exact ⟨_, e2⟩
      · cases hb
  · intro hb
    rcases List.mem_cons.mp hb with e | hb
    · exact stne e
    · rcases List.mem_cons.mp hb with e | hb
      · exact hl0 e.symm
      · cases hb
  · exact Nat.ne_of_lt (Heap.lt_size (k2 _ _ hst))
  · rw [szn, rowall] at a3
    have g1 : s₃.gens = s.gens := by rw [← hs3, ← hs2]
    have g2 : s₃.drawn = s.drawn := by rw [← hs3, ← hs2]
    have g3 : s₃.os = s.os := by rw [← hs3, ← hs2]
    show Q (.ref q) { heap := h', gens := s₃.gens, drawn := s₃.drawn, toks := tk, os := s₃.os }
    rw [g1, g2, g3]
    refine h h' tk q a1 a3 ?_
    by_cases hn : rows.length = 0
    · exact .inl (a4 (by rw [szn]; omega))
    · refine .inr ?_
      exact Nat.le_of_lt (a5 (by rw [szn]; omega))
end

/-! ### the built-ins -/
inductive RpSA (K : PySem.W.Frag) (B H : Hp) : List V → List D → Prop
  | nil : RpSA K B H [] []
  | cons {v : V} {vs : List V} {d : D} {ds : List D} : RpS K B H v d → RpSA K B H vs ds → RpSA K B H (v :: vs) (d :: ds)
def BI.fn : BI → Value
  | .len => .builtin "len" | .sum => .builtin "sum" | .all => .builtin "all" | .any => .builtin "any" | .int => .type "int" | .abs => .builtin "abs"
  | .list => .type "list" | .tuple => .type "tuple" | .sorted => .builtin "sorted" | .max2 => .builtin "max" | .min2 => .builtin "min" | .max1 => .builtin "max" | .min1 => .builtin "min"
  | .repr => .builtin "repr" | .isi _ => .builtin "isinstance"
def rBi (K : PySem.W.Frag) (b : BI) : List V → Hp → VK → Prop := fun vs H Q => ∃ B ds z, Sub B H ∧ RpSA K B H vs ds ∧ biOp b ds = some z ∧ ResP K H B Q z
theorem sort_one : ∀ {as bs : List Int}, as.Perm bs → as.Pairwise (· ≤ ·) → bs.Pairwise (· ≤ ·) → as = bs := fun {as bs} h ha hb =>
  List.Perm.eq_of_pairwise (fun a b _ _ h1 h2 => Int.le_antisymm h1 h2) ha hb h
theorem sortI_perm (ns : List Int) : (sortI ns).Perm ns := List.mergeSort_perm _ _
theorem sortI_asc (ns : List Int) : (sortI ns).Pairwise (· ≤ ·) := by
  have h := List.pairwise_mergeSort (le := fun a b : Int => decide (a ≤ b)) (fun a b c h1 h2 => by simp at *; omega) (fun a b => by simp; omega) ns
  exact h.imp fun h => by simpa using h
section
variable {X : Cx}
theorem bi_ok (b : BI) (hc : X.calm = true) (hu : X.A.units + 65 < cLine) (hg : X.A.guards = some []) (nisi : ∀ t, b ≠ .isi t) : CallR X b.fn (rBi X.K b) := by
  intro pins s σ H xs us Q I r h
  obtain ⟨B, ds, z, sb, hx, hz, q⟩ := h
  unfold biOp at hz
  split at hz
  · cases hz
    cases hx with
    | cons h1 t => cases t; obtain ⟨a, ys, rfl, h2, r2⟩ := h1.tup sb; exact call_len_seq pins s σ H _ us Q I r ⟨a, ys, rfl, .inr h2, by rw [r2.length]; exact q.int sb⟩
  · cases hz
    cases hx with
    | cons h1 t => cases t; obtain ⟨a, ys, rfl, h2, r2⟩ := h1.lst sb; exact call_len_seq pins s σ H _ us Q I r ⟨a, ys, rfl, .inl (Evl.sq_of h2), by rw [r2.length]; exact q.int sb⟩
  · cases hz
    cases hx with
    | cons h1 t => cases t; obtain ⟨a, rfl, h2⟩ := h1.scr sb; exact call_len_seq pins s σ H _ us Q I r ⟨a, _, rfl, .inl h2, by rw [List.length_map]; exact q.int sb⟩
  · split at hz
    · cases hz
      cases hx with
      | cons h1 t => cases t; cases h1.str; exact call_len_str pins s σ H _ us Q I r ⟨_, rfl, lim_le (by assumption), q.int sb⟩
    · cases hz
  · split at hz
    · cases hz
      rename_i e
      cases intsOf_map e
      cases hx with
      | cons h1 t => cases t; obtain ⟨a, ys, rfl, h2, r2⟩ := h1.lst sb; cases r2.ints; exact cr_sum hc pins s σ H _ us Q I r ⟨a, _, rfl, Evl.sq_of h2, q.int sb⟩
    · cases hz
  · split at hz
    · cases hz
      rename_i e
      cases blsOf_map e
      cases hx with
      | cons h1 t => cases t; obtain ⟨a, ys, rfl, h2, r2⟩ := h1.lst sb; cases r2.bls; exact cr_all hc pins s σ H _ us Q I r ⟨a, _, rfl, Evl.sq_of h2, q.bl sb⟩
    · cases hz
  · split at hz
    · cases hz
      rename_i e
      cases blsOf_map e
      cases hx with
      | cons h1 t => cases t; obtain ⟨a, ys, rfl, h2, r2⟩ := h1.lst sb; cases r2.bls; exact cr_any hc pins s σ H _ us Q I r ⟨a, _, rfl, Evl.sq_of h2, q.bl sb⟩
    · cases hz
  · cases hz
    cases hx with
    | cons h1 t => cases t; cases h1.int; exact call_int1 pins s σ H _ us Q I r (.inl ⟨_, rfl, q.int sb⟩)
  · cases hz
    cases hx with
    | cons h1 t => cases t; cases h1.bl; exact call_int1 pins s σ H _ us Q I r (.inr ⟨_, rfl, q.int sb⟩)
  · cases hz
    cases hx with
    | cons h1 t => cases t; cases h1.int; exact call_abs pins s σ H _ us Q I r ⟨_, rfl, q.int sb⟩
  · cases hz
    cases hx with
    | cons h1 t => cases t; obtain ⟨a, ys, rfl, h2, r2⟩ := h1.lst sb; exact call_list_of pins s σ H _ us Q I r ⟨a, ys, rfl, .inl (Evl.sq_of h2), fun l hl => q.lst sb r2 hl⟩
  · cases hz
    cases hx with
    | cons h1 t => cases t; obtain ⟨a, ys, rfl, h2, r2⟩ := h1.tup sb; exact call_list_of pins s σ H _ us Q I r ⟨a, ys, rfl, .inr h2, fun l hl => q.lst sb r2 hl⟩
  · cases hz
    cases hx with
    | cons h1 t => cases t; obtain ⟨a, ys, rfl, h2, r2⟩ := h1.lst sb; exact call_tuple_of pins s σ H _ us Q I r ⟨a, ys, rfl, .inl ⟨Evl.sq_of h2, fun l hl => q.tup sb r2 hl⟩⟩
  · cases hz
    cases hx with
    | cons h1 t =>
      cases t; obtain ⟨a, ys, rfl, h2, r2⟩ := h1.tup sb
      refine call_tuple_of pins s σ H _ us Q I r ⟨a, ys, rfl, .inr ⟨h2, ?_⟩⟩
      rcases h1 with h1 | ⟨_, _, _, _, w, _⟩
      · exact q.rp sb h1
      · cases w
  · split at hz
    · cases hz
      rename_i e
      cases intsOf_map e
      rename_i ns
      cases hx with
      | cons h1 t =>
        cases t; obtain ⟨a, ys, rfl, h2, r2⟩ := h1.lst sb; cases r2.ints
        refine cr_sortedI pins s σ H _ us Q I r ⟨a, _, rfl, Evl.sq_of h2, fun ns' p hp hs n => ?_⟩
        have e2 : ns' = sortI ns := sort_one (hp.trans (sortI_perm ns).symm) hs (sortI_asc ns)
        rw [e2]
        exact q.lst sb (RpA.ofInts _) n
    · cases hz
  · cases hz
    cases hx with
    | cons h1 t => cases t with | cons h2 t => cases t; cases h1.int; cases h2.int; exact call_max2 hc pins s σ H _ us Q I r ⟨_, _, rfl, q.int sb⟩
  · cases hz
    cases hx with
    | cons h1 t => cases t with | cons h2 t => cases t; cases h1.int; cases h2.int; exact call_min2 hc pins s σ H _ us Q I r ⟨_, _, rfl, q.int sb⟩
  · split at hz
    · cases hz
      rename_i d hk
      simp only [D.okRepr, Bool.and_eq_true, decide_eq_true_eq, Bool.not_eq_true'] at hk
      obtain ⟨⟨⟨⟨k1, k2⟩, k3⟩, k4⟩, k5⟩ := hk
      cases hx with
      | cons h1 t =>
        cases t
        obtain ⟨u, rfl, ru⟩ := vals1 r
        obtain ⟨as, rd⟩ := Dp.reads I _ _ u (h1.dp sb) ru
        have hsm : d.py.hasDict = true → sysModules ∉ as := fun w => by rw [k4] at w; cases w
        have fin : ∀ (h' : Heap) (v : Tok) (tk : Nat), (∀ b o, s.heap.get? b = some o → h'.get? b = some o) → EP X pins σ Q (.str d.py.shown v) { s with heap := h', toks := tk } := fun h' v tk hk' =>
          ⟨.str d.py.shown, H, I.kept hk', ⟨_, rfl⟩, q.str sb⟩
        cases d with
        | tup es =>
          obtain ⟨a, ys, rfl, h2, r2⟩ := h1.tup sb
          cases ru
          exact repr_of_reads' rd k1 hsm hg (by omega) (fun _ _ e => e) fin k2
        | lst es =>
          obtain ⟨a, ys, rfl, h2, r2⟩ := h1.lst sb
          cases ru
          exact repr_of_reads' rd k1 hsm hg (by omega) (fun _ _ e => e) fin k2
        | _ => cases k5
    · cases hz
  · rename_i t d
    exact absurd rfl (nisi t)
  · cases hz
end
end Mi

/-! Mi5: what evaluating gives, by values; giving away; looking at; defs by what they give. -/
namespace Mi
open PySem PySem.Spec PyProof.Rows L2

def RpP (K : PySem.W.Frag) (σ : L2.St) (H H' B' : Hp) (v : V) : P → Prop
  | .val d => Rp K B' v d
  | .slot i => σ[i]? = some (some v)
  | .new m => ∃ a o, v = .ref a ∧ H a = none ∧ H' a = some o ∧ B' a = none ∧ MOk K B' o m
  | .its _ => False
/-- the new objects among the values -/
def newsA : List V → List P → List Addr
  | .ref a :: vs, .new _ :: ps => a :: newsA vs ps
  | _ :: vs, _ :: ps => newsA vs ps
  | _, _ => []
structure RpPA (K : PySem.W.Frag) (σ : L2.St) (H H' B' : Hp) (vs : List V) (ps : List P) : Prop where
  all : Paired (fun v p => RpP K σ H H' B' v p) vs ps
  nd : (newsA vs ps).Nodup

section
variable {K : PySem.W.Frag} {σ : L2.St} {H B H' B' H1 B1 : Hp} {env env' env1 : En} {v : V} {p : P} {d : D} {vs : List V} {ps : List P}

theorem RE.ownH (R : RE K σ H B env) {a : Addr} (h : Own σ env a) : ∃ o, H a = some o ∧ B a = none := by
  obtain ⟨i, fz, m, e, pa⟩ := h
  obtain ⟨p, o, a1, b1, c1, _⟩ := R.own e
  have : V.ref p = V.ref a := by
    have := a1.symm.trans pa
    exact Option.some.inj (Option.some.inj this)
  cases this
  exact ⟨o, c1, b1⟩
theorem At.eq {i : Nat} {p q : Addr} (h : At σ i p) (h' : At σ i q) : p = q := by
  have := Option.some.inj (Option.some.inj (h.symm.trans h'))
  cases this; rfl
/-- a new object is no one's -/
theorem new_notOwn (R : RE K σ H B env) (s : Stp σ H B env H' B' env') {a : Addr} (n : H a = none) : ¬ Own σ env' a := fun h => by
  obtain ⟨o, e, _⟩ := R.ownH (s.own h)
  rw [n] at e; cases e
/-- what an earlier part gave stands behind a later one -/
theorem RpP.later (R : RE K σ H B env) (s : Stp σ H B env H1 B1 env1) (t : Stp σ H1 B1 env1 H' B' env') (h : RpP K σ H H1 B1 v p) : RpP K σ H H' B' v p := by
  cases p with
  | val d => exact Rp.mono t.bb h
  | slot i => exact h
  | new m =>
    obtain ⟨a, o, e, n, h1, b1, mo⟩ := h
    have no := new_notOwn R s n
    exact ⟨a, o, e, n, t.fr h1 no, t.none h1 b1 no, mo.mono t.bb⟩
  | its _ => exact h
theorem RpP.sooner (s : Stp σ H B env H1 B1 env1) (h : RpP K σ H1 H' B' v p) : RpP K σ H H' B' v p := by
  cases p with
  | val d => exact h
  | slot i => exact h
  | new m =>
    obtain ⟨a, o, e, n, r⟩ := h
    exact ⟨a, o, e, s.th n, r⟩
  | its _ => exact h
theorem RpPA.nil : RpPA K σ H H' B' [] [] := ⟨.nil, List.nodup_nil⟩
theorem newsA_none : ∀ {vs : List V} {ps : List P}, Paired (fun v p => RpP K σ H H' B' v p) vs ps → ∀ a ∈ newsA vs ps, H a = none ∧ ∃ o, H' a = some o ∧ B' a = none
  | _, _, .nil, a, h => by cases h
  | v :: vs, p :: ps, .cons r t, a, h => by
    cases p with
    | new m =>
      obtain ⟨b, o, rfl, n, x, y, _⟩ := r
      rcases List.mem_cons.mp h with e | h
      · subst e; exact ⟨n, o, x, y⟩
      · exact newsA_none t a h
    | val d => cases v <;> exact newsA_none t a h
    | slot i => cases v <;> exact newsA_none t a h
    | its _ => cases v <;> exact newsA_none t a h
theorem RpPA.cons (R : RE K σ H B env) (s : Stp σ H B env H1 B1 env1) (t : Stp σ H1 B1 env1 H' B' env') (h : RpP K σ H H1 B1 v p) (hs : RpPA K σ H1 H' B' vs ps) : RpPA K σ H H' B' (v :: vs) (p :: ps) := by
  have all : Paired (fun v p => RpP K σ H H' B' v p) vs ps := Paired.mapP hs.all fun _ _ z => z.sooner s
  refine ⟨.cons (h.later R s t) all, ?_⟩
  cases p with
  | new m =>
    obtain ⟨a, o, rfl, n, x, y, _⟩ := h
    refine List.nodup_cons.mpr ⟨fun z => ?_, hs.nd⟩
    obtain ⟨n1, _⟩ := newsA_none hs.all a z
    rw [x] at n1; cases n1
  | val d => cases v <;> exact hs.nd
  | slot i => cases v <;> exact hs.nd
  | its _ => cases v <;> exact hs.nd

/-! ### looking at -/
theorem pk_ok (R : RE K σ H' B' env') (h : RpP K σ H H' B' v p) (e : pk p env' = some d) : RpS K B' H' v d := by
  cases p with
  | val x => cases e; exact .inl h
  | new m =>
    cases m with
    | lst ds =>
      cases e
      obtain ⟨a, o, rfl, _, x, _, xs, rfl, r⟩ := h
      exact .inr ⟨a, xs, ds, rfl, rfl, x, r⟩
    | dK _ => cases e
    | dT _ => cases e
  | slot i =>
    unfold pk at e
    simp only at e
    split at e
    · cases e
      rename_i ei
      obtain ⟨a, o, pa, _, x, xs, rfl, r⟩ := R.own ei
      cases Option.some.inj (Option.some.inj (h.symm.trans pa))
      exact .inr ⟨a, xs, _, rfl, rfl, x, r⟩
    · cases e
      rename_i ei
      obtain ⟨a, o, pa, _, x, xs, rfl, r⟩ := R.lck ei
      cases Option.some.inj (Option.some.inj (h.symm.trans pa))
      exact .inr ⟨a, xs, _, rfl, rfl, x, r⟩
    · cases e
      rename_i ei
      obtain ⟨w, pw, r⟩ := R.dat ei
      cases Option.some.inj (Option.some.inj (h.symm.trans pw))
      exact .inl r
    · cases e
  | its _ => exact h.elim
theorem pks_ok (R : RE K σ H' B' env') : ∀ {vs : List V} {ps : List P} {ds : List D}, Paired (fun v p => RpP K σ H H' B' v p) vs ps → pks ps env' = some ds → RpSA K B' H' vs ds
  | _, _, _, .nil, e => by cases e; exact .nil
  | _, _, _, .cons r t, e => by
    unfold pks at e
    split at e
    · rename_i h1
      split at e
      · rename_i h2
        cases e
        exact .cons (pk_ok R r h1) (pks_ok R t h2)
      · cases e
    · cases e

/-! ### giving away -/
theorem set_get {env : En} {i j : Nat} {s t : Slot} (h : (env.set i s)[j]? = some t) : (j = i ∧ t = s) ∨ (j ≠ i ∧ env[j]? = some t) := by
  by_cases e : j = i
  · subst e
    rw [List.getElem?_set] at h
    simp only [if_true] at h
    split at h
    · cases h; exact .inl ⟨rfl, rfl⟩
    · cases h
  · rw [List.getElem?_set_ne (Ne.symm e)] at h
    exact .inr ⟨e, h⟩
theorem set_lk {env : En} {i : Nat} {s : Slot} (h : ∀ f m, env[i]? ≠ some (.lck f m)) (hs : ∀ f m, s ≠ .lck f m) {j : Nat} {fz : Bool} {m : MO} : (env.set i s)[j]? = some (Slot.lck fz m) ↔ env[j]? = some (Slot.lck fz m) := by
  by_cases e : j = i
  · subst e
    refine ⟨fun z => ?_, fun z => absurd z (h _ _)⟩
    rcases set_get z with ⟨_, z⟩ | ⟨z, _⟩
    · exact absurd z.symm (hs _ _)
    · exact absurd rfl z
  · rw [List.getElem?_set_ne (Ne.symm e)]
/-- the object at a becomes data -/
theorem RE.data (R : RE K σ H B env) {a : Addr} {o : HO} (h : H a = some o) (n : ¬ Own σ env a) (nl : ∀ {i : Nat} {fz m}, env[i]? = some (Slot.lck fz m) → ¬ At σ i a) (b : B a = none) : RE K σ H (upd B a o) env where
  sub := R.sub.updL h
  len := R.len
  dat := fun e => by
    obtain ⟨w, x, r⟩ := R.dat e
    exact ⟨w, x, r.mono (Sub.new b)⟩
  own := fun {i fz m} e => by
    obtain ⟨q, u, x, y, z, r⟩ := R.own e
    refine ⟨q, u, x, ?_, z, r.mono (Sub.new b)⟩
    have ne : q ≠ a := fun w => n ⟨i, fz, m, e, by rw [← w]; exact x⟩
    rw [upd_ne ne]; exact y
  lck := fun {i fz m} e => by
    obtain ⟨q, u, x, y, z, r⟩ := R.lck e
    refine ⟨q, u, x, ?_, z, r.mono (Sub.new b)⟩
    have ne : q ≠ a := fun w => nl e (by rw [← w]; exact x)
    rw [upd_ne ne]; exact y
  apart := R.apart
/-- slot i's own object becomes data -/
theorem RE.freeze (R : RE K σ H B env) {i : Nat} {ds : List D} (e : env[i]? = some (Slot.own true (.lst ds))) :
    ∃ a o, At σ i a ∧ H a = some o ∧ B a = none ∧ RE K σ H (upd B a o) (env.set i (.dat (.lst ds))) ∧ Rp K (upd B a o) (.ref a) (.lst ds) ∧ (∀ {w : V}, σ[i]? = some (some w) → w = .ref a) := by
  obtain ⟨a, o, pa, nb, ha, xs, rfl, r⟩ := R.own e
  have rp : Rp K (upd B a (.lst xs)) (.ref a) (.lst ds) := .lst upd_same (r.mono (Sub.new nb))
  refine ⟨a, _, pa, ha, nb, ⟨R.sub.updL ha, by rw [List.length_set]; exact R.len, fun {j d} h => ?_, fun {j fz m} h => ?_, fun {j fz m} h => ?_, fun {j k s t p} h1 h2 m1 m2 x1 x2 => ?_⟩, rp, fun {w} hw => Option.some.inj (Option.some.inj (hw.symm.trans pa))⟩
  · rcases set_get h with ⟨rfl, e2⟩ | ⟨_, h⟩
    · cases e2; exact ⟨_, pa, rp⟩
    · obtain ⟨w, x, r⟩ := R.dat h
      exact ⟨w, x, r.mono (Sub.new nb)⟩
  · rcases set_get h with ⟨_, e2⟩ | ⟨ne, h⟩
    · cases e2
    · obtain ⟨q, u, x, y, z, r⟩ := R.own h
      refine ⟨q, u, x, ?_, z, r.mono (Sub.new nb)⟩
      have ne2 : q ≠ a := fun w => ne (R.apart h e rfl rfl x (by rw [w]; exact pa))
      rw [upd_ne ne2]; exact y
  · rcases set_get h with ⟨_, e2⟩ | ⟨ne, h⟩
    · cases e2
    · obtain ⟨q, u, x, y, z, r⟩ := R.lck h
      refine ⟨q, u, x, ?_, z, r.mono (Sub.new nb)⟩
      have ne2 : q ≠ a := fun w => ne (R.apart h e rfl rfl x (by rw [w]; exact pa))
      rw [upd_ne ne2]; exact y
  · rcases set_get h1 with ⟨_, e2⟩ | ⟨_, h1⟩
    · subst e2; cases m1
    · rcases set_get h2 with ⟨_, e2⟩ | ⟨_, h2⟩
      · subst e2; cases m2
      · exact R.apart h1 h2 m1 m2 x1 x2
/-- what a start has come to -/
structure Cm (K : PySem.W.Frag) (σ : L2.St) (H B : Hp) (env : En) (H' B' : Hp) (env' : En) : Prop where
  r0 : RE K σ H B env
  st : Stp σ H B env H' B' env'
  re : RE K σ H' B' env'
theorem Cm.refl (R : RE K σ H B env) : Cm K σ H B env H B env := ⟨R, Stp.refl, R⟩
theorem Cm.trans (a : Cm K σ H B env H1 B1 env1) (b : Cm K σ H1 B1 env1 H' B' env') : Cm K σ H B env H' B' env' := ⟨a.r0, a.st.trans b.st, b.re⟩
theorem Cm.grow (a : Cm K σ H B env H1 B1 env1) (g : Gr H1 B1 H' B') : Cm K σ H B env H' B' env1 := ⟨a.r0, a.st.trans g.stp, a.re.grow g⟩
theorem lck_new (c : Cm K σ H B env H' B' env') {a : Addr} (n : H a = none) : ∀ {i : Nat} {fz m}, env'[i]? = some (Slot.lck fz m) → ¬ At σ i a := fun e x => by
  obtain ⟨q, u, y, _, z, _⟩ := c.r0.lck (c.st.lk.mp e)
  cases At.eq x y
  rcases z.rd with z | ⟨w, z⟩
  · rw [n] at z; cases z
  · rw [n] at z; cases z

/-- giving p away; what other parts have given stands (ws, qs), if it is other new objects -/
theorem fz_ok (c : Cm K σ H B env H' B' env') (h : RpP K σ H H' B' v p) {env2 : En} (e : fz p env' = some (d, env2)) :
    ∃ B2, Cm K σ H B env H' B2 env2 ∧ Sub B' B2 ∧ Rp K B2 v d ∧ ∀ {w : V} {q : P}, RpP K σ H H' B' w q → (∀ a, v = .ref a → w = .ref a → ∀ m m', p = .new m → q = .new m' → False) → RpP K σ H H' B2 w q := by
  have keep : ∀ {B2 : Hp} {a : Addr} {o : HO}, B2 = upd B' a o → B' a = none → (∃ o', H a = some o') ∨ v = .ref a ∧ (∃ m, p = .new m) → ∀ {w : V} {q : P}, RpP K σ H H' B' w q → (∀ a, v = .ref a → w = .ref a → ∀ m m', p = .new m → q = .new m' → False) → RpP K σ H H' B2 w q := by
    intro B2 a o eB nb hh w q hq hd
    subst eB
    cases q with
    | val x => exact Rp.mono (Sub.new nb) hq
    | slot j => exact hq
    | its _ => exact hq
    | new m =>
      obtain ⟨b, u, rfl, n, x, y, mo⟩ := hq
      refine ⟨b, u, rfl, n, x, ?_, mo.mono (Sub.new nb)⟩
      rw [upd_ne (fun z => ?_)]; exact y
      subst z
      rcases hh with ⟨o', z⟩ | ⟨rfl, m', rfl⟩
      · rw [n] at z; cases z
      · exact hd _ rfl rfl _ _ rfl rfl
  cases p with
  | val x =>
    cases e
    exact ⟨B', c, Sub.refl _, h, fun hq _ => hq⟩
  | its _ => exact h.elim
  | new m =>
    cases m with
    | dK _ => cases e
    | dT _ => cases e
    | lst ds =>
      cases e
      obtain ⟨a, o, rfl, n, x, y, xs, rfl, r⟩ := h
      have no := new_notOwn c.r0 c.st n
      have R2 := c.re.data x no (lck_new c n) y
      refine ⟨upd B' a (.lst xs), ⟨c.r0, ⟨c.st.bb.trans (Sub.new y), c.st.th, c.st.fr, fun {b u} hb => ?_, c.st.ow, c.st.lk⟩, R2⟩, Sub.new y, .lst upd_same (r.mono (Sub.new y)), fun hq hd => keep rfl y (.inr ⟨rfl, _, rfl⟩) hq hd⟩
      by_cases z : b = a
      · subst z; exact .inr (.inl n)
      · rw [upd_ne z] at hb; exact c.st.fre hb
  | slot i =>
    unfold fz at e
    simp only at e
    split at e
    · rename_i ds ei
      cases e
      obtain ⟨a, o, pa, ha, nb, R2, rp, ew⟩ := c.re.freeze ei
      cases ew h
      obtain ⟨m', e0⟩ := c.st.ow ei
      obtain ⟨q, u, x1, x2, x3, _⟩ := c.r0.own e0
      cases At.eq pa x1
      refine ⟨upd B' a o, ⟨c.r0, ⟨c.st.bb.trans (Sub.new nb), c.st.th, c.st.fr, fun {b u} hb => ?_, fun {j fz m} hj => ?_, fun {j fz m} => ?_⟩, R2⟩, Sub.new nb, rp, fun hq hd => keep rfl nb (.inl ⟨_, x3⟩) hq hd⟩
      · by_cases z : b = a
        · subst z; exact .inr (.inr ⟨i, m', e0, pa⟩)
        · rw [upd_ne z] at hb; exact c.st.fre hb
      · rcases set_get hj with ⟨_, e2⟩ | ⟨_, hj⟩
        · cases e2
        · exact c.st.ow hj
      · exact (set_lk (by intro f m z; rw [ei] at z; cases z) (by intro f m z; cases z)).trans c.st.lk
    · rename_i ei
      cases e
      obtain ⟨w, pw, r⟩ := c.re.dat ei
      cases Option.some.inj (Option.some.inj (h.symm.trans pw))
      exact ⟨B', c, Sub.refl _, r, fun hq _ => hq⟩
    · cases e
theorem newsA_mem : ∀ {ws : List V} {qs : List P} {i : Nat} {b : Addr} {m : MO}, ws[i]? = some (.ref b) → qs[i]? = some (.new m) → b ∈ newsA ws qs
  | w :: ws, q :: qs, 0, b, m, h1, h2 => by
    simp at h1 h2
    subst h1 h2
    exact List.mem_cons_self
  | w :: ws, q :: qs, i + 1, b, m, h1, h2 => by
    have ih := newsA_mem (ws := ws) (qs := qs) (i := i) (by simpa using h1) (by simpa using h2)
    cases w <;> cases q <;> first | exact ih | exact List.mem_cons_of_mem _ ih
  | [], _, _, _, _, h, _ => by simp at h
  | _ :: _, [], _, _, _, _, h => by simp at h
theorem Paired.mapW {α β : Type} {F G : α → β → Prop} : ∀ {l₁ : List α} {l₂ : List β}, Paired F l₁ l₂ → (∀ (i : Nat) a b, l₁[i]? = some a → l₂[i]? = some b → F a b → G a b) → Paired G l₁ l₂
  | _, _, .nil, _ => .nil
  | _, _, .cons r t, f => .cons (f 0 _ _ rfl rfl r) (Paired.mapW t fun i a b h1 h2 => f (i + 1) a b (by simpa using h1) (by simpa using h2))
theorem fzs_ok : ∀ {ps : List P} {vs : List V} {ds : List D} {B' : Hp} {env' env2 : En}, Cm K σ H B env H' B' env' → RpPA K σ H H' B' vs ps → fzs ps env' = some (ds, env2) →
    ∃ B2, Cm K σ H B env H' B2 env2 ∧ Sub B' B2 ∧ RpA K B2 vs ds
  | [], vs, ds, B', env', env2, c, h, e => by
    cases e
    cases h.all
    exact ⟨B', c, Sub.refl _, .nil⟩
  | p :: ps, vs, ds, B', env', env2, c, h, e => by
    unfold fzs at e
    cases h1 : fz p env' with
    | none => rw [h1] at e; cases e
    | some r =>
      obtain ⟨d, e1⟩ := r
      rw [h1] at e
      simp only at e
      cases h2 : fzs ps e1 with
      | none => rw [h2] at e; cases e
      | some r2 =>
        obtain ⟨es, e2⟩ := r2
        rw [h2] at e
        cases e
        obtain ⟨hall, hnd⟩ := h
        cases hall with
        | cons r t =>
          rename_i v vs
          obtain ⟨B2, c2, s2, r2, k2⟩ := fz_ok c r h1
          have nd2 : (newsA vs ps).Nodup := by
            cases p with
            | new m => obtain ⟨a, o, rfl, _⟩ := r; exact (List.nodup_cons.mp hnd).2
            | val d => cases v <;> exact hnd
            | slot i => cases v <;> exact hnd
            | its _ => cases v <;> exact hnd
          have t2 : Paired (fun v p => RpP K σ H H' B2 v p) vs ps := Paired.mapW t fun i w q g1 g2 hq => k2 hq fun a ea eb m m' ep eq => by
            subst ea eb ep eq
            exact (List.nodup_cons.mp hnd).1 (newsA_mem g1 g2)
          obtain ⟨B3, c3, s3, r3⟩ := fzs_ok c2 ⟨t2, nd2⟩ h2
          exact ⟨B3, c3, s2.trans s3, .cons (r2.mono s3) r3⟩

/-- what an operation behind a start is to give -/
theorem ResP.of {Q : VK} {z : P} (c : Cm K σ H B env H' B' env') (k : ∀ v H2 B2, Cm K σ H B env H2 B2 env' → RpP K σ H H2 B2 v z → Q v H2) (nz : (∃ d, z = .val d) ∨ ∃ m, z = .new m) : ResP K H' B' Q z := by
  rcases nz with ⟨d, rfl⟩ | ⟨m, rfl⟩
  · exact fun v H2 B2 g r => k v H2 B2 (c.grow g) r
  · exact fun a o H2 B2 g n h2 b2 mo => k _ H2 B2 (c.grow g) ⟨a, o, rfl, c.st.th n, h2, b2, mo⟩
end

/-! ### readings -/
section
variable (K : PySem.W.Frag) (Φ : Nat → Fn)
def tE (e : E) : TE := fun σ H Q => ∃ B env p env', RE K σ H B env ∧ evE Φ e env = some (p, env') ∧ ∀ v H' B', Cm K σ H B env H' B' env' → RpP K σ H H' B' v p → Q v H'
def tA (es : E) : TA := fun σ H Q => ∃ B env ps env', RE K σ H B env ∧ evA Φ es env = some (ps, env') ∧ ∀ vs H' B', Cm K σ H B env H' B' env' → RpPA K σ H H' B' vs ps → Q vs H'
end
end Mi

/-! Mi6: expressions without calls. -/
namespace Mi
open PySem PySem.Spec PyProof.Rows L2

theorem _root_.L2.PE.imp {X : Cx} {e : Expr} {t t' : TE} (h : PE X e t) (k : ∀ σ H Q, t' σ H Q → t σ H Q) : PE X e t' := ⟨fun pins s σ H Q I hw => h.run pins s σ H Q I (k σ H Q hw)⟩
theorem _root_.L2.PA.imp {X : Cx} {e : List Expr} {t t' : TA} (h : PA X e t) (k : ∀ σ H Q, t' σ H Q → t σ H Q) : PA X e t' := ⟨fun pos pins s σ H Q I hw => h.run pos pins s σ H Q I (k σ H Q hw)⟩
theorem _root_.L2.PT.imp {X : Cx} {e : Expr} {t t' : TT} (h : PT X e t) (k : ∀ σ H Q, t' σ H Q → t σ H Q) : PT X e t' := ⟨fun pins s σ H Q I hw => h.run pins s σ H Q I (k σ H Q hw)⟩
theorem _root_.L2.PW.imp {X : Cx} {e : Expr} {t t' : TT} (h : PW X e t) (k : ∀ σ H Q, t' σ H Q → t σ H Q) : PW X e t' := ⟨fun w pins s σ H Q I hw => h.run w pins s σ H Q I (k σ H Q hw)⟩
theorem _root_.L2.PO.imp {X : Cx} {e : Option Expr} {t t' : TO} (h : PO X e t) (k : ∀ σ H Q, t' σ H Q → t σ H Q) : PO X e t' := ⟨fun pins s σ H Q I hw => h.run pins s σ H Q I (k σ H Q hw)⟩

theorem _root_.L2.PE.or {X : Cx} {e : Expr} {t t' : TE} (h : PE X e t) (h' : PE X e t') : PE X e (fun σ H Q => t σ H Q ∨ t' σ H Q) :=
  ⟨fun pins s σ H Q I hw => hw.elim (h.run pins s σ H Q I) (h'.run pins s σ H Q I)⟩
theorem _root_.L2.PT.or {X : Cx} {e : Expr} {t t' : TT} (h : PT X e t) (h' : PT X e t') : PT X e (fun σ H Q => t σ H Q ∨ t' σ H Q) :=
  ⟨fun pins s σ H Q I hw => hw.elim (h.run pins s σ H Q I) (h'.run pins s σ H Q I)⟩

/-! ### dicts looked at -/
section
variable {K : PySem.W.Frag} {B H : Hp} {σ : L2.St} {env : En}
theorem valV_rel {κ : Type} [DecidableEq κ] : ∀ {ws : List (κ × V)} {kvs : List (κ × D)}, Paired (fun (p : κ × V) (q : κ × D) => p.1 = q.1 ∧ Rp K B p.2 q.2) ws kvs → ∀ k, (valD kvs k = none → valV ws k = none) ∧ ∀ d, valD kvs k = some d → ∃ v, valV ws k = some v ∧ Rp K B v d
  | _, _, .nil, k => ⟨fun _ => rfl, fun d h => by simp [valD] at h⟩
  | (k1, v1) :: ws, (k2, d2) :: kvs, .cons r t, k => by
    obtain ⟨e, r⟩ := r
    simp only at e r
    subst e
    obtain ⟨h1, h2⟩ := valV_rel t k
    unfold valD
    by_cases hk : k1 = k
    · subst hk
      rw [if_pos rfl]
      refine ⟨fun h => (by cases h), fun d h => ?_⟩
      cases h
      exact ⟨v1, by simp [valV, List.find?_cons], r⟩
    · rw [if_neg hk]
      have e : valV ((k1, v1) :: ws) k = valV ws k := by simp [valV, List.find?_cons, hk]
      rw [e]
      exact ⟨h1, h2⟩
theorem keysOf_rel : ∀ {ds : List D} {ks : List Key} {vs : List V}, keysOf ds = some ks → RpA K B vs ds → vs = ks.map kV
  | [], ks, vs, h, r => by cases h; cases r; rfl
  | d :: ds, ks, vs, h, r => by
    unfold keysOf at h
    split at h
    · rename_i k1 ks1 h1 h2
      cases h
      cases r with
      | cons r t =>
        rw [keysOf_rel h2 t]
        cases d <;> simp only [D.key?] at h1 <;> cases h1 <;> cases r <;> rfl
    · cases h
/-- the object that a slot's dict is -/
theorem RE.mo (R : RE K σ H B env) {i : Nat} {m : MO} (h : env[i]?.bind Slot.mo? = some m) : ∃ a o, At σ i a ∧ Rd H a o ∧ MOk K B o m := by
  cases e : env[i]? with
  | none => rw [e] at h; cases h
  | some s =>
    rw [e] at h
    cases s with
    | own f m' =>
      cases h
      obtain ⟨a, o, x, _, y, z⟩ := R.own e
      exact ⟨a, o, x, .inl y, z⟩
    | lck f m' =>
      cases h
      obtain ⟨a, o, x, _, y, z⟩ := R.lck e
      exact ⟨a, o, x, y.rd, z⟩
    | un => cases h
    | dat _ => cases h
theorem dlook_ok {a : Addr} {o : HO} {m : MO} {y : V} {k : D} {r : Option D} (sb : Sub B H) (hr : Rd H a o) (hm : MOk K B o m) (hy : Rp K B y k) (h : dlook m k = some r) : ∃ ov, DGet H a y ov ∧ (r = none → ov = none) ∧ ∀ d, r = some d → ∃ v, ov = some v ∧ Rp K B v d := by
  unfold dlook at h
  split at h
  · cases h
    obtain ⟨ws, rfl, pw⟩ := hm
    cases hy
    obtain ⟨h1, h2⟩ := valV_rel pw (.inl ‹Int›)
    exact ⟨_, .inl ⟨ws, _, hr, rfl, rfl⟩, h1, h2⟩
  · cases h
    obtain ⟨ws, rfl, pw⟩ := hm
    cases hy
    obtain ⟨h1, h2⟩ := valV_rel pw (.inr ‹Str›)
    exact ⟨_, .inl ⟨ws, _, hr, rfl, rfl⟩, h1, h2⟩
  · rename_i kvs ds
    cases hk : keysOf ds with
    | none => rw [hk] at h; cases h
    | some ks =>
      rw [hk] at h
      cases h
      obtain ⟨ws, rfl, pw⟩ := hm
      cases hy with
      | tup h3 h4 =>
        obtain ⟨h1, h2⟩ := valV_rel pw ks
        have e := keysOf_rel hk h4
        exact ⟨_, .inr ⟨ws, ks, _, hr, rfl, by rw [← e]; exact sb _ _ h3, rfl⟩, h1, h2⟩
  · cases h
end

section
variable (K : PySem.W.Frag) (Φ : Nat → Fn)
def tT (c : E) : TT := fun σ H Q => ∃ B env b env', RE K σ H B env ∧ evT Φ c env = some (b, env') ∧ ∀ H' B', Cm K σ H B env H' B' env' → Q b H'
def tO (e : E) : TO := fun σ H Q => ∃ B env i env', RE K σ H B env ∧ evO Φ e env = some (i, env') ∧ ∀ H' B', Cm K σ H B env H' B' env' → Q i H'
end

section
variable {X : Cx} {Φ : Nat → Fn} {pos : Pos} {a b c : Expr} {ea eb ec : E}
theorem ev_name {i : Nat} {x : Str} (hN : X.N[i]? = some x) (hv : Vis X.env.scope x) (hd : (x == ("__debug__" : Str)) = false) (hcd : (x == ("__classdict__" : Str)) = false) : PE X (.Name x pos) (tE X.K Φ (.var i)) :=
  (pe_var hN hv hd hcd).imp fun σ H Q ⟨B, env, p, env', R, h, k⟩ => by
    unfold evE at h
    split at h
    · cases h
      rename_i e
      obtain ⟨v, pv, r⟩ := R.dat e
      exact ⟨v, pv, k v H B (Cm.refl R) r⟩
    · cases h
      rename_i e
      obtain ⟨q, o, pa, _⟩ := R.own e
      exact ⟨_, pa, k _ H B (Cm.refl R) pa⟩
    · cases h
      rename_i e
      obtain ⟨q, o, pa, _⟩ := R.lck e
      exact ⟨_, pa, k _ H B (Cm.refl R) pa⟩
    · cases h
theorem ev_cst {v : V} {d : D} (he : PE X a (tC v)) (hr : ∀ B, Rp X.K B v d) : PE X a (tE X.K Φ (.cst d)) :=
  he.imp fun σ H Q ⟨B, env, p, env', R, h, k⟩ => by
    cases h
    exact k v H B (Cm.refl R) (hr B)
theorem ev_tup {es : List Expr} {ees : E} {k0 : Nat} (ha : PA X es (tA X.K Φ ees)) : PE X (.Tuple es k0 pos) (tE X.K Φ (.tup ees)) :=
  (pe_tup ha).imp fun σ H Q ⟨B, env, p, env', R, h, k⟩ => by
    unfold evE at h
    split at h
    · rename_i ps e1 h1
      split at h
      · rename_i ds e2 h2
        split at h
        · cases h
          refine ⟨B, env, ps, e1, R, h1, fun vs H1 B1 c r => ?_⟩
          obtain ⟨B2, c2, s2, ra⟩ := fzs_ok c r h2
          exact ⟨by rw [ra.length]; exact lim_le (by assumption), fun q n => k _ _ _ (c2.grow (Gr.new c2.re.sub n)) (.tup upd_same (ra.mono (Sub.new (c2.re.sub.none n))))⟩
        · cases h
      · cases h
    · cases h
theorem ev_lst {es : List Expr} {ees : E} (ha : PA X es (tA X.K Φ ees)) : PE X (.List es pos) (tE X.K Φ (.lst ees)) :=
  (pe_lst ha).imp fun σ H Q ⟨B, env, p, env', R, h, k⟩ => by
    unfold evE at h
    split at h
    · rename_i ps e1 h1
      split at h
      · rename_i ds e2 h2
        split at h
        · cases h
          refine ⟨B, env, ps, e1, R, h1, fun vs H1 B1 c r => ?_⟩
          obtain ⟨B2, c2, s2, ra⟩ := fzs_ok c r h2
          exact ⟨by rw [ra.length]; exact lim_le (by assumption), fun q n => k _ _ _ (c2.grow (Gr.newH c2.re.sub n)) ⟨q, _, rfl, c2.st.th n, upd_same, c2.re.sub.none n, vs, rfl, ra⟩⟩
        · cases h
      · cases h
    · cases h
theorem va_nil : PA X [] (tA X.K Φ .anil) :=
  pa_nil.imp fun σ H Q ⟨B, env, p, env', R, h, k⟩ => by
    cases h
    exact k [] H B (Cm.refl R) RpPA.nil
theorem va_cons {es : List Expr} {ees : E} (ha : PE X a (tE X.K Φ ea)) (hs : PA X es (tA X.K Φ ees)) (st : starEach (a :: es) X.env = (false, eval a X.env) :: starEach es X.env) : PA X (a :: es) (tA X.K Φ (.acons ea ees)) :=
  (pa_cons ha hs st).imp fun σ H Q ⟨B, env, p, env', R, h, k⟩ => by
    unfold evA at h
    split at h
    · rename_i p1 e1 h1
      split at h
      · rename_i ps e2 h2
        cases h
        exact ⟨B, env, p1, e1, R, h1, fun v H1 B1 c1 r1 => ⟨B1, e1, ps, env', c1.re, h2, fun vs H2 B2 c2 r2 => k _ H2 B2 (c1.trans c2) (RpPA.cons c1.r0 c1.st c2.st r1 r2)⟩⟩
      · cases h
    · cases h
theorem RpPA.vals {K : PySem.W.Frag} {σ : L2.St} {H H' B' : Hp} {vs ws : List V} {ds : List D} {ps : List P} (r : RpA K B' vs ds) (h : RpPA K σ H H' B' ws ps) : RpPA K σ H H' B' (vs ++ ws) (ds.map P.val ++ ps) := by
  induction r using RpA.rec (motive_1 := fun _ _ _ => True) with
  | nil => exact h
  | @cons v vs d ds r t _ ih =>
    refine ⟨.cons r ih.all, ?_⟩
    cases v <;> exact ih.nd
  | _ => trivial
theorem va_star {es : List Expr} {ees : E} {p0 : Pos} (ha : PE X a (tE X.K Φ ea)) (hs : PA X es (tA X.K Φ ees)) : PA X (.Starred a p0 :: es) (tA X.K Φ (.astar ea ees)) :=
  (StX.pa_star ha hs rfl).imp fun σ H Q ⟨B, env, p, env', R, h, k⟩ => by
    unfold evA at h
    split at h
    · rename_i p1 e1 h1
      split at h
      · rename_i x hx
        split at h
        · rename_i ds hd
          split at h
          · rename_i ps e2 h2
            cases h
            refine ⟨B, env, p1, e1, R, h1, fun v H1 B1 c1 r1 => ?_⟩
            have rs := pk_ok c1.re r1 hx
            have fin : ∀ (a : Addr) (xs : List V), v = .ref a → (SqT X.K H1 a xs ∨ SqL X.K H1 a xs) → RpA X.K B1 xs ds → StX.tStar X.K (fun _ H Q => Q v H) (tA X.K Φ ees) σ H1 Q := fun a xs ev hq ra =>
              ⟨a, xs, ev, hq, ⟨B1, e1, ps, env', c1.re, h2, fun vs H2 B2 c2 r2 => k _ H2 B2 (c1.trans c2) (RpPA.vals (ra.mono c2.st.bb) ⟨Paired.mapP r2.all fun _ _ z => z.sooner c1.st, r2.nd⟩)⟩⟩
            unfold D.seq? at hd
            split at hd
            · cases hd
              obtain ⟨q, xs, rfl, hh, ra⟩ := rs.lst c1.re.sub
              exact fin q xs rfl (.inr (Evl.sq_of hh)) ra
            · cases hd
              obtain ⟨q, xs, rfl, hh, ra⟩ := rs.tup c1.re.sub
              exact fin q xs rfl (.inl hh) ra
            · cases hd
          · cases h
        · cases h
      · cases h
    · cases h
theorem bin_nz {o : BO} {x y : D} {z : P} (h : binOp o x y = some z) : (∃ d, z = .val d) ∨ ∃ m, z = .new m := by
  unfold binOp at h
  repeat' split at h
  all_goals first | (cases h; exact .inl ⟨_, rfl⟩) | (cases h; exact .inr ⟨_, rfl⟩) | cases h
theorem ev_bin (o : BO) (ha : PE X a (tE X.K Φ ea)) (hb : PE X b (tE X.K Φ eb)) : PE X (.BinOp a o.op b pos) (tE X.K Φ (.bin o ea eb)) :=
  (pe_op (bin_ok o) ha hb).imp fun σ H Q ⟨B, env, p, env', R, h, k⟩ => by
    unfold evE at h
    split at h
    · rename_i p1 e1 h1
      split at h
      · rename_i p2 e2 h2
        split at h
        · rename_i x y hx hy
          split at h
          · rename_i z hz
            cases h
            exact ⟨B, env, p1, e1, R, h1, fun v H1 B1 c1 r1 => ⟨B1, e1, p2, _, c1.re, h2, fun w H2 B2 c2 r2 =>
              ⟨B2, x, y, _, c2.re.sub, pk_ok c2.re (r1.later c1.r0 c1.st c2.st) hx, pk_ok c2.re r2 hy, hz, ResP.of (c1.trans c2) k (bin_nz hz)⟩⟩⟩
          · cases h
        · cases h
      · cases h
    · cases h
/-- what a comparison of the evaluator's kind gives, by either road -/
def tCm (K : PySem.W.Frag) (o : CO) (ta tb : TE) : TE := fun σ H Q => tOp (rCmp K o) ta tb σ H Q ∨ (o = .in_ ∧ tDIn ta tb σ H Q) ∨ (o = .nin ∧ tDNotIn ta tb σ H Q)
theorem pe_tCm (o : CO) (hu : X.A.units + 65 < cLine) {ta tb : TE} (ha : PE X a ta) (hb : PE X b tb) (hm : behindInMarks o.op b = false) : PE X (.Compare a [o.op] [b] pos) (tCm X.K o ta tb) := by
  have h1 := pe_cmpR (pos := pos) (cmp_ok o hu) ha hb hm
  refine ⟨fun pins s σ H Q I hw => ?_⟩
  rcases hw with hw | ⟨rfl, hw⟩ | ⟨rfl, hw⟩
  · exact h1.run pins s σ H Q I hw
  · exact (pe_cmp (pos := pos) (pc_din (by omega) ha hb) hm).run pins s σ H Q I hw
  · exact (pe_cmp (pos := pos) (pc_dnotin (by omega) ha hb) hm).run pins s σ H Q I hw
theorem pt_tCm (o : CO) (hu : X.A.units + 65 < cLine) {ta tb : TE} (ha : PE X a ta) (hb : PE X b tb) (hm : behindInMarks o.op b = false) : PT X (.Compare a [o.op] [b] pos) (tTest (tCm X.K o ta tb)) := by
  have h1 := pt_cmpR (pos := pos) (cmp_ok o hu) ha hb hm
  refine ⟨fun pins s σ H Q I hw => ?_⟩
  rcases hw with hw | ⟨rfl, hw⟩ | ⟨rfl, hw⟩
  · exact h1.run pins s σ H Q I hw
  · exact (pt_cmp (pos := pos) (pc_din (by omega) ha hb) hm).run pins s σ H Q I hw
  · exact (pt_cmp (pos := pos) (pc_dnotin (by omega) ha hb) hm).run pins s σ H Q I hw
theorem tCm_of {o : CO} {σ : L2.St} {H : Hp} {Q : VK} (h : tE X.K Φ (.cmp o ea eb) σ H Q) : tCm X.K o (tE X.K Φ ea) (tE X.K Φ eb) σ H Q := by
  obtain ⟨B, env, p, env', R, h, k⟩ := h
  unfold evE at h
  split at h
  · rename_i p1 e1 h1
    split at h
    · rename_i p2 e2 h2
      split at h
      · rename_i x y hx hy
        split at h
        · rename_i z hz
          cases h
          exact .inl ⟨B, env, p1, e1, R, h1, fun v H1 B1 c1 r1 => ⟨B1, e1, p2, _, c1.re, h2, fun w H2 B2 c2 r2 =>
            ⟨B2, x, y, z, c2.re.sub, pk_ok c2.re (r1.later c1.r0 c1.st c2.st) hx, pk_ok c2.re r2 hy, hz, k _ H2 B2 (c1.trans c2) (.bl z)⟩⟩⟩
        · cases h
      · unfold dcmp at h
        split at h
        · rename_i kd i
          split at h
          · rename_i m hm
            split at h
            · rename_i r hr
              cases h
              refine .inr (.inl ⟨rfl, B, env, _, e1, R, h1, fun v H1 B1 c1 r1 => ⟨B1, e1, _, _, c1.re, h2, fun w H2 B2 c2 r2 => ?_⟩⟩)
              obtain ⟨q, o, pa, hd, mo⟩ := c2.re.mo hm
              cases Option.some.inj (Option.some.inj (show some (some w) = some (some (V.ref q)) from r2.symm.trans pa))
              obtain ⟨ov, g, n1, n2⟩ := dlook_ok c2.re.sub hd mo (Rp.mono c2.st.bb r1) hr
              refine ⟨q, ov, rfl, g, ?_⟩
              have e : ov.isSome = r.isSome := by
                cases r with
                | none => rw [n1 rfl] <;> rfl
                | some d => obtain ⟨v, e, _⟩ := n2 d rfl; rw [e] <;> rfl
              rw [e]
              exact k _ H2 B2 (c1.trans c2) (.bl _)
            · cases h
          · cases h
        · rename_i kd i
          split at h
          · rename_i m hm
            split at h
            · rename_i r hr
              cases h
              refine .inr (.inr ⟨rfl, B, env, _, e1, R, h1, fun v H1 B1 c1 r1 => ⟨B1, e1, _, _, c1.re, h2, fun w H2 B2 c2 r2 => ?_⟩⟩)
              obtain ⟨q, o, pa, hd, mo⟩ := c2.re.mo hm
              cases Option.some.inj (Option.some.inj (show some (some w) = some (some (V.ref q)) from r2.symm.trans pa))
              obtain ⟨ov, g, n1, n2⟩ := dlook_ok c2.re.sub hd mo (Rp.mono c2.st.bb r1) hr
              refine ⟨q, ov, rfl, g, ?_⟩
              have e : ov.isSome = r.isSome := by
                cases r with
                | none => rw [n1 rfl] <;> rfl
                | some d => obtain ⟨v, e, _⟩ := n2 d rfl; rw [e] <;> rfl
              rw [e]
              exact k _ H2 B2 (c1.trans c2) (.bl _)
            · cases h
          · cases h
        · cases h
    · cases h
  · cases h
theorem ev_cmp (o : CO) (hu : X.A.units + 65 < cLine) (ha : PE X a (tE X.K Φ ea)) (hb : PE X b (tE X.K Φ eb)) (hm : behindInMarks o.op b = false) : PE X (.Compare a [o.op] [b] pos) (tE X.K Φ (.cmp o ea eb)) :=
  (pe_tCm o hu ha hb hm).imp fun σ H Q h => tCm_of h
theorem ev_neg (ha : PE X a (tE X.K Φ ea)) : PE X (.UnaryOp .USub a pos) (tE X.K Φ (.neg ea)) :=
  (pe_un un_neg ha).imp fun σ H Q ⟨B, env, p, env', R, h, k⟩ => by
    unfold evE at h
    split at h
    · rename_i i e1 h1
      cases h
      refine ⟨B, env, _, _, R, h1, fun v H1 B1 c1 r1 => ?_⟩
      cases r1
      exact ⟨i, rfl, k _ H1 B1 c1 (.int _)⟩
    · cases h
theorem evT_of {c : E} {env env' : En} {b : Bool} (h : evE Φ c env = some (.val (.bl b), env')) : evT Φ c env = some (b, env') := by
  unfold evT; rw [h]
theorem evT_iff {c : E} {env env' : En} {b : Bool} (h : evT Φ c env = some (b, env')) : evE Φ c env = some (.val (.bl b), env') := by
  unfold evT at h
  split at h
  · cases h; assumption
  · cases h
theorem ev_and {rest : List Expr} (ha : PE X a (tE X.K Φ ea)) (hb : PE X (.BoolOp .And (b :: rest) pos) (tE X.K Φ eb)) : PE X (.BoolOp .And (a :: b :: rest) pos) (tE X.K Φ (.and ea eb)) :=
  (pe_and ha hb).imp fun σ H Q ⟨B, env, p, env', R, h, k⟩ => by
    unfold evE at h
    split at h
    · rename_i e1 h1
      split at h
      · rename_i r e2 h2
        cases h
        refine ⟨B, env, _, _, R, h1, fun v H1 B1 c1 r1 => ?_⟩
        cases r1
        exact ⟨true, rfl, iteT ⟨B1, e1, _, _, c1.re, h2, fun w H2 B2 c2 r2 => k w H2 B2 (c1.trans c2) r2⟩⟩
      · cases h
    · rename_i e1 h1
      cases h
      refine ⟨B, env, _, _, R, h1, fun v H1 B1 c1 r1 => ?_⟩
      cases r1
      exact ⟨false, rfl, iteF (k _ H1 B1 c1 (.bl false))⟩
    · cases h
theorem ev_or {rest : List Expr} (ha : PE X a (tE X.K Φ ea)) (hb : PE X (.BoolOp .Or (b :: rest) pos) (tE X.K Φ eb)) : PE X (.BoolOp .Or (a :: b :: rest) pos) (tE X.K Φ (.or ea eb)) :=
  (pe_or ha hb).imp fun σ H Q ⟨B, env, p, env', R, h, k⟩ => by
    unfold evE at h
    split at h
    · rename_i e1 h1
      split at h
      · rename_i r e2 h2
        cases h
        refine ⟨B, env, _, _, R, h1, fun v H1 B1 c1 r1 => ?_⟩
        cases r1
        exact ⟨false, rfl, iteF ⟨B1, e1, _, _, c1.re, h2, fun w H2 B2 c2 r2 => k w H2 B2 (c1.trans c2) r2⟩⟩
      · cases h
    · rename_i e1 h1
      cases h
      refine ⟨B, env, _, _, R, h1, fun v H1 B1 c1 r1 => ?_⟩
      cases r1
      exact ⟨true, rfl, iteT (k _ H1 B1 c1 (.bl true))⟩
    · cases h
theorem ev_one {op : BoolOp} (ha : PE X a (tE X.K Φ ea)) : PE X (.BoolOp op [a] pos) (tE X.K Φ ea) := pe_one ha
theorem ev_not (ha : PE X a (tE X.K Φ ea)) : PE X (.UnaryOp .Not a pos) (tE X.K Φ (.not ea)) :=
  (pe_not ha).imp fun σ H Q ⟨B, env, p, env', R, h, k⟩ => by
    unfold evE at h
    split at h
    · rename_i r e1 h1
      cases h
      refine ⟨B, env, _, _, R, h1, fun v H1 B1 c1 r1 => ?_⟩
      cases r1
      exact ⟨r, rfl, k _ H1 B1 c1 (.bl _)⟩
    · cases h
theorem ev_ite (hc : PT X c (tT X.K Φ ec)) (ha : PE X a (tE X.K Φ ea)) (hb : PE X b (tE X.K Φ eb)) : PE X (.IfExp c a b pos) (tE X.K Φ (.ite ec ea eb)) :=
  (pe_ifExp hc ha hb).imp fun σ H Q ⟨B, env, p, env', R, h, k⟩ => by
    unfold evE at h
    split at h
    · rename_i e1 h1
      exact ⟨B, env, true, e1, R, evT_of h1, fun H1 B1 c1 => iteT ⟨B1, e1, p, env', c1.re, h, fun v H2 B2 c2 r2 => k v H2 B2 (c1.trans c2) (r2.sooner c1.st)⟩⟩
    · rename_i e1 h1
      exact ⟨B, env, false, e1, R, evT_of h1, fun H1 B1 c1 => iteF ⟨B1, e1, p, env', c1.re, h, fun v H2 B2 c2 r2 => k v H2 B2 (c1.trans c2) (r2.sooner c1.st)⟩⟩
    · cases h
theorem ev_chn (o o' : CO) (hu : X.A.units + 65 < cLine) (ha : PE X a (tE X.K Φ ea)) (hb : PE X b (tE X.K Φ eb)) (hc : PE X c (tE X.K Φ ec)) (hm : lastMarks [o.op, o'.op] [b, c] = false) :
    PE X (.Compare a [o.op, o'.op] [b, c] pos) (tE X.K Φ (.chn o o' ea eb ec)) :=
  (pe_chain (cmp_ok o hu) (cmp_ok o' hu) ha hb hc hm).imp fun σ H Q ⟨B, env, p, env', R, h, k⟩ => by
    unfold evE at h
    split at h
    · rename_i x e1 h1
      split at h
      · rename_i y e2 h2
        split at h
        · rename_i hz
          split at h
          · rename_i z e3 h3
            split at h
            · rename_i r hr
              cases h
              exact ⟨B, env, _, e1, R, h1, fun v H1 B1 c1 r1 => ⟨B1, e1, _, e2, c1.re, h2, fun w H2 B2 c2 r2 =>
                ⟨B2, x, y, true, c2.re.sub, .inl (Rp.mono c2.st.bb r1), .inl r2, hz, true, rfl, iteT ⟨B2, e2, _, _, c2.re, h3, fun u H3 B3 c3 r3 =>
                  ⟨B3, y, z, r, c3.re.sub, .inl (Rp.mono c3.st.bb r2), .inl r3, hr, k _ H3 B3 ((c1.trans c2).trans c3) (.bl r)⟩⟩⟩⟩⟩
            · cases h
          · cases h
        · rename_i hz
          cases h
          exact ⟨B, env, _, e1, R, h1, fun v H1 B1 c1 r1 => ⟨B1, e1, _, _, c1.re, h2, fun w H2 B2 c2 r2 =>
            ⟨B2, x, y, false, c2.re.sub, .inl (Rp.mono c2.st.bb r1), .inl r2, hz, false, rfl, iteF (k _ H2 B2 (c1.trans c2) (.bl false))⟩⟩⟩
        · cases h
      · cases h
    · cases h
theorem ixN_map {n m : Nat} (h : n = m) (i : Int) : ixN n i = ixN m i := by rw [h]
theorem RpA.atI {K : PySem.W.Frag} {B : Hp} {vs : List V} {ds : List D} {i : Int} {d : D} (r : RpA K B vs ds) (h : atI ds i = some d) : ∃ v, atI vs i = some v ∧ Rp K B v d := by
  unfold L2.atI at h ⊢
  rw [r.length]
  cases e : ixN ds.length i with
  | none => rw [e] at h; cases h
  | some j =>
    rw [e] at h
    exact r.get h
theorem ev_ix (hu : X.A.units + 65 < cLine) (ha : PE X a (tE X.K Φ ea)) (hb : PE X b (tE X.K Φ eb)) (hp : PlainIx b) (hs : NoSl b) : PE X (.Subscript a b pos) (tE X.K Φ (.ix ea eb)) :=
  ((pe_ix (ix_list.or ix_tup) ha hb hp).or (pe_dget (by omega) ha hb hs)).imp fun σ H Q ⟨B, env, p, env', R, h, k⟩ => by
    unfold evE at h
    split at h
    · rename_i p1 e1 h1
      split at h
      · rename_i y e2 h2
        split at h
        · rename_i x hx
          split at h
          · rename_i d hd
            cases h
            refine .inl ⟨B, env, p1, e1, R, h1, fun v H1 B1 c1 r1 => ⟨B1, e1, _, _, c1.re, h2, fun w H2 B2 c2 r2 => ?_⟩⟩
            have rs := pk_ok c2.re (r1.later c1.r0 c1.st c2.st) hx
            have kk : ∀ v, Rp X.K B2 v d → Q v H2 := fun v r => k v H2 B2 (c1.trans c2) r
            unfold ixOp at hd
            split at hd
            · cases r2
              obtain ⟨q, xs, rfl, hh, ra⟩ := rs.tup c2.re.sub
              obtain ⟨v, hv, rv⟩ := ra.atI hd
              exact .inr ⟨q, xs, _, v, rfl, rfl, hh, hv, kk v rv⟩
            · cases r2
              obtain ⟨q, xs, rfl, hh, ra⟩ := rs.lst c2.re.sub
              obtain ⟨v, hv, rv⟩ := ra.atI hd
              exact .inl ⟨q, xs, _, v, rfl, rfl, Evl.sq_of hh, hv, kk v rv⟩
            · cases r2
              obtain ⟨q, rfl, hh⟩ := rs.scr c2.re.sub
              rename_i ns i
              cases hi : L2.atI ns i with
              | none => rw [hi] at hd; cases hd
              | some n =>
                rw [hi] at hd; cases hd
                refine .inl ⟨q, _, _, .int n, rfl, rfl, hh, ?_, kk _ (.int n)⟩
                unfold L2.atI at hi ⊢
                rw [List.length_map]
                cases e : ixN ns.length i with
                | none => rw [e] at hi; cases hi
                | some j =>
                  rw [e] at hi
                  simp only [Option.bind_some] at hi ⊢
                  rw [List.getElem?_map, hi]; rfl
            · cases hd
          · cases h
        · split at h
          · rename_i d hd
            cases h
            refine .inr ⟨B, env, p1, e1, R, h1, fun v H1 B1 c1 r1 => ⟨B1, e1, _, _, c1.re, h2, fun w H2 B2 c2 r2 => ?_⟩⟩
            unfold dix at hd
            split at hd
            · split at hd
              · rename_i m hm
                split at hd
                · rename_i d' hr
                  cases hd
                  obtain ⟨q, o, pa, hd, mo⟩ := c2.re.mo hm
                  cases Option.some.inj (Option.some.inj (show some (some v) = some (some (V.ref q)) from r1.symm.trans pa))
                  obtain ⟨ov, g, n1, n2⟩ := dlook_ok c2.re.sub hd mo r2 hr
                  obtain ⟨u, e, ru⟩ := n2 _ rfl
                  subst e
                  exact ⟨q, u, rfl, g, k _ H2 B2 (c1.trans c2) ru⟩
                · cases hd
              · cases hd
            · cases hd
          · cases h
      · cases h
    · cases h
theorem vo_none : PO X none (tO X.K Φ .gone) :=
  po_none.imp fun σ H Q ⟨B, env, p, env', R, h, k⟩ => by
    cases h
    exact k H B (Cm.refl R)
theorem vo_some {ees : E} (ha : PE X a (tE X.K Φ ea)) : PO X (some a) (tO X.K Φ (.acons ea ees)) :=
  (po_some ha).imp fun σ H Q ⟨B, env, p, env', R, h, k⟩ => by
    unfold evO at h
    split at h
    · rename_i i e1 h1
      cases h
      refine ⟨B, env, _, _, R, h1, fun v H1 B1 c1 r1 => ?_⟩
      cases r1
      exact ⟨i, rfl, k H1 B1 c1⟩
    · cases h
theorem RpA.cut {K : PySem.W.Frag} {B : Hp} {vs : List V} {ds : List D} (r : RpA K B vs ds) (lo hi : Option Int) : RpA K B (cutV vs lo hi) (cutD ds lo hi) := by
  unfold cutV cutD
  rw [r.length]
  exact (r.drop _).take _
theorem slc_nz {x : D} {l h : Option Int} {z : P} (e : slcOp x l h = some z) : (∃ d, z = .val d) ∨ ∃ m, z = .new m := by
  unfold slcOp at e
  split at e <;> cases e
  · exact .inl ⟨_, rfl⟩
  · exact .inr ⟨_, rfl⟩
  · exact .inr ⟨_, rfl⟩
theorem cut_whole {ds : List D} {lo hi : Option Int} (h : HT.sIx ds.length 0 lo = 0 ∧ HT.sIx ds.length ds.length hi = ds.length) : cutD ds lo hi = ds := by
  unfold cutD
  rw [h.1, h.2]
  simp
theorem ev_slc {lo hi : Option Expr} {el eh : E} {p2 : Pos} (ha : PE X a (tE X.K Φ ea)) (hl : PO X lo (tO X.K Φ el)) (hh : PO X hi (tO X.K Φ eh)) : PE X (.Subscript a (.Slice lo hi none p2) pos) (tE X.K Φ (.slc ea el eh)) :=
  (pe_slice (SlR.or sl_list sl_tupA) ha hl hh).imp fun σ H Q ⟨B, env, p, env', R, h, k⟩ => by
    unfold evE at h
    split at h
    · rename_i p1 e1 h1
      split at h
      · rename_i l e2 h2
        split at h
        · rename_i u e3 h3
          split at h
          · rename_i x hx
            split at h
            · rename_i z hz
              cases h
              refine ⟨B, env, p1, e1, R, h1, fun v H1 B1 c1 r1 => ⟨B1, e1, l, e2, c1.re, h2, fun H2 B2 c2 => ⟨B2, e2, u, _, c2.re, h3, fun H3 B3 c3 => ?_⟩⟩⟩
              have rs := pk_ok c3.re ((r1.later c1.r0 c1.st c2.st).later c1.r0 (c1.trans c2).st c3.st) hx
              have q := ResP.of ((c1.trans c2).trans c3) k (slc_nz hz)
              unfold slcOp at hz
              split at hz
              · cases hz
                obtain ⟨b, xs, rfl, hb, ra⟩ := rs.tup c3.re.sub
                refine .inr ⟨b, xs, rfl, hb, fun w => ?_, fun _ p n => q.tup c3.re.sub (ra.cut l u) n⟩
                rw [ra.length] at w
                rw [cut_whole w] at q
                rcases rs with rs | ⟨_, _, _, _, w, _⟩
                · exact q.rp c3.re.sub rs
                · cases w
              · cases hz
                obtain ⟨b, xs, rfl, hb, ra⟩ := rs.lst c3.re.sub
                exact .inl ⟨b, xs, rfl, Evl.sq_of hb, fun p n => q.lst c3.re.sub (ra.cut l u) n⟩
              · cases hz
                obtain ⟨b, rfl, hb⟩ := rs.scr c3.re.sub
                exact .inl ⟨b, _, rfl, hb, fun p n => q.lst c3.re.sub ((RpA.ofInts _).cut l u) n⟩
              · cases hz
            · cases h
          · cases h
        · cases h
      · cases h
    · cases h

/-! ### tests -/
theorem et_val {e : Expr} {ee : E} (h : PE X e (tE X.K Φ ee)) (he : ∀ whole, isTrue e X.env whole = (do let v ← whole; standAt e.pos; holding [v] (truthy v))) : PT X e (tT X.K Φ ee) :=
  (pt_val h he).imp fun σ H Q ⟨B, env, b, env', R, h, k⟩ => ⟨B, env, _, env', R, evT_iff h, fun v H1 B1 c1 r1 => by
    cases r1
    exact ⟨b, rfl, k H1 B1 c1⟩⟩
theorem et_cmp (o : CO) (hu : X.A.units + 65 < cLine) (ha : PE X a (tE X.K Φ ea)) (hb : PE X b (tE X.K Φ eb)) (hm : behindInMarks o.op b = false) : PT X (.Compare a [o.op] [b] pos) (tT X.K Φ (.cmp o ea eb)) :=
  (pt_tCm o hu ha hb hm).imp fun σ H Q ⟨B, env, r, env', R, h, k⟩ => tCm_of ⟨B, env, _, env', R, evT_iff h, fun v H1 B1 c1 r1 => by
    cases r1
    exact ⟨r, rfl, k H1 B1 c1⟩⟩
theorem et_chn (o o' : CO) (hu : X.A.units + 65 < cLine) (ha : PE X a (tE X.K Φ ea)) (hb : PE X b (tE X.K Φ eb)) (hc : PE X c (tE X.K Φ ec)) (hm : lastMarks [o.op, o'.op] [b, c] = false) :
    PT X (.Compare a [o.op, o'.op] [b, c] pos) (tT X.K Φ (.chn o o' ea eb ec)) :=
  (pt_chain (cmp_ok o hu) (cmp_ok o' hu) ha hb hc hm).imp fun σ H Q ⟨B, env, r0, env', R, h, k⟩ => by
    have h := evT_iff h
    unfold evE at h
    split at h
    · rename_i x e1 h1
      split at h
      · rename_i y e2 h2
        split at h
        · rename_i hz
          split at h
          · rename_i z e3 h3
            split at h
            · rename_i r hr
              cases h
              exact ⟨B, env, _, e1, R, h1, fun v H1 B1 c1 r1 => ⟨B1, e1, _, e2, c1.re, h2, fun w H2 B2 c2 r2 =>
                ⟨B2, x, y, true, c2.re.sub, .inl (Rp.mono c2.st.bb r1), .inl r2, hz, true, rfl, iteT ⟨B2, e2, _, _, c2.re, h3, fun u H3 B3 c3 r3 =>
                  ⟨B3, y, z, r0, c3.re.sub, .inl (Rp.mono c3.st.bb r2), .inl r3, hr, r0, rfl, k H3 B3 ((c1.trans c2).trans c3)⟩⟩⟩⟩⟩
            · cases h
          · cases h
        · rename_i hz
          cases h
          exact ⟨B, env, _, e1, R, h1, fun v H1 B1 c1 r1 => ⟨B1, e1, _, _, c1.re, h2, fun w H2 B2 c2 r2 =>
            ⟨B2, x, y, false, c2.re.sub, .inl (Rp.mono c2.st.bb r1), .inl r2, hz, false, rfl, iteF ⟨false, rfl, k H2 B2 (c1.trans c2)⟩⟩⟩⟩
        · cases h
      · cases h
    · cases h
theorem et_not (ha : PT X a (tT X.K Φ ea)) : PT X (.UnaryOp .Not a pos) (tT X.K Φ (.not ea)) :=
  (pt_not ha).imp fun σ H Q ⟨B, env, r0, env', R, h, k⟩ => by
    have h := evT_iff h
    unfold evE at h
    split at h
    · rename_i r e1 h1
      cases h
      exact ⟨B, env, r, _, R, evT_of h1, fun H1 B1 c1 => k H1 B1 c1⟩
    · cases h
theorem ew_one {op : BoolOp} (ha : PT X a (tT X.K Φ ea)) : PW X (.BoolOp op [a] pos) (tT X.K Φ ea) := by
  cases op with
  | And => exact pw_and1 ha
  | Or => exact pw_or1 ha
theorem ew_and {rest : List Expr} (ha : PT X a (tT X.K Φ ea)) (hb : PW X (.BoolOp .And (b :: rest) pos) (tT X.K Φ eb)) : PW X (.BoolOp .And (a :: b :: rest) pos) (tT X.K Φ (.and ea eb)) :=
  (pw_and ha hb).imp fun σ H Q ⟨B, env, r0, env', R, h, k⟩ => by
    have h := evT_iff h
    unfold evE at h
    split at h
    · rename_i e1 h1
      split at h
      · rename_i r e2 h2
        cases h
        exact ⟨B, env, true, e1, R, evT_of h1, fun H1 B1 c1 => iteT ⟨B1, e1, _, _, c1.re, evT_of h2, fun H2 B2 c2 => k H2 B2 (c1.trans c2)⟩⟩
      · cases h
    · rename_i e1 h1
      cases h
      exact ⟨B, env, false, _, R, evT_of h1, fun H1 B1 c1 => iteF (k H1 B1 c1)⟩
    · cases h
theorem ew_or {rest : List Expr} (ha : PT X a (tT X.K Φ ea)) (hb : PW X (.BoolOp .Or (b :: rest) pos) (tT X.K Φ eb)) : PW X (.BoolOp .Or (a :: b :: rest) pos) (tT X.K Φ (.or ea eb)) :=
  (pw_or ha hb).imp fun σ H Q ⟨B, env, r0, env', R, h, k⟩ => by
    have h := evT_iff h
    unfold evE at h
    split at h
    · rename_i e1 h1
      split at h
      · rename_i r e2 h2
        cases h
        exact ⟨B, env, false, e1, R, evT_of h1, fun H1 B1 c1 => iteF ⟨B1, e1, _, _, c1.re, evT_of h2, fun H2 B2 c2 => k H2 B2 (c1.trans c2)⟩⟩
      · cases h
    · rename_i e1 h1
      cases h
      exact ⟨B, env, true, _, R, evT_of h1, fun H1 B1 c1 => iteT (k H1 B1 c1)⟩
    · cases h
end
end Mi

/-! Mi7: calls. -/
namespace Mi
open PySem PySem.Spec PyProof.Rows L2

/-! ### a def's promise, by what it gives -/
def ownA : List V → List Arg → List Addr
  | .ref a :: vs, .own _ :: as => a :: ownA vs as
  | _ :: vs, _ :: as => ownA vs as
  | _, _ => []
def ArgOk (K : PySem.W.Frag) (B H : Hp) (v : V) : Arg → Prop
  | .dat d => Rp K B v d
  | .own m => ∃ a o, v = .ref a ∧ B a = none ∧ H a = some o ∧ MOk K B o m
def RetOk (K : PySem.W.Frag) (H H' B' : Hp) (v : V) : Ret → Prop
  | .val d => Rp K B' v d
  | .new m => ∃ a o, v = .ref a ∧ H a = none ∧ H' a = some o ∧ B' a = none ∧ MOk K B' o m
def OutOk (K : PySem.W.Frag) (H' B' : Hp) (a : Addr) (m : MO) : Prop := B' a = none ∧ ∃ o, H' a = some o ∧ MOk K B' o m
/-- what a call leaves: fs are the arguments that it may write to -/
structure Lft (fs : List Addr) (H B H' B' : Hp) : Prop where
  bb : Sub B B'
  bh : Sub B' H'
  th : ∀ {a}, H' a = none → H a = none
  fr : ∀ {a o}, H a = some o → a ∉ fs → H' a = some o
  fre : ∀ {a o}, B' a = some o → (∃ u, B a = some u) ∨ H a = none
def spF (K : PySem.W.Frag) (F : Fn) (vs : List V) (H : Hp) (Q : VK) : Prop := ∃ B as r ms, Sub B H ∧ Paired (ArgOk K B H) vs as ∧ (ownA vs as).Nodup ∧ F as = some (r, ms) ∧
  ∀ v H' B', Lft (ownA vs as) H B H' B' → RetOk K H H' B' v r → Paired (OutOk K H' B') (ownA vs as) ms → Q v H'
structure FnG (P : Program) (w : World) (K : PySem.W.Frag) (mg : Str → Option Value) (base : Heap) (k : Nat) (f : Addr) (fd : FuncData) (ps : List Str) (F : Fn) : Prop where
  len : ∀ {as r}, F as = some r → as.length = ps.length
  run : ∀ (A : Around) (outer : List Env) (s : Shared) (H : Hp) (args : Args) (us : List Value) (vs : List V) (Q : VK), Room k A → A.guards = some [] → Env0 P w K mg base A outer s H → BindsTo s fd args (ps.zip us) → Vals vs us → spF K F vs H Q →
    codeAny (model P w) A (.call (.ref f) args) (CR CX0 outer P w H s Q E0) s
theorem FnG.mono {P : Program} {w : World} {K : PySem.W.Frag} {mg : Str → Option Value} {base : Heap} {j k : Nat} {f : Addr} {fd : FuncData} {ps : List Str} {F : Fn} (G : FnG P w K mg base j f fd ps F) (h : j ≤ k) : FnG P w K mg base k f fd ps F :=
  ⟨G.len, fun A outer s H args us vs Q hr => G.run A outer s H args us vs Q (hr.mono h)⟩
theorem paired_len {α β : Type} {F : α → β → Prop} {l : List α} {l2 : List β} (h : Paired F l l2) : l.length = l2.length := Paired.length h
theorem run_g {X : Cx} {k : Nat} {f : Addr} {fd : FuncData} {ps : List Str} {F : Fn} {pins : List (Addr × Obj)} {σ : L2.St} {H : Hp} {s : Shared} {Q : VK} {us : List Value} {vs : List V} (G : FnG X.prog X.w X.K X.mg X.base k f fd ps F) (hr : Room k X.A) (hg : X.A.guards = some []) (hb : Binds X.K fd ps [])
    (I : Inv X pins σ H s) (r : Vals vs us) (h : spF X.K F vs H Q) : wpAny (model X.prog X.w) X.A (call (.ref f) us) (EP X pins σ Q) X.xe s := by
  obtain ⟨B, as, rt, ms, e1, e2, e3, e4, e5⟩ := h
  have hl : (us ++ []).length = ps.length := by rw [List.append_nil, ← r.length, paired_len e2]; exact G.len e4
  have b0 := hb s us I.kIn hl
  rw [List.append_nil] at b0
  refine wpAny_call (codeAny_mono (G.run X.A X.stack s H ⟨us, []⟩ us vs Q hr hg I.env0 b0 r ⟨B, as, rt, ms, e1, e2, e3, e4, e5⟩) fun z s' hz => ?_)
  cases z with
  | error e => exact False.elim hz
  | ok fl => cases fl with
    | ret u => exact I.after hz
    | next => exact False.elim hz
    | brk => exact False.elim hz
    | cont => exact False.elim hz

/-- what the code at hand leans on -/
structure GX (nms : List Str) (Φ : Nat → Fn) (X : Cx) (k : Nat) : Prop where
  calm : X.calm = true
  nd : X.N.Nodup
  room : Room k X.A
  gd : X.A.guards = some []
  blt : ∀ x : Str, x ∈ (["len", "sum", "all", "any", "int", "abs", "list", "tuple", "sorted", "max", "min", "repr", "isinstance", "range", "enumerate", "zip", "bool", "str", "dict"] : List Str) → X.mg x = none
  fns : ∀ (i : Nat) (x : Str) (as : List Arg) (r : Ret × List MO), nms[i]? = some x → Φ i as = some r → ∃ f fd ps, X.mg x = some (.ref f) ∧ PySem.W.keepIn X.K (.ref f) = true ∧ Binds X.K fd ps [] ∧ FnG X.prog X.w X.K X.mg X.base k f fd ps (Φ i)
theorem GX.hu {nms : List Str} {Φ : Nat → Fn} {X : Cx} {k : Nat} (g : GX nms Φ X k) : X.A.units + 65 < cLine := by
  have := g.room.un
  omega

section
variable {K : PySem.W.Frag} {σ : L2.St} {H B H' B' H1 B1 : Hp} {env env' env1 : En} {v : V} {p : P} {d : D} {vs : List V} {ps : List P}
/-- the arguments of a call -/
theorem args_ok : ∀ {ps : List P} {vs : List V} {as : List Arg} {is : List Nat} {B' : Hp}, Cm K σ H B env H' B' env' → RpPA K σ H H' B' vs ps → toArgs ps env' = some (as, is) →
    ∃ B2, Cm K σ H B env H' B2 env' ∧ Sub B' B2 ∧ Paired (ArgOk K B2 H') vs as ∧ Paired (fun (a : Addr) (i : Nat) => At σ i a ∧ ∃ fz m, env'[i]? = some (Slot.own fz m)) (ownA vs as) is ∧ is.Nodup
  | [], vs, as, is, B', c, h, e => by
    cases e
    cases h.all
    exact ⟨B', c, Sub.refl _, .nil, .nil, List.nodup_nil⟩
  | p :: ps, vs, as, is, B', c, h, e => by
    obtain ⟨hall, hnd⟩ := h
    cases hall with
    | cons r t =>
      rename_i v vs
      cases p with
      | its _ => cases e
      | val d =>
        have nd2 : (newsA vs ps).Nodup := by cases v <;> exact hnd
        unfold toArgs at e
        cases h2 : toArgs ps env' with
        | none => rw [h2] at e; cases e
        | some q =>
          obtain ⟨as2, is2⟩ := q
          rw [h2] at e
          cases e
          obtain ⟨B2, c2, s2, a2, o2, n2⟩ := args_ok c ⟨t, nd2⟩ h2
          exact ⟨B2, c2, s2, .cons (Rp.mono s2 r) a2, by cases v <;> exact o2, n2⟩
      | new m =>
        cases m with
        | dK _ => cases e
        | dT _ => cases e
        | lst ds =>
          unfold toArgs at e
          cases h2 : toArgs ps env' with
          | none => rw [h2] at e; cases e
          | some q =>
            obtain ⟨as2, is2⟩ := q
            rw [h2] at e
            cases e
            obtain ⟨B3, c3, s3, r3, k3⟩ := fz_ok c r (show fz (.new (.lst ds)) env' = some (.lst ds, env') from rfl)
            obtain ⟨a, o, rfl, _⟩ := r
            have t3 : Paired (fun v p => RpP K σ H H' B3 v p) vs ps := Paired.mapW t fun i w q g1 g2 hq => k3 hq fun b ea eb m m' ep eq => by
              subst eb eq
              cases ea
              exact (List.nodup_cons.mp hnd).1 (newsA_mem g1 g2)
            obtain ⟨B2, c2, s2, a2, o2, n2⟩ := args_ok c3 ⟨t3, (List.nodup_cons.mp hnd).2⟩ h2
            exact ⟨B2, c2, s3.trans s2, .cons (r3.mono s2) a2, o2, n2⟩
      | slot i =>
        have nd2 : (newsA vs ps).Nodup := by cases v <;> exact hnd
        unfold toArgs at e
        split at e
        · rename_i f m as2 is2 hi h2
          split at e
          · cases e
          · cases e
            obtain ⟨B2, c2, s2, a2, o2, n2⟩ := args_ok c ⟨t, nd2⟩ h2
            obtain ⟨a, o, pa, x1, x2, x3⟩ := c2.re.own hi
            cases Option.some.inj (Option.some.inj (show some (some v) = some (some (V.ref a)) from r.symm.trans pa))
            exact ⟨B2, c2, s2, .cons ⟨a, o, rfl, x1, x2, x3⟩ a2, .cons ⟨pa, _, _, hi⟩ o2, List.nodup_cons.mpr ⟨by assumption, n2⟩⟩
        · rename_i d as2 is2 hi h2
          cases e
          obtain ⟨B2, c2, s2, a2, o2, n2⟩ := args_ok c ⟨t, nd2⟩ h2
          obtain ⟨w, pw, rw⟩ := c2.re.dat hi
          cases Option.some.inj (Option.some.inj (show some (some v) = some (some w) from r.symm.trans pw))
          exact ⟨B2, c2, s2, .cons rw a2, by cases v <;> exact o2, n2⟩
        · cases e
theorem paired_mem {α β : Type} {F : α → β → Prop} : ∀ {l : List α} {l2 : List β}, Paired F l l2 → ∀ a ∈ l, ∃ b ∈ l2, F a b
  | _, _, .nil, a, h => by cases h
  | _, _, .cons r t, a, h => by
    rcases List.mem_cons.mp h with rfl | h
    · exact ⟨_, List.mem_cons_self, r⟩
    · obtain ⟨b, h1, h2⟩ := paired_mem t a h
      exact ⟨b, List.mem_cons_of_mem _ h1, h2⟩
theorem paired_at {α β : Type} {F : α → β → Prop} : ∀ {l : List α} {l2 : List β}, Paired F l l2 → ∀ {i : Nat} {b : β}, l2[i]? = some b → ∃ a, l[i]? = some a ∧ F a b
  | _, _, .nil, i, b, h => by simp at h
  | _, _, .cons r t, 0, b, h => by simp at h; subst h; exact ⟨_, rfl, r⟩
  | _, _, .cons r t, i + 1, b, h => by
    obtain ⟨a, h1, h2⟩ := paired_at t (i := i) (by simpa using h)
    exact ⟨a, by simpa using h1, h2⟩
theorem paired_at1 {α β : Type} {F : α → β → Prop} : ∀ {l : List α} {l2 : List β}, Paired F l l2 → ∀ {i : Nat} {a : α}, l[i]? = some a → ∃ b, l2[i]? = some b ∧ F a b
  | _, _, .nil, i, b, h => by simp at h
  | _, _, .cons r t, 0, b, h => by simp at h; subst h; exact ⟨_, rfl, r⟩
  | _, _, .cons r t, i + 1, b, h => by
    obtain ⟨a, h1, h2⟩ := paired_at1 t (i := i) (by simpa using h)
    exact ⟨a, by simpa using h1, h2⟩
theorem apart_nd (R : RE K σ H B env) : ∀ {fs : List Addr} {is : List Nat}, Paired (fun (a : Addr) (i : Nat) => At σ i a ∧ ∃ fz m, env[i]? = some (Slot.own fz m)) fs is → is.Nodup → fs.Nodup
  | _, _, .nil, _ => List.nodup_nil
  | _, _, .cons r t, h => by
    obtain ⟨h1, h2⟩ := List.nodup_cons.mp h
    refine List.nodup_cons.mpr ⟨fun z => ?_, apart_nd R t h2⟩
    obtain ⟨j, hj, pj, f, m, ej⟩ := paired_mem t _ z
    obtain ⟨pi, f', m', ei⟩ := r
    exact h1 (R.apart ei ej rfl rfl pi pj ▸ hj)
/-- what is written back -/
theorem putBack_at : ∀ {is : List Nat} {ms : List MO} {env e2 : En}, putBack is ms env = some e2 → is.Nodup → e2.length = env.length ∧ is.length = ms.length ∧ ∀ {j : Nat} {s : Slot}, e2[j]? = some s →
    (j ∉ is ∧ env[j]? = some s) ∨ ∃ (k : Nat) (m : MO) (f : Bool) (m0 : MO), is[k]? = some j ∧ ms[k]? = some m ∧ s = .own f m ∧ env[j]? = some (.own f m0)
  | [], [], env, e2, h, _ => by cases h; exact ⟨rfl, rfl, fun h => .inl ⟨by simp, h⟩⟩
  | [], _ :: _, _, _, h, _ => by cases h
  | _ :: _, [], _, _, h, _ => by cases h
  | i :: is, m :: ms, env, e2, h, nd => by
    unfold putBack at h
    obtain ⟨n1, n2⟩ := List.nodup_cons.mp nd
    split at h
    · rename_i f m0 hi
      obtain ⟨l1, l2, k⟩ := putBack_at h n2
      refine ⟨by rw [l1, List.length_set], by simp [l2], fun {j s} hs => ?_⟩
      rcases k hs with ⟨h1, h2⟩ | ⟨q, m', f', m1, h1, h2, h3, h4⟩
      · rcases set_get h2 with ⟨rfl, rfl⟩ | ⟨ne, h2⟩
        · exact .inr ⟨0, m, f, m0, rfl, rfl, rfl, hi⟩
        · exact .inl ⟨by simp [ne, h1], h2⟩
      · rcases set_get h4 with ⟨rfl, e⟩ | ⟨ne, h4⟩
        · exact absurd (List.mem_of_getElem? h1) n1
        · exact .inr ⟨q + 1, m', f', m1, by simpa using h1, by simpa using h2, h3, h4⟩
    · cases h
theorem call_back {fs : List Addr} {is : List Nat} {ms : List MO} {e2 : En} (R : RE K σ H B env) (hf : Paired (fun (a : Addr) (i : Nat) => At σ i a ∧ ∃ fz m, env[i]? = some (Slot.own fz m)) fs is) (nd : is.Nodup)
    (L : Lft fs H B H' B') (ho : Paired (OutOk K H' B') fs ms) (hp : putBack is ms env = some e2) : Cm K σ H B env H' B' e2 := by
  obtain ⟨l1, l2, kp⟩ := putBack_at hp nd
  have fsown : ∀ a ∈ fs, Own σ env a := fun a ha => by
    obtain ⟨i, _, pi, f, m, e⟩ := paired_mem hf a ha
    exact ⟨i, f, m, e, pi⟩
  have notfs : ∀ {j : Nat} {a : Addr} {f : Bool} {m : MO}, env[j]? = some (Slot.own f m) → At σ j a → j ∉ is → a ∉ fs := fun {j a f m} e pa nj ha => by
    obtain ⟨i, hi, pi, f', m', e'⟩ := paired_mem hf a ha
    exact nj (R.apart e e' rfl rfl pa pi ▸ hi)
  have nb : ∀ {a : Addr} {o : HO}, H a = some o → B a = none → B' a = none := fun {a o} h b => by
    cases q : B' a with
    | none => rfl
    | some u =>
      rcases L.fre q with ⟨w, x⟩ | x
      · rw [b] at x; cases x
      · rw [h] at x; cases x
  refine ⟨R, ⟨L.bb, L.th, fun h n => L.fr h fun z => n (fsown _ z), fun h => ?_, fun {j f m} h => ?_, fun {j f m} => ⟨fun h => ?_, fun h => ?_⟩⟩, ⟨L.bh, by rw [l1]; exact R.len, fun {j d} h => ?_, fun {j f m} h => ?_, fun {j f m} h => ?_, fun {i j s t p} h1 h2 m1 m2 x1 x2 => ?_⟩⟩
  · rcases L.fre h with x | x
    · exact .inl x
    · exact .inr (.inl x)
  · rcases kp h with ⟨_, h⟩ | ⟨k, m', f', m0, _, _, e, h⟩
    · exact ⟨_, h⟩
    · cases e; exact ⟨_, h⟩
  · rcases kp h with ⟨_, h⟩ | ⟨k, m', f', m0, _, _, e, _⟩
    · exact h
    · cases e
  · cases hs : e2[j]? with
    | none =>
      have lt : j < env.length := by
        rcases Nat.lt_or_ge j env.length with z | z
        · exact z
        · rw [List.getElem?_eq_none z] at h; cases h
      rw [← l1] at lt
      rw [List.getElem?_eq_getElem lt] at hs
      cases hs
    | some s =>
      rcases kp hs with ⟨_, h'⟩ | ⟨k, m', f', m0, _, _, e, h'⟩
      · rw [h] at h'; cases h'; rfl
      · rw [h] at h'; cases h'
  · rcases kp h with ⟨_, h⟩ | ⟨k, m', f', m0, _, _, e, h⟩
    · obtain ⟨v, x, r⟩ := R.dat h
      exact ⟨v, x, r.mono L.bb⟩
    · cases e
  · rcases kp h with ⟨nj, h⟩ | ⟨k, m', f', m0, h1, h2, e, h⟩
    · obtain ⟨p, o, pa, x, y, z⟩ := R.own h
      exact ⟨p, o, pa, nb y x, L.fr y (notfs h pa nj), z.mono L.bb⟩
    · cases e
      obtain ⟨a, ha, pa, _⟩ := paired_at hf h1
      obtain ⟨m2, hm, nb2, o, ho2, mo⟩ := paired_at1 ho ha
      rw [h2] at hm
      cases hm
      exact ⟨a, o, pa, nb2, ho2, mo⟩
  · rcases kp h with ⟨nj, h⟩ | ⟨k, m', f', m0, _, _, e, h⟩
    · obtain ⟨p, o, pa, x, y, z⟩ := R.lck h
      have nfs : p ∉ fs := fun ha => by
        obtain ⟨i, hi, pi, f', m', e'⟩ := paired_mem hf p ha
        exact nj (R.apart h e' rfl rfl pa pi ▸ hi)
      refine ⟨p, o, pa, ?_, y.mono fun u hu => L.fr hu nfs, z.mono L.bb⟩
      rcases y.rd with y | ⟨u, y⟩
      · exact nb y x
      · exact nb y x
    · cases e
  · have o1 : ∃ s0, env[i]? = some s0 ∧ s0.mut = true := by
      rcases kp h1 with ⟨_, h⟩ | ⟨k, m', f', m0, _, _, e, h⟩
      · exact ⟨_, h, m1⟩
      · exact ⟨_, h, rfl⟩
    have o2 : ∃ s0, env[j]? = some s0 ∧ s0.mut = true := by
      rcases kp h2 with ⟨_, h⟩ | ⟨k, m', f', m0, _, _, e, h⟩
      · exact ⟨_, h, m2⟩
      · exact ⟨_, h, rfl⟩
    obtain ⟨_, o1, w1⟩ := o1
    obtain ⟨_, o2, w2⟩ := o2
    exact R.apart o1 o2 w1 w2 x1 x2
end
section
variable {nms : List Str} {X : Cx} {Φ : Nat → Fn} {k : Nat} {pos p0 : Pos} {x : Str} {i : Nat}
/-- what a call of a def asks, from the evaluator -/
theorem call_sp {σ : L2.St} {H B H' B' : Hp} {env env' : En} {vs : List V} {ps : List P} {as : List Arg} {is : List Nat} {r : Ret} {ms : List MO} {e2 : En} {Q : VK} (c : Cm X.K σ H B env H' B' env') (hr : RpPA X.K σ H H' B' vs ps)
    (h1 : toArgs ps env' = some (as, is)) (h2 : Φ i as = some (r, ms)) (h3 : putBack is ms env' = some e2) (k : ∀ v H2 B2, Cm X.K σ H B env H2 B2 e2 → RpP X.K σ H H2 B2 v r.p → Q v H2) : spF X.K (Φ i) vs H' Q := by
  obtain ⟨B2, c2, s2, a2, o2, n2⟩ := args_ok c hr h1
  refine ⟨B2, as, r, ms, c2.re.sub, a2, apart_nd c2.re o2 n2, h2, fun v H3 B3 L rt ho => ?_⟩
  have c3 := c2.trans (call_back c2.re o2 n2 L ho h3)
  refine k v H3 B3 c3 ?_
  cases r with
  | val d => exact rt
  | new m =>
    obtain ⟨a, o, e, n, x1, x2, x3⟩ := rt
    exact ⟨a, o, e, c.st.th n, x1, x2, x3⟩
theorem ev_call {es : List Expr} {ees : E} {a : Expr} (g : GX nms Φ X k) (hx : nms[i]? = some x) (hg : Gl X x) (ha : PA X (a :: es) (tA X.K Φ ees)) (hdb : (x == ("__debug__" : Str)) = false)
    (st : starEach (a :: es) X.env = (false, eval a X.env) :: starEach es X.env) (hpl : (backTo pos (starEach es X.env)).any (·.1) = false) : PE X (.Call (.Name x p0) (a :: es) [] pos) (tE X.K Φ (.call i ees)) := by
  refine ⟨fun pins s σ H Q I h => ?_⟩
  obtain ⟨B, env, p, env', R, h, kk⟩ := h
  unfold evE at h
  split at h
  · rename_i ps e1 h1
    split at h
    · rename_i as is h2
      split at h
      · rename_i r ms h3
        split at h
        · rename_i e2 h4
          cases h
          obtain ⟨f, fd, pars, hm, hk, hb, G⟩ := g.fns i x as _ hx h3
          refine wpAny_Call_Name_kw (ld_glob I hg hm ?_ hdb)
          refine PySem.W.callWith_K (h₀ := X.base) I.ok.mod.kin hk (thn (ha.run pos pins s σ H _ I ⟨B, env, ps, e1, R, h1, fun vs H1 B1 c1 r1 => ?Z⟩) fun us s1 ⟨vs, H1, I1, r1, q1⟩ => ⟨I1.kIn, run_g G g.room g.gd hb I1 r1 q1⟩) st hpl
          exact call_sp c1 r1 h2 h3 h4 kk
        · cases h
      · cases h
    · cases h
  · cases h
theorem ev_call0 {ees : E} (g : GX nms Φ X k) (hx : nms[i]? = some x) (hg : Gl X x) (hdb : (x == ("__debug__" : Str)) = false) : PE X (.Call (.Name x p0) [] [] pos) (tE X.K Φ (.call i .anil)) := by
  refine ⟨fun pins s σ H Q I h => ?_⟩
  obtain ⟨B, env, p, env', R, h, kk⟩ := h
  unfold evE at h
  split at h
  · rename_i ps e1 h1
    split at h
    · rename_i as is h2
      split at h
      · rename_i r ms h3
        split at h
        · rename_i e2 h4
          cases h
          cases h1
          obtain ⟨f, fd, pars, hm, hk, hb, G⟩ := g.fns i x as _ hx h3
          refine wpAny_Call_Name_kw (ld_glob I hg hm ?_ hdb)
          exact PySem.W.callWith_K0 I.kIn hk (run_g (us := []) G g.room g.gd hb I .nil (call_sp (Cm.refl R) RpPA.nil h2 h3 h4 kk))
        · cases h
      · cases h
    · cases h
  · cases h
end
end Mi

/-! Mi8: calls of built-ins, methods. -/
namespace Mi
open PySem PySem.Spec PyProof.Rows L2

def BI.name : BI → Str
  | .len => "len" | .sum => "sum" | .all => "all" | .any => "any" | .int => "int" | .abs => "abs" | .list => "list" | .tuple => "tuple" | .sorted => "sorted"
  | .max2 => "max" | .min2 => "min" | .max1 => "max" | .min1 => "min" | .repr => "repr" | .isi _ => "isinstance"
theorem boots (b : BI) : bootBuiltins b.name = some b.fn := by
  cases b with
  | isi t => show bootBuiltins "isinstance" = some (.builtin "isinstance"); decide +kernel
  | _ => decide +kernel
theorem bi_nz {b : BI} {ds : List D} {z : P} (h : biOp b ds = some z) : (∃ d, z = .val d) ∨ ∃ m, z = .new m := by
  unfold biOp at h
  repeat' split at h
  all_goals first | (cases h; exact .inl ⟨_, rfl⟩) | (cases h; exact .inr ⟨_, rfl⟩) | cases h

section
variable {nms : List Str} {X : Cx} {Φ : Nat → Fn} {k : Nat} {pos p0 : Pos} {a : Expr} {es : List Expr} {ea eb : E}
theorem bi_entails {b : BI} {ees : E} {σ : L2.St} {H : Hp} {Q : VK} (h : tE X.K Φ (.bi b ees) σ H Q) : tCB (rBi X.K b) (tA X.K Φ ees) σ H Q := by
  obtain ⟨B, env, p, env', R, h, kk⟩ := h
  unfold evE at h
  split at h
  · rename_i ps e1 h1
    split at h
    · rename_i ds h2
      split at h
      · rename_i r h3
        cases h
        exact ⟨B, env, ps, _, R, h1, fun vs H1 B1 c1 r1 => ⟨B1, ds, _, c1.re.sub, pks_ok c1.re r1.all h2, h3, ResP.of c1 kk (bi_nz h3)⟩⟩
      · cases h
    · cases h
  · cases h
theorem ev_bi (b : BI) {ees : E} (g : GX nms Φ X k) (nisi : ∀ t, b ≠ .isi t) (hg : Gl X b.name) (ha : PA X (a :: es) (tA X.K Φ ees))
    (st : starEach (a :: es) X.env = (false, eval a X.env) :: starEach es X.env) (hpl : (backTo pos (starEach es X.env)).any (·.1) = false) : PE X (.Call (.Name b.name p0) (a :: es) [] pos) (tE X.K Φ (.bi b ees)) := by
  have r := bi_ok b g.calm g.hu g.gd nisi
  have hv := boots b
  have key : PE X (.Call (.Name b.name p0) (a :: es) [] pos) (tCB (rBi X.K b) (tA X.K Φ ees)) := by
    cases b with
    | isi t => exact absurd rfl (nisi t)
    | int => exact pe_callTy r hg (g.blt _ (by decide +kernel)) hv ha (by decide) (by decide) st hpl
    | list => exact pe_callTy r hg (g.blt _ (by decide +kernel)) hv ha (by decide) (by decide) st hpl
    | tuple => exact pe_callTy r hg (g.blt _ (by decide +kernel)) hv ha (by decide) (by decide) st hpl
    | _ => exact pe_callB r hg (g.blt _ (by decide +kernel)) hv ha (by decide) (by decide) st hpl
  exact key.imp fun σ H Q h => bi_entails h

/-! ### isinstance -/
theorem kit_all (d : D) (t : String) (ht : t = "int" ∨ t = "bool" ∨ t = "str" ∨ t = "tuple" ∨ t = "list") : kitB (kindOf d) t = some (d.isA t) := by
  have kb : ∀ k ∈ ["NoneType", "bool", "int", "str", "tuple", "list"], ∀ t ∈ ["int", "bool", "str", "tuple", "list"], kitB k t = some (k == t || (k == "bool" && t == "int")) := by decide +kernel
  have ht2 : t ∈ ["int", "bool", "str", "tuple", "list"] := by simp [ht]
  have hk : kindOf d ∈ ["NoneType", "bool", "int", "str", "tuple", "list"] := by cases d <;> simp [kindOf]
  rw [kb _ hk _ ht2]
  cases d <;> (rcases ht with rfl | rfl | rfl | rfl | rfl <;> simp [kindOf, D.isA])
theorem tyx {K : PySem.W.Frag} {B H : Hp} {v : V} {d : D} (h : RpS K B H v d) (sb : Sub B H) : TyX K H v (.type (kindOf d)) := by
  cases d with
  | non => cases h.non; exact .base .non
  | bl b => cases h.bl; exact .base (.bl b)
  | int i => cases h.int; exact .base (.int i)
  | str x => cases h.str; exact .base (.str x)
  | tup ds =>
    rcases h with h | ⟨_, _, _, _, w, _⟩
    · cases h with
      | tup h1 _ => exact .base (.tup (sb _ _ h1))
    · cases w
  | lst ds => obtain ⟨a, xs, rfl, h1, _⟩ := h.lst sb; exact .base (.lst h1)
  | scr ns =>
    obtain ⟨a, rfl, h1⟩ := h.scr sb
    rcases h1 with (h1 | ⟨o, h1⟩) | ⟨o, its, n, h1, h2, _⟩
    · exact .base (.lst h1)
    · exact .base (.frz h1)
    · exact .kList h1 h2
theorem ev_isi (t : String) {pt : Pos} (g : GX nms Φ X k) (hg : Gl X "isinstance") (hgt : Gl X (Str.ofString t)) (hmt : X.mg (Str.ofString t) = none) (hvt : bootBuiltins (Str.ofString t) = some (.type t)) (hnt : Str.ofString t ≠ "__name__") (hdt : (Str.ofString t == ("__debug__" : Str)) = false)
    (ha : PE X a (tE X.K Φ ea)) (st : starEach [a, .Name (Str.ofString t) pt] X.env = (false, eval a X.env) :: starEach [.Name (Str.ofString t) pt] X.env) :
    PE X (.Call (.Name "isinstance" p0) [a, .Name (Str.ofString t) pt] [] pos) (tE X.K Φ (.bi (.isi t) (.acons ea .anil))) := by
  have h2 : PE X (.Name (Str.ofString t) pt) (tC (.ty t)) := pe_bltn hgt hmt hvt rfl hnt hdt
  refine (pe_callB (pos := pos) (p := p0) call_isi hg (g.blt _ (by decide +kernel)) (boots (.isi t)) (pa_cons ha (pa_cons h2 pa_nil rfl) st) (by decide) (by decide) st rfl).imp fun σ H Q h => ?_
  obtain ⟨B, env, p, env', R, h, kk⟩ := h
  unfold evE at h
  split at h
  · rename_i ps e1 h1
    unfold evA at h1
    split at h1
    · rename_i p1 e2 h3
      unfold evA at h1
      simp only at h1
      cases h1
      split at h
      · rename_i ds h4
        split at h
        · rename_i r h5
          cases h
          refine ⟨B, env, p1, _, R, h3, fun v H1 B1 c1 r1 => ?_⟩
          cases h6 : pk p1 env' with
          | none => simp [pks, h6] at h4
          | some d =>
            simp [pks, h6] at h4
            subst h4
            have rs := pk_ok c1.re r1 h6
            simp only [biOp] at h5
            split at h5
            · rename_i ht
              cases h5
              exact ⟨v, .ty t, _, _, d.isA t, rfl, .ty t, tyx rs c1.re.sub, kit_ty (kit_all d t ht), kk _ H1 B1 c1 (.bl _)⟩
            · cases h5
        · cases h
      · cases h
    · cases h1
  · cases h

/-! ### sum of lists -/
def rSumL (K : PySem.W.Frag) : List V → Hp → VK → Prop := fun vs H Q => ∃ B l st xs ds rows, vs = [.ref l, .ref st] ∧ l ≠ st ∧ H l = some (.lst xs) ∧ H st = some (.lst []) ∧ Sub B H ∧ RpA K B xs ds ∧ lstsOf ds = some rows ∧ rows.flatten.length ≤ 1000000 ∧
  ∀ q ws, (q = st ∨ H q = none) → RpA K B ws rows.flatten → Q (.ref q) (upd H q (.lst ws))
theorem lsts_rows {K : PySem.W.Frag} {B H : Hp} {pins : List (Addr × Obj)} {σ : L2.St} {s : Shared} (I : Inv X pins σ H s) (sb : Sub B H) : ∀ {ds : List D} {rows : List (List D)} {xs : List V}, lstsOf ds = some rows → RpA K B xs ds →
    ∃ (as : List Addr) (vss : List (List V)) (uss : List (List Value)), xs = as.map V.ref ∧ Paired (fun (a : Addr) (us : List Value) => Holds s.heap a us) as uss ∧ Vals vss.flatten uss.flatten ∧ RpA K B vss.flatten rows.flatten
  | [], rows, xs, h, r => by cases h; cases r; exact ⟨[], [], [], rfl, .nil, .nil, .nil⟩
  | d :: ds, rows, xs, h, r => by
    unfold lstsOf at h
    split at h
    · rename_i i ns h1 h2
      cases h
      cases r with
      | cons r t =>
        obtain ⟨as, vss, uss, rfl, h3, h4, h5⟩ := lsts_rows I sb h2 t
        cases d <;> simp only [D.lstOf?] at h1 <;> cases h1
        cases r with
        | lst ha ra =>
          obtain ⟨hz, its, n, rv, hl, e⟩ := I.lstM (sb _ _ ha)
          exact ⟨_ :: as, _ :: vss, its :: uss, rfl, .cons ⟨n, e⟩ h3, rv.append h4, ra.app h5⟩
    · cases h
theorem vals_refs : ∀ {as : List Addr} {us : List Value}, Vals (as.map V.ref) us → us = as.map Value.ref
  | [], _, .nil => rfl
  | a :: as, _, .cons r t => by rw [vals_refs t]; cases r; rfl
theorem sumL_ok (hc : X.calm = true) : CallR X (.builtin "sum") (rSumL X.K) := by
  intro pins s σ H xs us Q I r h
  obtain ⟨B, l, st, ys, ds, rows, rfl, hne, hl, hst, sb, ra, hr, hz, q⟩ := h
  obtain ⟨u, w', rfl, ru, rw'⟩ := vals2 r
  cases ru
  cases rw'
  obtain ⟨as, vss, uss, rfl, h3, h4, h5⟩ := lsts_rows I sb hr ra
  obtain ⟨z1, its, n, rv, hl1, e1⟩ := I.lstM hl
  obtain ⟨z2, its2, c, rv2, hl2, e2⟩ := I.lstM hst
  cases rv2
  cases vals_refs rv
  have hlen : uss.flatten.length ≤ sizeLine := by
    rw [← h4.length, h5.length]
    exact Nat.le_trans hz (by decide)
  refine call_sum_lists (I.ok.hd hc) hne e1 e2 h3 hlen fun h' tk q' hk hh hq => ?_
  rcases hq with rfl | hq
  · obtain ⟨c', hh⟩ := hh
    have e3 := (hk _ _ e2).symm.trans hh
    have e4 : uss.flatten = [] := by
      have := congrArg (fun o => match o with | some (o : Obj) => (match o.data with | .seq xs _ => xs.toList | _ => []) | none => []) e3
      simpa using this.symm
    rw [e4] at h4
    have e5 : vss.flatten = [] := by
      cases e : vss.flatten with
      | nil => rfl
      | cons x y => rw [e] at h4; cases h4
    rw [e5] at h5
    have eh : upd H q' (.lst []) = H := by
      funext b
      by_cases hb : b = q'
      · subst hb; rw [upd_same, hst]
      · rw [upd_ne hb]
    have fin := q q' [] (.inl rfl) h5
    rw [eh] at fin
    exact ⟨.ref q', H, I.kept hk, rfl, fin⟩
  · have nq : H q' = none := I.hok.fresh hq
    obtain ⟨c', hh⟩ := hh
    exact ⟨.ref q', _, I.laid (t' := tk) (o := .lst vss.flatten) hk hq ⟨by rw [h4.length]; exact hlen, uss.flatten, c', h4, hh⟩, rfl, q q' _ (.inr nq) h5⟩
theorem ev_sumL {p2 : Pos} (g : GX nms Φ X k) (hg : Gl X "sum") (ha : PE X a (tE X.K Φ ea)) (st : starEach [a, .List [] p2] X.env = (false, eval a X.env) :: starEach [.List [] p2] X.env) :
    PE X (.Call (.Name "sum" p0) [a, .List [] p2] [] pos) (tE X.K Φ (.sumL ea)) := by
  refine (pe_callB (pos := pos) (p := p0) (sumL_ok g.calm) hg (g.blt _ (by decide +kernel)) (boots .sum) (pa_cons ha (pa_cons (pe_lst pa_nil) pa_nil rfl) st) (by decide) (by decide) st rfl).imp fun σ H Q h => ?_
  obtain ⟨B, env, p, env', R, h, kk⟩ := h
  unfold evE at h
  split at h
  · rename_i p1 e1 h1
    split at h
    · rename_i ds hd
      split at h
      · rename_i rows hr
        split at h
        · rename_i hz
          cases h
          refine ⟨B, env, p1, _, R, h1, fun v H1 B1 c1 r1 => ⟨Nat.zero_le _, fun st nst => ?_⟩⟩
          obtain ⟨l, xs, rfl, hl, ra⟩ := (pk_ok c1.re r1 hd).lst c1.re.sub
          have nl : l ≠ st := ne_of_none hl nst
          refine ⟨B1, l, st, xs, ds, rows, rfl, nl, by rw [upd_ne nl]; exact hl, upd_same, c1.re.sub.trans (Sub.new nst), ra, hr, hz, fun q ws hq rw => ?_⟩
          have nq : H1 q = none := by
            rcases hq with rfl | hq
            · exact nst
            · exact (Sub.new nst).none hq
          have c2 := c1.grow (Gr.newH c1.re.sub nst (o := .lst []))
          have g2 : Gr H1 B1 (upd (upd H1 st (.lst [])) q (.lst ws)) B1 := by
            rcases hq with rfl | hq
            · rw [upd_upd]; exact Gr.newH c1.re.sub nst
            · exact (Gr.newH c1.re.sub nst).trans (Gr.newH (c1.re.sub.trans (Sub.new nst)) hq)
          exact kk _ _ B1 (c1.grow g2) ⟨q, _, rfl, c1.st.th nq, upd_same, c1.re.sub.none nq, ws, rfl, rw⟩
        · cases h
      · cases h
    · cases h
  · cases h


/-! ### list(range(..)) -/
theorem rgV_rp {K : PySem.W.Frag} {B : Hp} (lo hi : Int) : RpA K B (rgV lo hi) (rangeD lo (hi - lo).toNat) := by
  unfold rgV rangeD
  generalize List.range (hi - lo).toNat = l
  induction l with
  | nil => exact .nil
  | cons n l ih => exact .cons (.int _) ih
def rngB : List D → Option (Int × Int)
  | [.int n] => if -(2 ^ 40) ≤ n ∧ n ≤ 2 ^ 40 then some (0, n) else none
  | [.int a, .int b] => if -(2 ^ 40) ≤ a ∧ a ≤ 2 ^ 40 ∧ -(2 ^ 40) ≤ b ∧ b ≤ 2 ^ 40 then some (a, b) else none
  | _ => none
theorem lrng_go {σ : L2.St} {H H1 B B1 : Hp} {env e1 : En} {lo hi : Int} {xs : List D} {Q : VK} (c1 : Cm X.K σ H B env H1 B1 e1) (bd : -(2 ^ 40) ≤ lo ∧ lo ≤ 2 ^ 40 ∧ -(2 ^ 40) ≤ hi ∧ hi ≤ 2 ^ 40) (hx : xs = rangeD lo (hi - lo).toNat) (hl : xs.length ≤ lim)
    (kk : ∀ v H' B', Cm X.K σ H B env H' B' e1 → RpP X.K σ H H' B' v (.new (.lst xs)) → Q v H') : RgOk lo hi ∧ ∀ q, H1 q = none → Q (.ref q) (upd H1 q (.lst (rgV lo hi))) := by
  subst hx
  have hn : (hi - lo).toNat ≤ lim := by simpa [rangeD] using hl
  refine ⟨⟨by omega, by omega, by omega, by omega, Nat.le_trans hn (by decide)⟩, fun q nq => ?_⟩
  exact kk _ _ B1 (c1.grow (Gr.newH c1.re.sub nq)) ⟨q, _, rfl, c1.st.th nq, upd_same, c1.re.sub.none nq, _, rfl, rgV_rp lo hi⟩
theorem int_of {K : PySem.W.Frag} {B H : Hp} {v : V} {d : D} {i : Int} (h : RpS K B H v d) (e : d = .int i) : v = .int i := by subst e; exact h.int
theorem ev_lrng1 {p1 p2 : Pos} {e : Expr} {ee : E} (g : GX nms Φ X k) (hg : Gl X "list") (hr : Gl X "range") (he : PE X e (tE X.K Φ ee)) (n1 : starEach [e] X.env = (false, eval e X.env) :: starEach [] X.env)
    (n2 : starEach [Expr.Call (.Name "range" p1) [e] [] p2] X.env = (false, eval (Expr.Call (.Name "range" p1) [e] [] p2) X.env) :: starEach [] X.env) :
    PE X (.Call (.Name "list" p0) [.Call (.Name "range" p1) [e] [] p2] [] pos) (tE X.K Φ (.lrng (.acons ee .anil))) := by
  refine (pe_listRg g.calm hg (g.blt _ (by decide +kernel)) (prg_1 hr (g.blt _ (by decide +kernel)) he n1) n2).imp fun σ H Q h => ?_
  obtain ⟨B, env, p, env', R, h, kk⟩ := h
  unfold evE at h
  split at h
  · rename_i ps e1 h1
    unfold evA at h1
    split at h1
    · rename_i q1 e2 h3
      unfold evA at h1
      simp only at h1
      cases h1
      split at h
      · rename_i ds h4
        split at h
        · rename_i xs h5
          split at h
          · rename_i hl
            cases h
            refine ⟨B, env, q1, _, R, h3, fun v H1 B1 c1 r1 => ?_⟩
            cases h6 : pk q1 env' with
            | none => simp [pks, h6] at h4
            | some d =>
              simp [pks, h6] at h4
              subst h4
              have rs := pk_ok c1.re r1 h6
              unfold rngOf at h5
              split at h5
              · rename_i n ed
                cases ed
                split at h5
                · rename_i bd
                  cases h5
                  exact ⟨n, rs.int, lrng_go c1 ⟨by omega, by omega, bd.1, bd.2⟩ (by rw [Int.sub_zero]) hl kk⟩
                · cases h5
              · rename_i ed
                cases ed
              · cases h5
          · cases h
        · cases h
      · cases h
    · cases h1
  · cases h
theorem ev_lrng2 {p1 p2 : Pos} {e f : Expr} {ee ef : E} (g : GX nms Φ X k) (hg : Gl X "list") (hr : Gl X "range") (he : PE X e (tE X.K Φ ee)) (hf : PE X f (tE X.K Φ ef)) (n1 : starEach [e, f] X.env = (false, eval e X.env) :: starEach [f] X.env) (n3 : starEach [f] X.env = (false, eval f X.env) :: starEach [] X.env) (n4 : (backTo p2 (starEach [f] X.env)).any (·.1) = false)
    (n2 : starEach [Expr.Call (.Name "range" p1) [e, f] [] p2] X.env = (false, eval (Expr.Call (.Name "range" p1) [e, f] [] p2) X.env) :: starEach [] X.env) :
    PE X (.Call (.Name "list" p0) [.Call (.Name "range" p1) [e, f] [] p2] [] pos) (tE X.K Φ (.lrng (.acons ee (.acons ef .anil)))) := by
  refine (pe_listRg g.calm hg (g.blt _ (by decide +kernel)) (prg_2 hr (g.blt _ (by decide +kernel)) he hf n1 n3 n4) n2).imp fun σ H Q h => ?_
  obtain ⟨B, env, p, env', R, h, kk⟩ := h
  unfold evE at h
  split at h
  · rename_i ps e1 h1
    unfold evA at h1
    split at h1
    · rename_i q1 e2 h3
      unfold evA at h1
      split at h1
      · rename_i qs e3 h7
        cases h1
        split at h7
        · rename_i q2 e4 h8
          unfold evA at h7
          simp only at h7
          cases h7
          split at h
          · rename_i ds h4
            split at h
            · rename_i xs h5
              split at h
              · rename_i hl
                cases h
                refine ⟨B, env, q1, _, R, h3, fun v H1 B1 c1 r1 => ⟨B1, _, q2, _, c1.re, h8, fun w H2 B2 c2 r2 => ?_⟩⟩
                have r1' := r1.later c1.r0 c1.st c2.st
                cases h6 : pk q1 env' with
                | none => simp [pks, h6] at h4
                | some d =>
                  cases h9 : pk q2 env' with
                  | none => simp [pks, h6, h9] at h4
                  | some d2 =>
                    simp [pks, h6, h9] at h4
                    subst h4
                    have rs := pk_ok c2.re r1' h6
                    have rs2 := pk_ok c2.re r2 h9
                    unfold rngOf at h5
                    split at h5
                    · rename_i ed
                      cases ed
                    · rename_i a b ed
                      cases ed
                      split at h5
                      · rename_i bd
                        cases h5
                        exact ⟨a, b, rs.int, rs2.int, lrng_go (c1.trans c2) bd rfl hl kk⟩
                      · cases h5
                    · cases h5
              · cases h
            · cases h
          · cases h
        · cases h7
      · cases h1
    · cases h1
  · cases h

/-! ### dicts -/
theorem ev_dnewK : PE X (.Dict [] [] pos) (tE X.K Φ (.dnew false)) := pe_dnewK.imp fun σ H Q ⟨B, env, p, env', R, h, kk⟩ => by
  cases h
  exact fun q nq => kk _ _ B ((Cm.refl R).grow (Gr.newH R.sub nq)) ⟨q, _, rfl, nq, upd_same, R.sub.none nq, _, rfl, .nil⟩
theorem ev_dnewT : PE X (.Dict [] [] pos) (tE X.K Φ (.dnew true)) := pe_dnewT.imp fun σ H Q ⟨B, env, p, env', R, h, kk⟩ => by
  cases h
  exact fun q nq => kk _ _ B ((Cm.refl R).grow (Gr.newH R.sub nq)) ⟨q, _, rfl, nq, upd_same, R.sub.none nq, _, rfl, .nil⟩
theorem ev_dget {o e f : Expr} {eo ee ef : E} {apos cpos : Pos} (hu : X.A.units + 65 < cLine) (ho : PE X o (tE X.K Φ eo)) (he : PE X e (tE X.K Φ ee)) (hf : PE X f (tE X.K Φ ef)) (m : M2 X o "get" apos e f cpos) :
    PE X (.Call (.Attribute o "get" apos) [e, f] [] cpos) (tE X.K Φ (.dget eo ee ef)) :=
  (pe_dget2 (by omega) ho he hf m).imp fun σ H Q ⟨B, env, p, env', R, h, kk⟩ => by
    unfold evE at h
    split at h
    · rename_i i e1 h1
      split at h
      · rename_i hd
        split at h
        · rename_i ky e2 h2
          split at h
          · rename_i x e3 h3
            split at h
            · rename_i mo hm
              split at h
              · rename_i r hr
                cases h
                refine ⟨B, env, _, e1, R, h1, fun v H1 B1 c1 r1 => ?_⟩
                unfold dictIn at hd
                have hq : ∃ a, v = .ref a ∧ IsD H1 a := by
                  split at hd
                  · rename_i kvs hm1
                    obtain ⟨a, o1, pa, rd, w, rfl, _⟩ := c1.re.mo hm1
                    exact ⟨a, Option.some.inj (Option.some.inj (r1.symm.trans pa)), .inl ⟨_, rd⟩⟩
                  · rename_i kvs hm1
                    obtain ⟨a, o1, pa, rd, w, rfl, _⟩ := c1.re.mo hm1
                    exact ⟨a, Option.some.inj (Option.some.inj (r1.symm.trans pa)), .inr ⟨_, rd⟩⟩
                  · cases hd
                obtain ⟨a, rfl, isd⟩ := hq
                refine ⟨a, rfl, isd, B1, e1, _, _, c1.re, h2, fun y H2 B2 c2 r2 => ⟨B2, e2, _, _, c2.re, h3, fun z H3 B3 c3 r3 => ?_⟩⟩
                obtain ⟨q, o2, pa, rd, mo2⟩ := c3.re.mo hm
                have qa : q = a := by
                  have := Option.some.inj (Option.some.inj (pa.symm.trans r1))
                  cases this; rfl
                subst qa
                obtain ⟨ov, g1, n1, n2⟩ := dlook_ok c3.re.sub rd mo2 (Rp.mono c3.st.bb r2) hr
                refine ⟨ov, g1, kk _ H3 B3 ((c1.trans c2).trans c3) ?_⟩
                cases r with
                | none => rw [n1 rfl]; exact r3
                | some d =>
                  obtain ⟨w, ew, rw'⟩ := n2 d rfl
                  rw [ew]; exact rw'
              · cases h
            · cases h
          · cases h
        · cases h
      · cases h
    · cases h

/-! ### x.count(i) -/
theorem ty_lst {K : PySem.W.Frag} {B H : Hp} {v : V} {ds : List D} (h : RpS K B H v (.lst ds)) (sb : Sub B H) : tyV K "list" v H := by
  obtain ⟨a, xs, rfl, h1, _⟩ := h.lst sb
  exact .inl ⟨rfl, xs, Evl.sq_of h1⟩
end
section
variable {K : PySem.W.Frag} {σ : L2.St} {H B H' B' : Hp} {env env' : En}
/-- an own object is written -/
theorem own_write {i : Nat} {f : Bool} {m m' : MO} {a : Addr} {o' : HO} (c : Cm K σ H B env H' B' env') (e : env'[i]? = some (.own f m)) (pa : At σ i a) (ho : MOk K B' o' m') : Cm K σ H B env (upd H' a o') B' (env'.set i (.own f m')) := by
  obtain ⟨q, o1, pq, nb, hq, _⟩ := c.re.own e
  cases At.eq pa pq
  have lt : i < env'.length := by
    rcases Nat.lt_or_ge i env'.length with h | h
    · exact h
    · rw [List.getElem?_eq_none h] at e; cases e
  refine ⟨c.r0, ⟨c.st.bb, fun {x} h => ?_, fun {x u} h n => ?_, c.st.fre, fun {j fz w} h => ?_, fun {j fz w} => ?_⟩, ⟨c.re.sub.updR nb, by rw [List.length_set]; exact c.re.len, fun {j d} h => ?_, fun {j fz w} h => ?_, fun {j fz w} h => ?_, fun {j l s t p} h1 h2 m1 m2 x1 x2 => ?_⟩⟩
  · by_cases z : x = a
    · subst z; rw [upd_same] at h; cases h
    · rw [upd_ne z] at h; exact c.st.th h
  · by_cases z : x = a
    · subst z
      exact absurd (c.st.own ⟨i, f, m, e, pa⟩) n
    · rw [upd_ne z]; exact c.st.fr h n
  · rcases set_get h with ⟨rfl, e2⟩ | ⟨_, h⟩
    · cases e2; exact c.st.ow e
    · exact c.st.ow h
  · exact (set_lk (by intro f m z; rw [e] at z; cases z) (by intro f m z; cases z)).trans c.st.lk
  · rcases set_get h with ⟨_, e2⟩ | ⟨_, h⟩
    · cases e2
    · exact c.re.dat h
  · rcases set_get h with ⟨rfl, e2⟩ | ⟨ne, h⟩
    · cases e2; exact ⟨a, o', pa, nb, upd_same, ho⟩
    · obtain ⟨p2, o2, y1, y2, y3, y4⟩ := c.re.own h
      refine ⟨p2, o2, y1, y2, ?_, y4⟩
      rw [upd_ne fun z => ?_]; exact y3
      subst z
      exact ne (c.re.apart h e rfl rfl y1 pa)
  · rcases set_get h with ⟨_, e2⟩ | ⟨ne, h⟩
    · cases e2
    · obtain ⟨p2, o2, y1, y2, y3, y4⟩ := c.re.lck h
      refine ⟨p2, o2, y1, y2, y3.mono fun u hu => ?_, y4⟩
      rw [upd_ne fun z => ?_]; exact hu
      subst z
      exact ne (c.re.apart h e rfl rfl y1 pa)
  · have o1 : ∃ s0, env'[j]? = some s0 ∧ s0.mut = true := by
      rcases set_get h1 with ⟨rfl, e2⟩ | ⟨_, h⟩
      · exact ⟨_, e, rfl⟩
      · exact ⟨_, h, m1⟩
    have o2 : ∃ s0, env'[l]? = some s0 ∧ s0.mut = true := by
      rcases set_get h2 with ⟨rfl, e2⟩ | ⟨_, h⟩
      · exact ⟨_, e, rfl⟩
      · exact ⟨_, h, m2⟩
    obtain ⟨_, o1, w1⟩ := o1
    obtain ⟨_, o2, w2⟩ := o2
    exact c.re.apart o1 o2 w1 w2 x1 x2
theorem lstIn_ty {i : Nat} {v : V} (R : RE K σ H B env) (h : lstIn i env = true) (hv : σ[i]? = some (some v)) : tyV K "list" v H := by
  unfold lstIn at h
  split at h
  · rename_i ds e
    obtain ⟨a, o, pa, _, ha, xs, rfl, _⟩ := R.own e
    cases Option.some.inj (Option.some.inj (hv.symm.trans pa))
    exact .inl ⟨rfl, xs, Evl.sq_of ha⟩
  · cases h
end
end Mi

/-! Mi9: methods of lists. -/
namespace Mi
open PySem PySem.Spec PyProof.Rows L2
section
variable {nms : List Str} {X : Cx} {Φ : Nat → Fn} {k : Nat} {o e : Expr} {es : List Expr} {eo ee ees : E} {apos cpos : Pos}
theorem paired1 {α β : Type} {F : α → β → Prop} {l : List α} {b : β} (h : Paired F l [b]) : ∃ a, l = [a] ∧ F a b := by
  cases h with
  | cons r t => cases t; exact ⟨_, rfl, r⟩
theorem paired0 {α β : Type} {F : α → β → Prop} {l : List α} (h : Paired F l ([] : List β)) : l = [] := by
  cases h; rfl
theorem ev_append (ho : PE X o (tE X.K Φ eo)) (ha : PA X [e] (tA X.K Φ ees)) (hbase : attributeBase o "append" X.env (eval o X.env) = eval o X.env)
    (hfew : ((backTo cpos (starEach [e] X.env)).all (fun x => !x.1) && (backToKw cpos (keywordEach [] X.env)).all (fun x => x.1.isSome) && decide (([e] : List Expr).length + ([] : List Keyword).length + (if ([] : List Keyword).isEmpty then 0 else 1) < 30)) = true)
    (hline : (apos.endLine == cpos.line) = true) (hs : starEach [e] X.env = (false, eval e X.env) :: starEach [] X.env) : PE X (.Call (.Attribute o "append" apos) [e] [] cpos) (tE X.K Φ (.mth .append eo ees)) :=
  (pe_bm PySem.F.plainAttrs_list PySem.F.slot_list_append PySem.F.type_list_append mt_append ho ha hbase hfew hline hs rfl).imp fun σ H Q ⟨B, env, p, env', R, h, kk⟩ => by
    unfold evE at h
    split at h
    · rename_i i e1 h1
      split at h
      · rename_i hl
        split at h
        · rename_i ps e2 h2
          rcases ps with _ | ⟨q, _ | ⟨q2, qs⟩⟩ <;> simp only [reduceCtorEq] at h
          · split at h
            · rename_i d e3 h3
              split at h
              · rename_i f ds h4
                split at h
                · rename_i hz
                  cases h
                  refine ⟨B, env, _, e1, R, h1, fun v H1 B1 c1 r1 => ⟨lstIn_ty c1.re hl r1, B1, e1, _, e2, c1.re, h2, fun vs H2 B2 c2 r2 => ?_⟩⟩
                  obtain ⟨w, rfl, rw⟩ := paired1 r2.all
                  obtain ⟨B3, c3, s3, rd, _⟩ := fz_ok c2 rw h3
                  obtain ⟨a, o1, pa, nb, ha, xs, rfl, ra⟩ := c3.re.own h4
                  cases Option.some.inj (Option.some.inj (show some (some v) = some (some (V.ref a)) from r1.symm.trans pa))
                  refine ⟨a, xs, w, rfl, rfl, ha, ?_, ?_⟩
                  · rw [ra.length]; exact Nat.lt_of_lt_of_le hz lim_line
                  · exact kk _ _ B3 (own_write (c1.trans c3) h4 pa ⟨_, rfl, ra.app (.one rd)⟩) .non
                · cases h
              · cases h
            · cases h
        · cases h
      · cases h
    · cases h
theorem ev_extend (ho : PE X o (tE X.K Φ eo)) (ha : PA X [e] (tA X.K Φ ees)) (hbase : attributeBase o "extend" X.env (eval o X.env) = eval o X.env)
    (hfew : ((backTo cpos (starEach [e] X.env)).all (fun x => !x.1) && (backToKw cpos (keywordEach [] X.env)).all (fun x => x.1.isSome) && decide (([e] : List Expr).length + ([] : List Keyword).length + (if ([] : List Keyword).isEmpty then 0 else 1) < 30)) = true)
    (hline : (apos.endLine == cpos.line) = true) (hs : starEach [e] X.env = (false, eval e X.env) :: starEach [] X.env) : PE X (.Call (.Attribute o "extend" apos) [e] [] cpos) (tE X.K Φ (.mth .extend eo ees)) :=
  (pe_bm PySem.F.plainAttrs_list PySem.F.slot_list_extend PySem.F.type_list_extend mt_extend ho ha hbase hfew hline hs rfl).imp fun σ H Q ⟨B, env, p, env', R, h, kk⟩ => by
    unfold evE at h
    split at h
    · rename_i i e1 h1
      split at h
      · rename_i hl
        split at h
        · rename_i ps e2 h2
          rcases ps with _ | ⟨q, _ | ⟨q2, qs⟩⟩ <;> simp only [reduceCtorEq] at h
          · split at h
            · rename_i zs e3 h3
              split at h
              · rename_i f ds h4
                split at h
                · rename_i hz
                  cases h
                  refine ⟨B, env, _, e1, R, h1, fun v H1 B1 c1 r1 => ⟨lstIn_ty c1.re hl r1, B1, e1, _, e2, c1.re, h2, fun vs H2 B2 c2 r2 => ?_⟩⟩
                  obtain ⟨w, rfl, rw⟩ := paired1 r2.all
                  obtain ⟨B3, c3, s3, rd, _⟩ := fz_ok c2 rw h3
                  obtain ⟨a, o1, pa, nb, ha, xs, rfl, ra⟩ := c3.re.own h4
                  cases Option.some.inj (Option.some.inj (show some (some v) = some (some (V.ref a)) from r1.symm.trans pa))
                  cases rd with
                  | lst hb rb =>
                    refine ⟨a, _, xs, _, rfl, rfl, ha, c3.re.sub _ _ hb, ?_, ?_⟩
                    · rw [ra.length, rb.length]; exact lim_le hz
                    · exact kk _ _ B3 (own_write (c1.trans c3) h4 pa ⟨_, rfl, ra.app rb⟩) .non
                · cases h
              · cases h
            · cases h
        · cases h
      · cases h
    · cases h
theorem ev_pop (ho : PE X o (tE X.K Φ eo)) (hbase : attributeBase o "pop" X.env (eval o X.env) = eval o X.env) (hline : (apos.endLine == cpos.line) = true) : PE X (.Call (.Attribute o "pop" apos) [] [] cpos) (tE X.K Φ (.mth .pop eo .anil)) :=
  (pe_bm0 PySem.F.plainAttrs_list PySem.F.slot_list_pop PySem.F.type_list_pop mt_pop ho hbase hline).imp fun σ H Q ⟨B, env, p, env', R, h, kk⟩ => by
    unfold evE at h
    split at h
    · rename_i i e1 h1
      split at h
      · rename_i hl
        unfold evA at h
        simp only at h
        split at h
        · rename_i f ds h4
          split at h
          · rename_i d hd
            cases h
            refine ⟨B, env, _, _, R, h1, fun v H1 B1 c1 r1 => ⟨lstIn_ty c1.re hl r1, ?_⟩⟩
            obtain ⟨a, o1, pa, nb, ha, xs, rfl, ra⟩ := c1.re.own h4
            cases Option.some.inj (Option.some.inj (show some (some v) = some (some (V.ref a)) from r1.symm.trans pa))
            obtain ⟨w, hw, rw⟩ := ra.get hd
            refine ⟨a, xs, w, rfl, rfl, ha, by rw [ra.length]; exact hw, ?_⟩
            exact kk _ _ B1 (own_write c1 h4 pa ⟨_, rfl, ra.dropLast⟩) rw
          · cases h
        · cases h
      · cases h
    · cases h
theorem ev_popAt (ho : PE X o (tE X.K Φ eo)) (ha : PA X [e] (tA X.K Φ ees)) (hbase : attributeBase o "pop" X.env (eval o X.env) = eval o X.env)
    (hfew : ((backTo cpos (starEach [e] X.env)).all (fun x => !x.1) && (backToKw cpos (keywordEach [] X.env)).all (fun x => x.1.isSome) && decide (([e] : List Expr).length + ([] : List Keyword).length + (if ([] : List Keyword).isEmpty then 0 else 1) < 30)) = true)
    (hline : (apos.endLine == cpos.line) = true) (hs : starEach [e] X.env = (false, eval e X.env) :: starEach [] X.env) : PE X (.Call (.Attribute o "pop" apos) [e] [] cpos) (tE X.K Φ (.mth .popAt eo ees)) :=
  (pe_bm PySem.F.plainAttrs_list PySem.F.slot_list_pop PySem.F.type_list_pop mt_popAt ho ha hbase hfew hline hs rfl).imp fun σ H Q ⟨B, env, p, env', R, h, kk⟩ => by
    unfold evE at h
    split at h
    · rename_i i e1 h1
      split at h
      · rename_i hl
        split at h
        · rename_i ps e2 h2
          rcases ps with _ | ⟨(_ | b | n | x | ds1 | ds1 | ns1) | j | m1 | xs1, _ | ⟨q2, qs⟩⟩ <;> simp only [reduceCtorEq] at h
          · split at h
            · rename_i f ds h4
              split at h
              · rename_i hz
                split at h
                · rename_i d hd
                  cases h
                  refine ⟨B, env, _, e1, R, h1, fun v H1 B1 c1 r1 => ⟨lstIn_ty c1.re hl r1, B1, e1, _, e2, c1.re, h2, fun vs H2 B2 c2 r2 => ?_⟩⟩
                  obtain ⟨w, rfl, rw⟩ := paired1 r2.all
                  cases rw
                  obtain ⟨a, o1, pa, nb, ha, xs, rfl, ra⟩ := c2.re.own h4
                  cases Option.some.inj (Option.some.inj (show some (some v) = some (some (V.ref a)) from r1.symm.trans pa))
                  obtain ⟨u, hu, ru⟩ := ra.get hd
                  have hlt : n.toNat < xs.length := by
                    rcases Nat.lt_or_ge n.toNat xs.length with z | z
                    · exact z
                    · rw [List.getElem?_eq_none z] at hu; cases hu
                  refine ⟨a, xs, n, n.toNat, u, rfl, rfl, ha, by omega, by omega, ?_, hu, ?_⟩
                  · unfold seqIndex?
                    simp only [show ¬ n < 0 by omega, if_false]
                    first | (rw [if_pos (by omega)]) | (simp; omega)
                  · exact kk _ _ B2 (own_write (c1.trans c2) h4 pa ⟨_, rfl, ra.erase _⟩) ru
                · cases h
              · cases h
            · cases h
        · cases h
      · cases h
    · cases h
theorem ev_cnt (ho : PE X o (tE X.K Φ eo)) (he : PE X e (tE X.K Φ ee)) (hbase : attributeBase o "count" X.env (eval o X.env) = eval o X.env)
    (hfew : ((backTo cpos (starEach [e] X.env)).all (fun x => !x.1) && (backToKw cpos (keywordEach [] X.env)).all (fun x => x.1.isSome) && decide (([e] : List Expr).length + ([] : List Keyword).length + (if ([] : List Keyword).isEmpty then 0 else 1) < 30)) = true)
    (hline : (apos.endLine == cpos.line) = true) (hs : starEach [e] X.env = (false, eval e X.env) :: starEach [] X.env) : PE X (.Call (.Attribute o "count" apos) [e] [] cpos) (tE X.K Φ (.cnt eo ee)) :=
  (pe_bm PySem.F.plainAttrs_list PySem.F.slot_list_count PySem.F.type_list_count mt_lcount ho (pa_cons he pa_nil hs) hbase hfew hline hs rfl).imp fun σ H Q ⟨B, env, p, env', R, h, kk⟩ => by
    unfold evE at h
    split at h
    · rename_i q e1 h1
      split at h
      · rename_i ds0 hp0
        split at h
        · rename_i n e2 h2
          split at h
          · rename_i ds hp
            split at h
            · rename_i ns hn
              cases h
              refine ⟨B, env, _, e1, R, h1, fun v H1 B1 c1 r1 => ⟨ty_lst (pk_ok c1.re r1 hp0) c1.re.sub, B1, e1, _, _, c1.re, h2, fun w H2 B2 c2 r2 => ?_⟩⟩
              cases r2
              obtain ⟨a, xs, rfl, ha, ra⟩ := (pk_ok c2.re (r1.later c1.r0 c1.st c2.st) hp).lst c2.re.sub
              cases intsOf_map hn
              cases ra.ints
              exact ⟨a, ns, n, rfl, rfl, Evl.sq_of ha, kk _ H2 B2 (c1.trans c2) (.int _)⟩
            · cases h
          · cases h
        · cases h
      · cases h
    · cases h
end
end Mi

/-! Mi10: targets; locks; slots forgotten. -/
namespace Mi
open PySem PySem.Spec PyProof.Rows L2

section
variable {K : PySem.W.Frag} {σ σ2 σ3 : L2.St} {H B H' B' H2 B2 : Hp} {env env' e e2 e3 : En} {v : V} {d : D} {vs : List V} {ds : List D}
theorem get_lt {α : Type} {l : List α} {i : Nat} {a : α} (h : l[i]? = some a) : i < l.length := by
  rcases Nat.lt_or_ge i l.length with z | z
  · exact z
  · rw [List.getElem?_eq_none z] at h; cases h
theorem set_st {σ : L2.St} {i j : Nat} {x : Option V} (h : j ≠ i) : (σ.set i x)[j]? = σ[j]? := List.getElem?_set_ne (Ne.symm h)
theorem set_self {α : Type} {l : List α} {i : Nat} {x : α} (h : i < l.length) : (l.set i x)[i]? = some x := by
  rw [List.getElem?_set]; simp [h]
/-- slot i holds other data -/
theorem RE.setDat (R : RE K σ H B env) {i : Nat} (hi : i < env.length) (r : Rp K B v d) : RE K (σ.set i (some v)) H B (env.set i (.dat d)) where
  sub := R.sub
  len := by rw [List.length_set, List.length_set]; exact R.len
  dat := fun {j d'} h => by
    rcases set_get h with ⟨rfl, e2⟩ | ⟨ne, h⟩
    · cases e2; exact ⟨v, set_self (by rw [← R.len]; exact hi), r⟩
    · rw [set_st ne]; exact R.dat h
  own := fun {j f m} h => by
    rcases set_get h with ⟨rfl, e2⟩ | ⟨ne, h⟩
    · cases e2
    · obtain ⟨p, o, x, y⟩ := R.own h
      exact ⟨p, o, by show (σ.set i _)[j]? = _; rw [set_st ne]; exact x, y⟩
  lck := fun {j f m} h => by
    rcases set_get h with ⟨rfl, e2⟩ | ⟨ne, h⟩
    · cases e2
    · obtain ⟨p, o, x, y⟩ := R.lck h
      exact ⟨p, o, by show (σ.set i _)[j]? = _; rw [set_st ne]; exact x, y⟩
  apart := fun {j l s t p} h1 h2 m1 m2 x1 x2 => by
    rcases set_get h1 with ⟨_, e2⟩ | ⟨n1, h1⟩
    · subst e2; cases m1
    · rcases set_get h2 with ⟨_, e2⟩ | ⟨n2, h2⟩
      · subst e2; cases m2
      · exact R.apart h1 h2 m1 m2 (by rw [At, set_st n1] at x1; exact x1) (by rw [At, set_st n2] at x2; exact x2)
/-- .. a new object -/
theorem RE.setOwn (R : RE K σ H B env) {i : Nat} {a : Addr} {o : HO} {m : MO} (hi : i < env.length) (ha : H a = some o) (hb : B a = none) (mo : MOk K B o m) (nw : ∀ {j : Nat} {s : Slot}, env[j]? = some s → s.mut = true → ¬ At σ j a) : RE K (σ.set i (some (.ref a))) H B (env.set i (.own true m)) where
  sub := R.sub
  len := by rw [List.length_set, List.length_set]; exact R.len
  dat := fun {j d'} h => by
    rcases set_get h with ⟨rfl, e2⟩ | ⟨ne, h⟩
    · cases e2
    · rw [set_st ne]; exact R.dat h
  own := fun {j f m} h => by
    rcases set_get h with ⟨rfl, e2⟩ | ⟨ne, h⟩
    · cases e2
      exact ⟨a, o, set_self (by rw [← R.len]; exact hi), hb, ha, mo⟩
    · obtain ⟨p, o, x, y⟩ := R.own h
      exact ⟨p, o, by show (σ.set i _)[j]? = _; rw [set_st ne]; exact x, y⟩
  lck := fun {j f m} h => by
    rcases set_get h with ⟨rfl, e2⟩ | ⟨ne, h⟩
    · cases e2
    · obtain ⟨p, o, x, y⟩ := R.lck h
      exact ⟨p, o, by show (σ.set i _)[j]? = _; rw [set_st ne]; exact x, y⟩
  apart := fun {j l s t p} h1 h2 m1 m2 x1 x2 => by
    have self : ∀ {q : Addr}, At (σ.set i (some (.ref a))) i q → q = a := fun {q} x => by
      have y := set_self (l := σ) (x := some (V.ref a)) (i := i) (by rw [← R.len]; exact hi)
      rw [At, y] at x
      cases x; rfl
    rcases set_get h1 with ⟨rfl, e2⟩ | ⟨n1, g1⟩
    · rcases set_get h2 with ⟨rfl, e2⟩ | ⟨n2, g2⟩
      · rfl
      · cases self x1
        rw [At, set_st n2] at x2
        exact absurd x2 (nw g2 m2)
    · rcases set_get h2 with ⟨rfl, e2⟩ | ⟨n2, h2⟩
      · cases self x2
        rw [At, set_st n1] at x1
        exact absurd x1 (nw g1 m1)
      · exact R.apart g1 h2 m1 m2 (by rw [At, set_st n1] at x1; exact x1) (by rw [At, set_st n2] at x2; exact x2)

/-! ### targets -/
def T.slots : T → List Nat
  | .nm i => [i]
  | .tp ts => ts.slots
  | .nil => []
  | .cons t ts => t.slots ++ ts.slots
def T.len : T → Nat
  | .cons _ ts => ts.len + 1
  | _ => 0
/-- what storing at the slots vs leaves -/
structure Upd (vs : List Nat) (σ : L2.St) (env : En) (σ2 : L2.St) (e2 : En) : Prop where
  off : ∀ {j : Nat}, j ∉ vs → σ2[j]? = σ[j]? ∧ e2[j]? = env[j]?
  on : ∀ {j : Nat}, j ∈ vs → e2[j]? = env[j]? ∨ ∃ d, e2[j]? = some (Slot.dat d)
  mu : ∀ {j : Nat} {s : Slot}, e2[j]? = some s → s.mut = true → env[j]? = some s ∧ σ2[j]? = σ[j]?
  fr : ∀ {j : Nat} {s : Slot}, env[j]? = some s → s.free = false → e2[j]? = some s ∧ σ2[j]? = σ[j]?
  ln : e2.length = env.length
theorem Upd.refl : Upd [] σ env σ env := ⟨fun _ => ⟨rfl, rfl⟩, fun h => (by cases h), fun h _ => ⟨h, rfl⟩, fun h _ => ⟨h, rfl⟩, rfl⟩
theorem Upd.trans {a b : List Nat} (x : Upd a σ env σ2 e2) (y : Upd b σ2 e2 σ3 e3) : Upd (a ++ b) σ env σ3 e3 where
  off := fun {j} h => by
    obtain ⟨h1, h2⟩ := not_or.mp (fun z => h (List.mem_append.mpr z))
    exact ⟨(y.off h2).1.trans (x.off h1).1, (y.off h2).2.trans (x.off h1).2⟩
  on := fun {j} h => by
    by_cases hb : j ∈ b
    · rcases y.on hb with z | z
      · by_cases ha : j ∈ a
        · rcases x.on ha with w | ⟨d, w⟩
          · exact .inl (z.trans w)
          · exact .inr ⟨d, z.trans w⟩
        · exact .inl (z.trans (x.off ha).2)
      · exact .inr z
    · have ha : j ∈ a := (List.mem_append.mp h).resolve_right hb
      have z := (y.off hb).2
      rcases x.on ha with w | ⟨d, w⟩
      · exact .inl (z.trans w)
      · exact .inr ⟨d, z.trans w⟩
  mu := fun h m => by
    obtain ⟨h1, h2⟩ := y.mu h m
    obtain ⟨h3, h4⟩ := x.mu h1 m
    exact ⟨h3, h2.trans h4⟩
  fr := fun h m => by
    obtain ⟨h1, h2⟩ := x.fr h m
    obtain ⟨h3, h4⟩ := y.fr h1 m
    exact ⟨h3, h4.trans h2⟩
  ln := y.ln.trans x.ln
theorem Upd.one {i : Nat} {t : Slot} (hi : env[i]? = some t) (hf : t.free = true) : Upd [i] σ env (σ.set i (some v)) (env.set i (.dat d)) where
  off := fun {j} h => by
    have ne : j ≠ i := fun z => h (by simp [z])
    exact ⟨set_st ne, List.getElem?_set_ne (Ne.symm ne)⟩
  on := fun {j} h => by
    have e : j = i := by simpa using h
    subst e
    exact .inr ⟨d, set_self (get_lt hi)⟩
  mu := fun {j s} h m => by
    rcases set_get h with ⟨rfl, e2⟩ | ⟨ne, h⟩
    · subst e2; cases m
    · exact ⟨h, set_st ne⟩
  fr := fun {j s} h m => by
    have ne : j ≠ i := fun z => by
      subst z
      rw [hi] at h; cases h
      rw [hf] at m; cases m
    exact ⟨by rw [List.getElem?_set_ne (Ne.symm ne)]; exact h, set_st ne⟩
  ln := List.length_set
theorem setS_ok {i : Nat} {s : Slot} (h : setS i s env = some e2) : ∃ t, env[i]? = some t ∧ t.free = true ∧ e2 = env.set i s := by
  unfold setS at h
  split at h
  · rename_i t ht
    split at h
    · rename_i hf
      cases h
      exact ⟨t, ht, hf, rfl⟩
    · cases h
  · cases h
def tG (K : PySem.W.Frag) (t : T) : TG := fun v σ H Q => ∃ B env d e2, RE K σ H B env ∧ Rp K B v d ∧ setD t d env = some e2 ∧ ∀ σ2, RE K σ2 H B e2 → Upd t.slots σ env σ2 e2 → Q σ2 H
def tGs (K : PySem.W.Frag) (t : T) : TGs := fun vs σ H Q => ∃ B env ds e2, RE K σ H B env ∧ RpA K B vs ds ∧ setDs t ds env = some e2 ∧ ∀ σ2, RE K σ2 H B e2 → Upd t.slots σ env σ2 e2 → Q σ2 H
theorem setDs_len : ∀ {t : T} {ds : List D} {env e2 : En}, setDs t ds env = some e2 → ds.length = t.len
  | .nil, [], _, _, _ => rfl
  | .cons t ts, d :: ds, env, e2, h => by
    unfold setDs at h
    split at h
    · rw [List.length_cons, setDs_len h]; rfl
    · cases h
  | .nil, _ :: _, _, _, h => by cases h
  | .cons _ _, [], _, _, h => by cases h
  | .nm _, _, _, _, h => by cases h
  | .tp _, _, _, _, h => by cases h
end
section
variable {X : Cx} {Φ : Nat → Fn} {pos : Pos}
theorem _root_.L2.PG.imp {X : Cx} {e : Expr} {t t' : TG} (h : PG X e t) (k : ∀ v σ H Q, t' v σ H Q → t v σ H Q) : PG X e t' := ⟨fun pins s σ H v u Q I r hw => h.run pins s σ H v u Q I r (k v σ H Q hw)⟩
theorem _root_.L2.PGs.imp {X : Cx} {e : List Expr} {t t' : TGs} (h : PGs X e t) (k : ∀ v σ H Q, t' v σ H Q → t v σ H Q) : PGs X e t' := ⟨fun pins s σ H v u Q I r hw => h.run pins s σ H v u Q I r (k v σ H Q hw)⟩
theorem eg_name {i : Nat} {x : Str} (hN : X.N.Nodup) (hi : X.N[i]? = some x) (hx : Loc X.env.scope x) (hf : X.fn x = true ∨ X.env.scope.names.lookup x = some .local) : PG X (.Name x pos) (tG X.K (.nm i)) :=
  (pg_name hN hi hx hf).imp fun v σ H Q ⟨B, env, d, e2, R, r, h, k⟩ => by
    unfold setD at h
    obtain ⟨t, h1, h2, rfl⟩ := setS_ok h
    exact k _ (R.setDat (get_lt h1) r) (Upd.one h1 h2)
theorem egs_nil : PGs X [] (tGs X.K .nil) := pgs_nil.imp fun vs σ H Q ⟨B, env, ds, e2, R, r, h, k⟩ => by
  cases r with
  | nil => cases h; exact ⟨rfl, k σ R Upd.refl⟩
  | cons _ _ => cases h
theorem egs_cons {e : Expr} {es : List Expr} {t ts : T} (h1 : PG X e (tG X.K t)) (h2 : PGs X es (tGs X.K ts)) (hs : (assignEach (e :: es) X.env).map (·.2) = assign e X.env :: (assignEach es X.env).map (·.2)) : PGs X (e :: es) (tGs X.K (.cons t ts)) :=
  (pgs_cons h1 h2 hs).imp fun vs σ H Q ⟨B, env, ds, e2, R, r, h, k⟩ => by
    cases r with
    | nil => cases h
    | cons r ra =>
      unfold setDs at h
      split at h
      · rename_i e1 he1
        exact ⟨_, _, rfl, B, env, _, e1, R, r, he1, fun σ2 R2 U2 => ⟨B, e1, _, e2, R2, ra, h, fun σ3 R3 U3 => k σ3 R3 (U2.trans U3)⟩⟩
      · cases h
theorem eg_tup {es : List Expr} {kk n : Nat} {ts : T} (hc : X.calm = true) (h : PGs X es (tGs X.K ts)) (hn : (assignEach es X.env).length = n) (hl : ts.len = n) (hst : (assignEach es X.env).findIdx? (·.1) = none) : PG X (.Tuple es kk pos) (tG X.K (.tp ts)) :=
  (pg_tup hc h hn hst).imp fun v σ H Q ⟨B, env, d, e2, R, r, h, k⟩ => by
    cases r with
    | tup ha ra =>
      unfold setD at h
      exact ⟨_, _, rfl, Evl.st_of (R.sub _ _ ha), by rw [ra.length, setDs_len h, hl], B, env, _, e2, R, ra, h, k⟩
    | _ => cases h
end

/-! ### locks -/
section
variable {K : PySem.W.Frag} {σ σ2 : L2.St} {H B H' B' H2 B2 : Hp} {env env' e e2 : En} {i : Nat} {f : Bool} {m : MO} {d : Addr} {u w : HO}
theorem lock_re (R : RE K σ H B e) (ei : e[i]? = some (.own f m)) (pd : At σ i d) (hd : H d = some u) (hw : w = u ∨ ((∀ ds, m ≠ .lst ds) ∧ ∃ od, w = .frz od u)) : RE K σ (upd H d w) B (e.set i (.lck f m)) := by
  obtain ⟨q, o, pq, nb, hq, mo⟩ := R.own ei
  cases At.eq pd pq
  rw [hd] at hq
  cases hq
  refine ⟨R.sub.updR nb, by rw [List.length_set]; exact R.len, fun {j x} h => ?_, fun {j f' m'} h => ?_, fun {j f' m'} h => ?_, fun {j l s t p} h1 h2 m1 m2 x1 x2 => ?_⟩
  · rcases set_get h with ⟨_, e2⟩ | ⟨_, h⟩
    · cases e2
    · exact R.dat h
  · rcases set_get h with ⟨_, e2⟩ | ⟨ne, h⟩
    · cases e2
    · obtain ⟨p, o, x, y, z, t⟩ := R.own h
      refine ⟨p, o, x, y, ?_, t⟩
      rw [upd_ne fun q => ?_]; exact z
      subst q
      exact ne (R.apart h ei rfl rfl x pd)
  · rcases set_get h with ⟨rfl, e2⟩ | ⟨ne, h⟩
    · cases e2
      refine ⟨d, u, pd, nb, ?_, mo⟩
      rcases hw with rfl | ⟨nl, od, rfl⟩
      · cases m with
        | lst _ => exact upd_same
        | dK _ => exact .inl upd_same
        | dT _ => exact .inl upd_same
      · cases m with
        | lst _ => exact absurd rfl (nl _)
        | dK _ => exact .inr ⟨od, upd_same⟩
        | dT _ => exact .inr ⟨od, upd_same⟩
    · obtain ⟨p, o, x, y, z, t⟩ := R.lck h
      refine ⟨p, o, x, y, z.mono fun v hv => ?_, t⟩
      rw [upd_ne fun q => ?_]; exact hv
      subst q
      exact ne (R.apart h ei rfl rfl x pd)
  · have o1 : ∃ s0, e[j]? = some s0 ∧ s0.mut = true := by
      rcases set_get h1 with ⟨rfl, e2⟩ | ⟨_, h⟩
      · exact ⟨_, ei, rfl⟩
      · exact ⟨_, h, m1⟩
    have o2 : ∃ s0, e[l]? = some s0 ∧ s0.mut = true := by
      rcases set_get h2 with ⟨rfl, e2⟩ | ⟨_, h⟩
      · exact ⟨_, ei, rfl⟩
      · exact ⟨_, h, m2⟩
    obtain ⟨_, o1, w1⟩ := o1
    obtain ⟨_, o2, w2⟩ := o2
    exact R.apart o1 o2 w1 w2 x1 x2
theorem lock_not (R : RE K σ H B e) (ei : e[i]? = some (.own f m)) (pd : At σ i d) : ¬ Own σ (e.set i (.lck f m)) d := fun ⟨j, f', m', h, x⟩ => by
  rcases set_get h with ⟨_, e2⟩ | ⟨ne, h⟩
  · cases e2
  · exact ne (R.apart h ei rfl rfl x pd)
theorem free_re (R2 : RE K σ H2 B2 e2) (ei : e2[i]? = some (.lck f m)) (pd : At σ i d) (hd : H2 d = some w) (hw : w = u ∨ ∃ od, w = .frz od u) (mo : MOk K B2 u m) : RE K σ (upd H2 d u) B2 (e2.set i (.own f m)) := by
  obtain ⟨q, o, pq, nb, hq, _⟩ := R2.lck ei
  cases At.eq pd pq
  refine ⟨R2.sub.updR nb, by rw [List.length_set]; exact R2.len, fun {j x} h => ?_, fun {j f' m'} h => ?_, fun {j f' m'} h => ?_, fun {j l s t p} h1 h2 m1 m2 x1 x2 => ?_⟩
  · rcases set_get h with ⟨_, e2⟩ | ⟨_, h⟩
    · cases e2
    · exact R2.dat h
  · rcases set_get h with ⟨rfl, e2⟩ | ⟨ne, h⟩
    · cases e2
      exact ⟨d, u, pd, nb, upd_same, mo⟩
    · obtain ⟨p, o, x, y, z, t⟩ := R2.own h
      refine ⟨p, o, x, y, ?_, t⟩
      rw [upd_ne fun q => ?_]; exact z
      subst q
      exact ne (R2.apart h ei rfl rfl x pd)
  · rcases set_get h with ⟨_, e2⟩ | ⟨ne, h⟩
    · cases e2
    · obtain ⟨p, o, x, y, z, t⟩ := R2.lck h
      refine ⟨p, o, x, y, z.mono fun v hv => ?_, t⟩
      rw [upd_ne fun q => ?_]; exact hv
      subst q
      exact ne (R2.apart h ei rfl rfl x pd)
  · have o1 : ∃ s0, e2[j]? = some s0 ∧ s0.mut = true := by
      rcases set_get h1 with ⟨rfl, _⟩ | ⟨_, h⟩
      · exact ⟨_, ei, rfl⟩
      · exact ⟨_, h, m1⟩
    have o2 : ∃ s0, e2[l]? = some s0 ∧ s0.mut = true := by
      rcases set_get h2 with ⟨rfl, _⟩ | ⟨_, h⟩
      · exact ⟨_, ei, rfl⟩
      · exact ⟨_, h, m2⟩
    obtain ⟨_, o1, w1⟩ := o1
    obtain ⟨_, o2, w2⟩ := o2
    exact R2.apart o1 o2 w1 w2 x1 x2
theorem lock_over (R : RE K σ H B e) (ei : e[i]? = some (.own f m)) (pd : At σ i d) (hd : H d = some u) (hw : w = u ∨ ∃ od, w = .frz od u) (c : Cm K σ (upd H d w) B (e.set i (.lck f m)) H2 B2 e2) :
    H2 d = some w ∧ Cm K σ H B e (upd H2 d u) B2 (freeS (some i) e2) := by
  have no := lock_not R ei pd
  have h2 : H2 d = some w := c.st.fr upd_same no
  obtain ⟨q, o, pq, nb, hq, mo⟩ := R.own ei
  cases At.eq pd pq
  rw [hd] at hq
  cases hq
  have lt := get_lt ei
  have ei2 : e2[i]? = some (.lck f m) := c.st.lk.mpr (set_self lt)
  have fe : freeS (some i) e2 = e2.set i (.own f m) := by unfold freeS; simp only [ei2]
  rw [fe]
  refine ⟨h2, R, ⟨c.st.bb, fun {a} h => ?_, fun {a o} h n => ?_, fun {a o} h => ?_, fun {j f' m'} h => ?_, fun {j f' m'} => ?_⟩, free_re c.re ei2 pd h2 hw (mo.mono c.st.bb)⟩
  · have ne : a ≠ d := fun z => by subst z; rw [upd_same] at h; cases h
    rw [upd_ne ne] at h
    have := c.st.th h
    rw [upd_ne ne] at this
    exact this
  · have ne : a ≠ d := fun z => by subst z; exact n ⟨i, f, m, ei, pd⟩
    rw [upd_ne ne]
    refine c.st.fr (by rw [upd_ne ne]; exact h) fun ⟨j, f', m', x, y⟩ => ?_
    rcases set_get x with ⟨_, e2⟩ | ⟨_, x⟩
    · cases e2
    · exact n ⟨j, f', m', x, y⟩
  · rcases c.st.fre h with x | x | ⟨j, m', x, y⟩
    · exact .inl x
    · refine .inr (.inl ?_)
      have ne : a ≠ d := fun z => by subst z; rw [upd_same] at x; cases x
      rw [upd_ne ne] at x
      exact x
    · rcases set_get x with ⟨_, e2⟩ | ⟨_, x⟩
      · cases e2
      · exact .inr (.inr ⟨j, m', x, y⟩)
  · rcases set_get h with ⟨rfl, e2⟩ | ⟨ne, h⟩
    · cases e2; exact ⟨_, ei⟩
    · obtain ⟨m2, h⟩ := c.st.ow h
      rcases set_get h with ⟨_, e2⟩ | ⟨_, h⟩
      · cases e2
      · exact ⟨m2, h⟩
  · by_cases z : j = i
    · subst z
      rw [set_self (get_lt ei2), ei]
    · rw [List.getElem?_set_ne (Ne.symm z), c.st.lk, List.getElem?_set_ne (Ne.symm z)]

/-! ### slots forgotten -/
theorem wipeS_get {env : En} {j : Nat} : ∀ {vs : List Nat}, j ∉ vs → (wipeS env vs)[j]? = env[j]?
  | [], _ => rfl
  | v :: vs, h => by
    unfold wipeS
    rw [List.getElem?_set_ne (fun z => h (by simp [z])), wipeS_get (fun z => h (List.mem_cons_of_mem _ z))]
theorem wipeS_len {env : En} : ∀ {vs : List Nat}, (wipeS env vs).length = env.length
  | [] => rfl
  | v :: vs => by unfold wipeS; rw [List.length_set, wipeS_len]
theorem wipeS_un {env : En} {j : Nat} {s : Slot} : ∀ {vs : List Nat}, j ∈ vs → (wipeS env vs)[j]? = some s → s = .un
  | v :: vs, h, e => by
    unfold wipeS at e
    rcases set_get e with ⟨_, z⟩ | ⟨ne, z⟩
    · exact z
    · exact wipeS_un ((List.mem_cons.mp h).resolve_left ne) z
theorem wipe_get {σ : L2.St} {j : Nat} : ∀ {vs : List Nat}, j ∉ vs → (wipe σ vs)[j]? = σ[j]?
  | [], _ => rfl
  | v :: vs, h => by
    unfold wipe
    rw [List.getElem?_set_ne (fun z => h (by simp [z])), wipe_get (fun z => h (List.mem_cons_of_mem _ z))]
theorem wipe_on {σ : L2.St} {j : Nat} : ∀ {vs : List Nat}, j ∈ vs → j < σ.length → (wipe σ vs)[j]? = some none
  | v :: vs, h, lt => by
    unfold wipe
    by_cases e : j = v
    · subst e
      exact set_self (by rw [wipe_length]; exact lt)
    · rw [List.getElem?_set_ne (Ne.symm e)]
      exact wipe_on ((List.mem_cons.mp h).resolve_left e) lt
theorem wipe_same {σ σ2 : L2.St} {vs : List Nat} (hl : σ2.length = σ.length) (h : ∀ j, j ∉ vs → σ2[j]? = σ[j]?) : wipe σ2 vs = wipe σ vs := by
  apply List.ext_getElem?
  intro j
  by_cases hj : j ∈ vs
  · by_cases lt : j < σ.length
    · rw [wipe_on hj lt, wipe_on hj (by rw [hl]; exact lt)]
    · rw [List.getElem?_eq_none (by rw [wipe_length]; omega), List.getElem?_eq_none (by rw [wipe_length]; omega)]
  · rw [wipe_get hj, wipe_get hj, h j hj]
theorem backS_get {old env : En} {j : Nat} : ∀ {vs : List Nat}, j ∉ vs → (backS old env vs)[j]? = env[j]?
  | [], _ => rfl
  | v :: vs, h => by
    have ih := backS_get (old := old) (env := env) (fun z => h (List.mem_cons_of_mem _ z))
    unfold backS
    split
    · rw [List.getElem?_set_ne (fun z => h (by simp [z])), ih]
    · exact ih
theorem backS_len {old env : En} : ∀ {vs : List Nat}, (backS old env vs).length = env.length
  | [] => rfl
  | v :: vs => by
    unfold backS
    split
    · rw [List.length_set, backS_len]
    · exact backS_len
theorem backS_on {old env : En} {j : Nat} : ∀ {vs : List Nat}, j ∈ vs → env.length = old.length → (backS old env vs)[j]? = old[j]?
  | v :: vs, h, hl => by
    unfold backS
    by_cases e : j = v
    · subst e
      split
      · rename_i s hs
        rw [set_self (by rw [backS_len, hl]; exact get_lt hs), hs]
      · rename_i hs
        by_cases z : j ∈ vs
        · exact backS_on z hl
        · rw [backS_get z, hs]
          have : old.length ≤ j := by
            rcases Nat.lt_or_ge j old.length with q | q
            · rw [List.getElem?_eq_getElem q] at hs; cases hs
            · exact q
          exact List.getElem?_eq_none (by omega)
    · have ih := backS_on (env := env) ((List.mem_cons.mp h).resolve_left e) hl
      split
      · rw [List.getElem?_set_ne (Ne.symm e)]; exact ih
      · exact ih
theorem wipe_at {j : Nat} {p : Addr} {vs : List Nat} (h : At (wipe σ vs) j p) : j ∉ vs ∧ At σ j p := by
  obtain ⟨h1, h2⟩ := wipe_some h
  exact ⟨h2, h1⟩
theorem wipeS_mut {vs : List Nat} {j : Nat} {s : Slot} (h : (wipeS env vs)[j]? = some s) (m : s ≠ .un) : j ∉ vs ∧ env[j]? = some s := by
  by_cases z : j ∈ vs
  · exact absurd (wipeS_un z h) m
  · rw [wipeS_get z] at h; exact ⟨z, h⟩
theorem RE.wipe (R : RE K σ H B env) (vs : List Nat) : RE K (wipe σ vs) H B (wipeS env vs) where
  sub := R.sub
  len := by rw [wipeS_len, wipe_length]; exact R.len
  dat := fun {j x} h => by
    obtain ⟨n, h⟩ := wipeS_mut h (by intro z; cases z)
    rw [wipe_get n]; exact R.dat h
  own := fun {j f m} h => by
    obtain ⟨n, h⟩ := wipeS_mut h (by intro z; cases z)
    obtain ⟨p, o, x, y⟩ := R.own h
    exact ⟨p, o, by show (L2.wipe σ vs)[j]? = _; rw [wipe_get n]; exact x, y⟩
  lck := fun {j f m} h => by
    obtain ⟨n, h⟩ := wipeS_mut h (by intro z; cases z)
    obtain ⟨p, o, x, y⟩ := R.lck h
    exact ⟨p, o, by show (L2.wipe σ vs)[j]? = _; rw [wipe_get n]; exact x, y⟩
  apart := fun {j l s t p} h1 h2 m1 m2 x1 x2 => by
    obtain ⟨n1, h1⟩ := wipeS_mut h1 (by intro z; subst z; cases m1)
    obtain ⟨n2, h2⟩ := wipeS_mut h2 (by intro z; subst z; cases m2)
    exact R.apart h1 h2 m1 m2 (wipe_at x1).2 (wipe_at x2).2
theorem own_wipe {vs : List Nat} {a : Addr} (h : Own (wipe σ vs) (wipeS env vs) a) : Own σ env a := by
  obtain ⟨j, f, m, x, y⟩ := h
  exact ⟨j, f, m, (wipeS_mut x (by intro z; cases z)).2, (wipe_at y).2⟩
/-- the slots vs come back -/
theorem wipe_over {vs : List Nat} (R : RE K σ H B e) (c : Cm K (wipe σ vs) H B (wipeS e vs) H2 B2 e2) : Cm K σ H B e H2 B2 (backS e e2 vs) := by
  have l2 : e2.length = e.length := by rw [c.re.len, wipe_length, R.len]
  -- what a hidden slot holds stands
  have hid : ∀ {j : Nat} {s : Slot} {p : Addr}, j ∈ vs → e[j]? = some s → s.mut = true → At σ j p → ¬ Own (wipe σ vs) (wipeS e vs) p := fun {j s p} hj h m x ⟨l, f, m', y, z⟩ => by
    obtain ⟨n, y⟩ := wipeS_mut y (by intro z; cases z)
    exact n (R.apart y h rfl m (wipe_at z).2 x ▸ hj)
  have cases' : ∀ {j : Nat} {s : Slot}, (backS e e2 vs)[j]? = some s → (j ∈ vs ∧ e[j]? = some s) ∨ (j ∉ vs ∧ e2[j]? = some s) := fun {j s} h => by
    by_cases z : j ∈ vs
    · rw [backS_on z l2] at h; exact .inl ⟨z, h⟩
    · rw [backS_get z] at h; exact .inr ⟨z, h⟩
  have e2m : ∀ {j : Nat} {s : Slot}, e2[j]? = some s → s.mut = true → ∃ t, (wipeS e vs)[j]? = some t ∧ t.mut = true := fun {j s} h m => by
    cases s with
    | own f m' => obtain ⟨m2, z⟩ := c.st.ow h; exact ⟨_, z, rfl⟩
    | lck f m' => exact ⟨_, c.st.lk.mp h, rfl⟩
    | un => cases m
    | dat _ => cases m
  refine ⟨R, ⟨c.st.bb, c.st.th, fun h n => c.st.fr h fun z => n (own_wipe z), fun {a o} h => ?_, fun {j f m} h => ?_, fun {j f m} => ?_⟩, ⟨c.re.sub, by rw [backS_len, c.re.len, wipe_length], fun {j x} h => ?_, fun {j f m} h => ?_, fun {j f m} h => ?_, fun {j l s t p} h1 h2 m1 m2 x1 x2 => ?_⟩⟩
  · rcases c.st.fre h with x | x | ⟨j, m, x, y⟩
    · exact .inl x
    · exact .inr (.inl x)
    · exact .inr (.inr ⟨j, m, (wipeS_mut x (by intro z; cases z)).2, (wipe_at y).2⟩)
  · rcases cases' h with ⟨_, h⟩ | ⟨_, h⟩
    · exact ⟨_, h⟩
    · obtain ⟨m2, z⟩ := c.st.ow h
      exact ⟨m2, (wipeS_mut z (by intro z; cases z)).2⟩
  · by_cases z : j ∈ vs
    · rw [backS_on z l2]
    · rw [backS_get z, c.st.lk, wipeS_get z]
  · rcases cases' h with ⟨_, h⟩ | ⟨n, h⟩
    · obtain ⟨v, x, r⟩ := R.dat h
      exact ⟨v, x, r.mono c.st.bb⟩
    · obtain ⟨v, x, r⟩ := c.re.dat h
      rw [wipe_get n] at x
      exact ⟨v, x, r⟩
  · rcases cases' h with ⟨hj, h⟩ | ⟨n, h⟩
    · obtain ⟨p, o, x, y, z, t⟩ := R.own h
      have no := hid hj h rfl x
      exact ⟨p, o, x, c.st.none z y no, c.st.fr z no, t.mono c.st.bb⟩
    · obtain ⟨p, o, x, y⟩ := c.re.own h
      exact ⟨p, o, (wipe_at x).2, y⟩
  · rcases cases' h with ⟨hj, h⟩ | ⟨n, h⟩
    · obtain ⟨p, o, x, y, z, t⟩ := R.lck h
      have no := hid hj h rfl x
      refine ⟨p, o, x, ?_, z.mono fun u hu => c.st.fr hu no, t.mono c.st.bb⟩
      rcases z.rd with z | ⟨_, z⟩
      · exact c.st.none z y no
      · exact c.st.none z y no
    · obtain ⟨p, o, x, y⟩ := c.re.lck h
      exact ⟨p, o, (wipe_at x).2, y⟩
  · have key : ∀ {j : Nat} {s : Slot}, (backS e e2 vs)[j]? = some s → s.mut = true → ∃ t, e[j]? = some t ∧ t.mut = true := fun {j s} h m => by
      rcases cases' h with ⟨_, h⟩ | ⟨n, h⟩
      · exact ⟨_, h, m⟩
      · obtain ⟨t, z, mt⟩ := e2m h m
        exact ⟨t, (wipeS_mut z (by intro w; subst w; cases mt)).2, mt⟩
    obtain ⟨_, o1, w1⟩ := key h1 m1
    obtain ⟨_, o2, w2⟩ := key h2 m2
    exact R.apart o1 o2 w1 w2 x1 x2
end
end Mi

/-! Mi11: walks; list comprehensions. -/
namespace Mi
open PySem PySem.Spec PyProof.Rows L2

section
variable {K : PySem.W.Frag} {σ σ2 : L2.St} {H B H' B' H2 B2 H0 B0 : Hp} {env env' e e2 e0 e2' : En}
abbrev NoMut (vs : List Nat) (env : En) : Prop := ∀ {j : Nat} {s : Slot}, j ∈ vs → env[j]? = some s → s.mut = false
theorem Stp.shift {vs : List Nat} (s : Stp σ H B env H' B' env') (a : ∀ {j : Nat}, j ∉ vs → σ2[j]? = σ[j]?) (b : ∀ {j : Nat}, j ∉ vs → e2[j]? = env[j]?) (c : ∀ {j : Nat}, j ∉ vs → e2'[j]? = env'[j]?)
    (n1 : NoMut vs env) (n2 : NoMut vs e2) (n3 : NoMut vs e2') : Stp σ2 H B e2 H' B' e2' where
  bb := s.bb
  th := s.th
  fr := fun h n => s.fr h fun ⟨j, f, m, x, y⟩ => by
    have nj : j ∉ vs := fun z => by have := n1 z x; cases this
    exact n ⟨j, f, m, by rw [b nj]; exact x, by show σ2[j]? = _; rw [a nj]; exact y⟩
  fre := fun h => by
    rcases s.fre h with x | x | ⟨j, m, x, y⟩
    · exact .inl x
    · exact .inr (.inl x)
    · have nj : j ∉ vs := fun z => by have := n1 z x; cases this
      exact .inr (.inr ⟨j, m, by rw [b nj]; exact x, by show σ2[j]? = _; rw [a nj]; exact y⟩)
  ow := fun {j f m} h => by
    have nj : j ∉ vs := fun z => by have := n3 z h; cases this
    rw [c nj] at h
    obtain ⟨m', h⟩ := s.ow h
    exact ⟨m', by rw [b nj]; exact h⟩
  lk := fun {j f m} => by
    by_cases z : j ∈ vs
    · constructor
      · intro h; have := n3 z h; cases this
      · intro h; have := n2 z h; cases this
    · rw [c z, b z]; exact s.lk
theorem Cm.updD (c : Cm K σ H0 B0 e0 H B e) {D : Addr} {o : HO} (n : H0 D = none) (nb : B D = none) : Cm K σ H0 B0 e0 (upd H D o) B e where
  r0 := c.r0
  st := ⟨c.st.bb, fun {a} h => by
      by_cases z : a = D
      · subst z; exact n
      · rw [upd_ne z] at h; exact c.st.th h, fun {a u} h x => by
      have z : a ≠ D := fun z => by subst z; rw [n] at h; cases h
      rw [upd_ne z]; exact c.st.fr h x, c.st.fre, c.st.ow, c.st.lk⟩
  re := {
    sub := c.re.sub.updR nb
    len := c.re.len
    dat := c.re.dat
    own := fun {j f m} h => by
      obtain ⟨p, o, x, y, z, t⟩ := c.re.own h
      refine ⟨p, o, x, y, ?_, t⟩
      rw [upd_ne fun q => ?_]; exact z
      subst q
      obtain ⟨_, w, _⟩ := c.r0.ownH (c.st.own ⟨j, f, m, h, x⟩)
      rw [n] at w
      cases w
    lck := fun {j f m} h => by
      obtain ⟨p, o, x, y, z, t⟩ := c.re.lck h
      refine ⟨p, o, x, y, z.mono fun v hv => ?_, t⟩
      rw [upd_ne fun q => ?_]; exact hv
      subst q
      exact lck_new c n h x
    apart := c.re.apart }

/-! ### what a walk gives -/
def WkOk (K : PySem.W.Frag) (B : Hp) (J : It) (xs : List D) (pin : Option (Addr × HO)) : Prop := ∀ H' B', Sub B B' → Sub B' H' → (∀ a o, pin = some (a, o) → H' a = some o) →
  (∀ (i : Nat) d, xs[i]? = some d → J.go i H' ∧ ∀ x H'', J.yld i H' x H'' → ∃ B'', Gr H' B' H'' B'' ∧ Rp K B'' x d) ∧ J.stop xs.length H'
theorem WkOk.mono {J : It} {xs : List D} {pin : Option (Addr × HO)} (h : WkOk K B J xs pin) (s : Sub B B') : WkOk K B' J xs pin := fun H' B2 s2 => h H' B2 (s.trans s2)
theorem wk_lst {a : Addr} {ds : List D} (r : Rp K B (.ref a) (.lst ds)) : WkOk K B (Itl K a) ds none := fun H' B' s1 s2 _ => by
  cases r with
  | lst ha ra =>
    have q := Evl.sq_of (K := K) (s2 _ _ (s1 _ _ ha))
    refine ⟨fun i d hd => ?_, _, q, by rw [ra.length]; exact Nat.le_refl _⟩
    obtain ⟨v, hv, rv⟩ := ra.get hd
    refine ⟨⟨_, v, q, hv⟩, fun x H'' y => ?_⟩
    obtain ⟨rfl, y⟩ := y
    have := y _ q
    rw [hv] at this
    cases this
    exact ⟨B', Gr.refl s2, rv.mono s1⟩
theorem wk_tup {a : Addr} {ds : List D} (r : Rp K B (.ref a) (.tup ds)) : WkOk K B (Itt K a) ds none := fun H' B' s1 s2 _ => by
  cases r with
  | tup ha ra =>
    have q := Evl.st_of (K := K) (s2 _ _ (s1 _ _ ha))
    refine ⟨fun i d hd => ?_, _, q, by rw [ra.length]; exact Nat.le_refl _⟩
    obtain ⟨v, hv, rv⟩ := ra.get hd
    refine ⟨⟨_, v, q, hv⟩, fun x H'' y => ?_⟩
    obtain ⟨rfl, y⟩ := y
    have := y _ q
    rw [hv] at this
    cases this
    exact ⟨B', Gr.refl s2, rv.mono s1⟩
theorem wk_own {a : Addr} {vs : List V} {ds : List D} (ra : RpA K B vs ds) : WkOk K B (Itl K a) ds (some (a, .lst vs)) := fun H' B' s1 s2 hp => by
  have q := Evl.sq_of (K := K) (hp _ _ rfl)
  refine ⟨fun i d hd => ?_, _, q, by rw [ra.length]; exact Nat.le_refl _⟩
  obtain ⟨v, hv, rv⟩ := ra.get hd
  refine ⟨⟨_, v, q, hv⟩, fun x H'' y => ?_⟩
  obtain ⟨rfl, y⟩ := y
  have := y _ q
  rw [hv] at this
  cases this
  exact ⟨B', Gr.refl s2, rv.mono s1⟩
theorem range_get {n i : Nat} {lo : Int} {d : D} (h : (rangeD lo n)[i]? = some d) : i < n ∧ d = .int (lo + i) := by
  unfold rangeD at h
  rw [List.getElem?_map] at h
  rcases Nat.lt_or_ge i n with z | z
  · rw [List.getElem?_range z] at h
    cases h
    exact ⟨z, rfl⟩
  · rw [List.getElem?_eq_none (by simpa using z)] at h
    cases h
theorem wk_rng {lo : Int} {n : Nat} : WkOk K B (Itr lo n) (rangeD lo n) none := fun H' B' s1 s2 _ => by
  refine ⟨fun i d hd => ?_, by show n ≤ _; simp [rangeD]⟩
  obtain ⟨h1, rfl⟩ := range_get hd
  refine ⟨h1, fun x H'' y => ?_⟩
  obtain ⟨rfl, rfl⟩ := y
  exact ⟨B', Gr.refl s2, .int _⟩
end

/-! ### iterators -/
def LkOut (K : PySem.W.Frag) (σ : L2.St) (H B : Hp) (env : En) (H' B' : Hp) (e0 e1 : En) : Option Nat → Prop
  | none => Cm K σ H B env H' B' e1
  | some i => ∃ f m a o, Cm K σ H B env H' B' e0 ∧ e0[i]? = some (Slot.own f m) ∧ At σ i a ∧ H' a = some o ∧ e1 = e0.set i (.lck f m)
def PinOk (σ : L2.St) (H : Hp) (env : En) (pin : Option (Addr × HO)) : Prop := ∀ a o, pin = some (a, o) → H a = some o ∧ ∃ i f m, env[i]? = some (Slot.lck f m) ∧ At σ i a
def tI (K : PySem.W.Frag) (Φ : Nat → Fn) (it : E) : TI := fun σ H R => ∃ B env p e0 xs lk e1, RE K σ H B env ∧ evE Φ it env = some (p, e0) ∧ itsOf p e0 = some (xs, lk, e1) ∧
  ∀ H' B' J pin, LkOut K σ H B env H' B' e0 e1 lk → PinOk σ H' e1 pin → WkOk K B' J xs pin → R J H'
section
variable {nms : List Str} {X : Cx} {Φ : Nat → Fn} {k : Nat} {pos p0 : Pos} {tg l a b : Expr} {ee ea eb : E}
theorem _root_.L2.PI.imp {X : Cx} {tg e : Expr} {t t' : TI} (h : PI X tg e t) (k : ∀ σ H R, t' σ H R → t σ H R) : PI X tg e t' := ⟨fun pins s σ H R I hw => h.run pins s σ H R I (k σ H R hw)⟩
theorem _root_.L2.PI.or {X : Cx} {tg e : Expr} {t t' : TI} (h : PI X tg e t) (h' : PI X tg e t') : PI X tg e (fun σ H R => t σ H R ∨ t' σ H R) := ⟨fun pins s σ H R I hw => hw.elim (h.run pins s σ H R I) (h'.run pins s σ H R I)⟩
theorem ei_val (hl : PE X l (tE X.K Φ ee)) : PI X tg l (tI X.K Φ ee) :=
  ((pi_list hl).or (pi_tup hl)).imp fun σ H R ⟨B, env, p, e0, xs, lk, e1, R0, h1, h2, kk⟩ => by
    unfold itsOf at h2
    split at h2
    · exact .inl ⟨B, env, _, e0, R0, h1, fun v H' B' c r => r.elim⟩
    · rename_i d
      split at h2
      · rename_i ds hd
        cases h2
        unfold D.seq? at hd
        split at hd
        · cases hd
          refine .inl ⟨B, env, _, _, R0, h1, fun v H' B' c r => ?_⟩
          obtain ⟨q, ys, rfl, ha, ra⟩ := (RpS.of r).lst c.re.sub
          exact ⟨q, rfl, ⟨_, Evl.sq_of ha⟩, kk _ _ _ none c (fun _ _ z => by cases z) (wk_lst r)⟩
        · cases hd
          refine .inr ⟨B, env, _, _, R0, h1, fun v H' B' c r => ?_⟩
          obtain ⟨q, ys, rfl, ha, ra⟩ := (RpS.of r).tup c.re.sub
          exact ⟨q, rfl, ⟨_, ha⟩, kk _ _ _ none c (fun _ _ z => by cases z) (wk_tup r)⟩
        · cases hd
      · cases h2
    · rename_i ds
      cases h2
      refine .inl ⟨B, env, _, _, R0, h1, fun v H' B' c r => ?_⟩
      obtain ⟨B2, c2, s2, r2, _⟩ := fz_ok c r (rfl : fz (.new (.lst xs)) _ = some (.lst xs, _))
      obtain ⟨q, ys, rfl, ha, ra⟩ := (RpS.of r2).lst c2.re.sub
      exact ⟨q, rfl, ⟨_, Evl.sq_of ha⟩, kk _ _ _ none c2 (fun _ _ z => by cases z) (wk_lst r2)⟩
    · cases h2
    · rename_i i
      split at h2
      · rename_i f ds hi
        cases h2
        refine .inl ⟨B, env, _, _, R0, h1, fun v H' B' c r => ?_⟩
        obtain ⟨q, o, pq, nb, hq, ys, rfl, ra⟩ := c.re.own hi
        cases Option.some.inj (Option.some.inj (show some (some v) = some (some (V.ref q)) from r.symm.trans pq))
        exact ⟨q, rfl, ⟨_, Evl.sq_of hq⟩, kk _ _ _ (some (q, .lst ys)) ⟨f, _, q, _, c, hi, pq, hq, rfl⟩ (fun _ _ z => by cases z; exact ⟨hq, i, f, _, set_self (get_lt hi), pq⟩) (wk_own ra)⟩
      · rename_i f ds hi
        cases h2
        refine .inl ⟨B, env, _, _, R0, h1, fun v H' B' c r => ?_⟩
        obtain ⟨q, o, pq, nb, hq, ys, rfl, ra⟩ := c.re.lck hi
        cases Option.some.inj (Option.some.inj (show some (some v) = some (some (V.ref q)) from r.symm.trans pq))
        exact ⟨q, rfl, ⟨_, Evl.sq_of hq⟩, kk _ _ _ (some (q, .lst ys)) c (fun _ _ z => by cases z; exact ⟨hq, i, f, _, hi, pq⟩) (wk_own ra)⟩
      · rename_i d hi
        split at h2
        · rename_i ds hd
          cases h2
          unfold D.seq? at hd
          split at hd
          · cases hd
            refine .inl ⟨B, env, _, _, R0, h1, fun v H' B' c r => ?_⟩
            obtain ⟨w, pw, rw⟩ := c.re.dat hi
            cases Option.some.inj (Option.some.inj (show some (some v) = some (some w) from r.symm.trans pw))
            obtain ⟨q, ys, rfl, ha, ra⟩ := (RpS.of rw).lst c.re.sub
            exact ⟨q, rfl, ⟨_, Evl.sq_of ha⟩, kk _ _ _ none c (fun _ _ z => by cases z) (wk_lst rw)⟩
          · cases hd
            refine .inr ⟨B, env, _, _, R0, h1, fun v H' B' c r => ?_⟩
            obtain ⟨w, pw, rw⟩ := c.re.dat hi
            cases Option.some.inj (Option.some.inj (show some (some v) = some (some w) from r.symm.trans pw))
            obtain ⟨q, ys, rfl, ha, ra⟩ := (RpS.of rw).tup c.re.sub
            exact ⟨q, rfl, ⟨_, ha⟩, kk _ _ _ none c (fun _ _ z => by cases z) (wk_tup rw)⟩
          · cases hd
        · cases h2
      · cases h2
/-! ### range, enumerate, zip -/
theorem its_out {σ : L2.St} {H B : Hp} {env e1 : En} {xs ys : List D} {lk : Option Nat} {e2 : En} (h : itsOf (.its xs) e1 = some (ys, lk, e2)) : ys = xs ∧ lk = none ∧ e2 = e1 := by
  cases h; exact ⟨rfl, rfl, rfl⟩
theorem ei_rng1 {p1 : Pos} {ta : E} (g : GX nms Φ X k) (hr : Gl X "range") (ha : PE X a (tE X.K Φ ea)) (hs : starEach [a] X.env = [(false, eval a X.env)]) : PI X tg (.Call (.Name "range" p1) [a] [] pos) (tI X.K Φ (.rng (.acons ea .anil))) :=
  (pi_range1 hr (g.blt _ (by decide +kernel)) (va_cons ha va_nil (by rw [hs]; rfl)) hs).imp fun σ H R ⟨B, env, p, e0, xs, lk, e1, R0, h1, h2, kk⟩ => by
    unfold evE at h1
    split at h1
    · rename_i ps ee h3
      split at h1
      · rename_i ds hd
        split at h1
        · rename_i ys hy
          cases h1
          obtain ⟨rfl, rfl, rfl⟩ := its_out (σ := σ) (H := H) (B := B) (env := env) h2
          refine ⟨B, env, ps, _, R0, h3, fun vs H' B' c r => ?_⟩
          have rs := pks_ok c.re r.all hd
          unfold rngOf at hy
          split at hy
          · rename_i n
            split at hy
            · rename_i bd
              cases hy
              cases rs with
              | cons r1 t =>
                cases t
                exact ⟨n, by rw [r1.int], by omega, by omega, kk _ _ _ none c (fun _ _ z => by cases z) wk_rng⟩
            · cases hy
          · rename_i x y
            unfold evA at h3
            split at h3
            · unfold evA at h3
              simp only at h3
              cases h3
              cases r.all with
              | cons r1 t => cases t; cases rs with | cons _ t2 => cases t2
            · cases h3
          · cases hy
        · cases h1
      · cases h1
    · cases h1
theorem ei_rng2 {p1 : Pos} (g : GX nms Φ X k) (hr : Gl X "range") (ha : PE X a (tE X.K Φ ea)) (hb : PE X b (tE X.K Φ eb)) (hs : starEach [a, b] X.env = [(false, eval a X.env), (false, eval b X.env)]) (hs2 : starEach [b] X.env = [(false, eval b X.env)]) : PI X tg (.Call (.Name "range" p1) [a, b] [] pos) (tI X.K Φ (.rng (.acons ea (.acons eb .anil)))) :=
  (pi_range2 hr (g.blt _ (by decide +kernel)) (va_cons ha (va_cons hb va_nil (by rw [hs2]; rfl)) (by rw [hs, hs2])) hs hs2).imp fun σ H R ⟨B, env, p, e0, xs, lk, e1, R0, h1, h2, kk⟩ => by
    unfold evE at h1
    split at h1
    · rename_i ps ee h3
      split at h1
      · rename_i ds hd
        split at h1
        · rename_i ys hy
          cases h1
          obtain ⟨rfl, rfl, rfl⟩ := its_out (σ := σ) (H := H) (B := B) (env := env) h2
          refine ⟨B, env, ps, _, R0, h3, fun vs H' B' c r => ?_⟩
          have rs := pks_ok c.re r.all hd
          unfold rngOf at hy
          split at hy
          · rename_i x
            unfold evA at h3
            split at h3
            · split at h3
              · rename_i h4
                cases h3
                unfold evA at h4
                split at h4
                · unfold evA at h4
                  simp only at h4
                  cases h4
                  cases r.all with
                  | cons r1 t => cases t with | cons _ t => cases t; cases rs with | cons _ t2 => cases t2
                · cases h4
              · cases h3
            · cases h3
          · rename_i x y
            split at hy
            · rename_i bd
              cases hy
              cases rs with
              | cons r1 t =>
                cases t with
                | cons r2 t =>
                  cases t
                  exact ⟨x, y, by rw [r1.int, r2.int], by omega, kk _ _ _ none c (fun _ _ z => by cases z) wk_rng⟩
            · cases hy
          · cases hy
        · cases h1
      · cases h1
    · cases h1
theorem enum_get {ds : List D} {i : Nat} {d : D} (h : (enumD ds)[i]? = some d) : ∃ x, ds[i]? = some x ∧ d = .tup [.int (i : Nat), x] := by
  unfold enumD at h
  rw [List.getElem?_mapIdx] at h
  cases e : ds[i]? with
  | none => rw [e] at h; cases h
  | some x => rw [e] at h; cases h; exact ⟨x, rfl, rfl⟩
theorem wk_enum {K : PySem.W.Frag} {B : Hp} {a : Addr} {ds : List D} (r : Rp K B (.ref a) (.lst ds)) : WkOk K B (Ite K a) (enumD ds) none := fun H' B' s1 s2 _ => by
  cases r with
  | lst ha ra =>
    have q := Evl.sq_of (K := K) (s2 _ _ (s1 _ _ ha))
    refine ⟨fun i d hd => ?_, _, q, by simp [enumD, ra.length]⟩
    obtain ⟨x, hx, rfl⟩ := enum_get hd
    obtain ⟨v, hv, rv⟩ := ra.get hx
    refine ⟨⟨_, v, q, hv⟩, fun y H'' yy => ?_⟩
    obtain ⟨T, w, rfl, nT, rfl, hw⟩ := yy
    have := hw _ q
    rw [hv] at this
    cases this
    exact ⟨_, Gr.new s2 nT, .tup upd_same (.cons (.int _) (.one ((rv.mono s1).mono (Sub.new (s2.none nT)))))⟩
theorem ei_enum {p1 tpos : Pos} {elts : List Expr} {kk : Nat} (g : GX nms Φ X k) (hr : Gl X "enumerate") (ha : PE X a (tE X.K Φ ea)) (hs : starEach [a] X.env = [(false, eval a X.env)]) : PI X (.Tuple elts kk tpos) (.Call (.Name "enumerate" p1) [a] [] pos) (tI X.K Φ (.enm ea)) :=
  (pi_enum hr (g.blt _ (by decide +kernel)) (pa_cons ha pa_nil (by rw [hs]; rfl)) hs).imp fun σ H R ⟨B, env, p, e0, xs, lk, e1, R0, h1, h2, kk⟩ => by
    unfold evE at h1
    split at h1
    · rename_i q ee h3
      split at h1
      · rename_i ds ee2 hf
        cases h1
        obtain ⟨rfl, rfl, rfl⟩ := its_out (σ := σ) (H := H) (B := B) (env := env) h2
        refine ⟨B, env, q, _, R0, h3, fun v H' B' c r => ?_⟩
        obtain ⟨B2, c2, s2, r2, _⟩ := fz_ok c r hf
        obtain ⟨a, ys, rfl, hh, ra⟩ := (RpS.of r2).lst c2.re.sub
        exact ⟨a, ys, rfl, Evl.sq_of hh, kk _ _ _ none c2 (fun _ _ z => by cases z) (wk_enum r2)⟩
      · cases h1
    · cases h1
theorem zip_get {xs ys : List D} {i : Nat} {d : D} (h : (List.zipWith (fun x y => D.tup [x, y]) xs ys)[i]? = some d) : ∃ x y, xs[i]? = some x ∧ ys[i]? = some y ∧ d = .tup [x, y] := by
  rw [List.getElem?_zipWith] at h
  split at h
  · rename_i x y h1 h2
    cases h
    exact ⟨x, y, h1, h2, rfl⟩
  · cases h
theorem wk_zip {K : PySem.W.Frag} {B : Hp} {a b : Addr} {xs ys : List D} (r1 : Rp K B (.ref a) (.lst xs)) (r2 : Rp K B (.ref b) (.lst ys)) : WkOk K B (Itz K a b) (List.zipWith (fun x y => D.tup [x, y]) xs ys) none := fun H' B' s1 s2 _ => by
  cases r1 with
  | lst ha ra =>
    cases r2 with
    | lst hb rb =>
      have q1 := Evl.sq_of (K := K) (s2 _ _ (s1 _ _ ha))
      have q2 := Evl.sq_of (K := K) (s2 _ _ (s1 _ _ hb))
      refine ⟨fun i d hd => ?_, _, _, q1, q2, by rw [List.length_zipWith, ra.length, rb.length]; omega⟩
      obtain ⟨x, y, hx, hy, rfl⟩ := zip_get hd
      obtain ⟨v, hv, rv⟩ := ra.get hx
      obtain ⟨w, hw, rw'⟩ := rb.get hy
      refine ⟨⟨_, _, v, w, q1, q2, hv, hw⟩, fun y H'' yy => ?_⟩
      obtain ⟨T, v', w', rfl, nT, rfl, h1, h2⟩ := yy
      have := h1 _ q1
      rw [hv] at this
      cases this
      have := h2 _ q2
      rw [hw] at this
      cases this
      exact ⟨_, Gr.new s2 nT, .tup upd_same (.cons ((rv.mono s1).mono (Sub.new (s2.none nT))) (.one ((rw'.mono s1).mono (Sub.new (s2.none nT)))))⟩
theorem wk_zipT {K : PySem.W.Frag} {B : Hp} {a b : Addr} {xs ys : List D} (r1 : Rp K B (.ref a) (.tup xs)) (r2 : Rp K B (.ref b) (.tup ys)) : WkOk K B (RZ.ItzT K a b) (List.zipWith (fun x y => D.tup [x, y]) xs ys) none := fun H' B' s1 s2 _ => by
  cases r1 with
  | tup ha ra =>
    cases r2 with
    | tup hb rb =>
      have q1 := Evl.st_of (K := K) (s2 _ _ (s1 _ _ ha))
      have q2 := Evl.st_of (K := K) (s2 _ _ (s1 _ _ hb))
      refine ⟨fun i d hd => ?_, _, _, q1, q2, by rw [List.length_zipWith, ra.length, rb.length]; omega⟩
      obtain ⟨x, y, hx, hy, rfl⟩ := zip_get hd
      obtain ⟨v, hv, rv⟩ := ra.get hx
      obtain ⟨w, hw, rw'⟩ := rb.get hy
      refine ⟨⟨_, _, v, w, q1, q2, hv, hw⟩, fun y H'' yy => ?_⟩
      obtain ⟨T, v', w', rfl, nT, rfl, h1, h2⟩ := yy
      have := h1 _ q1
      rw [hv] at this
      cases this
      have := h2 _ q2
      rw [hw] at this
      cases this
      exact ⟨_, Gr.new s2 nT, .tup upd_same (.cons ((rv.mono s1).mono (Sub.new (s2.none nT))) (.one ((rw'.mono s1).mono (Sub.new (s2.none nT)))))⟩
theorem ei_zip {p1 tpos : Pos} {elts : List Expr} {kk : Nat} (g : GX nms Φ X k) (hr : Gl X "zip") (ha : PE X a (tE X.K Φ ea)) (hb : PE X b (tE X.K Φ eb)) (hs : starEach [a, b] X.env = (false, eval a X.env) :: starEach [b] X.env) (hs2 : starEach [b] X.env = (false, eval b X.env) :: starEach [] X.env) (hpl : (backTo pos (starEach [b] X.env)).any (·.1) = false) :
    PI X (.Tuple elts kk tpos) (.Call (.Name "zip" p1) [a, b] [] pos) (tI X.K Φ (.zip ea eb)) :=
  (RZ.pi_zipA hr (g.blt _ (by decide +kernel)) (pa_cons ha (pa_cons hb pa_nil hs2) hs) hs hpl).imp fun σ H R ⟨B, env, p, e0, xs, lk, e1, R0, h1, h2, kk⟩ => by
    unfold evE at h1
    split at h1
    · rename_i q ee h3
      split at h1
      · rename_i q2 ee2 h4
        split at h1
        · rename_i x ee3 h5
          split at h1
          · rename_i y ee4 h6
            split at h1
            · rename_i ds hz
              cases h1
              obtain ⟨rfl, rfl, rfl⟩ := its_out (σ := σ) (H := H) (B := B) (env := env) h2
              refine ⟨B, env, q, ee, R0, h3, fun v H1 B1 c1 r1 => ⟨B1, ee, q2, ee2, c1.re, h4, fun w H2 B2 c2 r2 => ?_⟩⟩
              have rr : RpPA X.K σ H H2 B2 [v, w] [q, q2] := RpPA.cons c1.r0 c1.st c2.st r1 (RpPA.cons c2.r0 c2.st Stp.refl r2 RpPA.nil)
              have hff : fzs [q, q2] ee2 = some ([x, y], e1) := by simp [fzs, h5, h6]
              obtain ⟨B4, c4, s4, r4⟩ := fzs_ok (c1.trans c2) rr hff
              cases r4 with
              | cons ra t =>
                cases t with
                | cons rb t =>
                  unfold zipOp at hz
                  split at hz
                  · cases hz
                    obtain ⟨a, xs, rfl, hx, _⟩ := (RpS.of ra).lst c4.re.sub
                    obtain ⟨b, ys, rfl, hy, _⟩ := (RpS.of rb).lst c4.re.sub
                    exact ⟨a, b, xs, ys, rfl, .inl ⟨Evl.sq_of hx, Evl.sq_of hy, kk _ _ _ none c4 (fun _ _ z => by cases z) (wk_zip ra rb)⟩⟩
                  · cases hz
                    obtain ⟨a, xs, rfl, hx, _⟩ := (RpS.of ra).tup c4.re.sub
                    obtain ⟨b, ys, rfl, hy, _⟩ := (RpS.of rb).tup c4.re.sub
                    exact ⟨a, b, xs, ys, rfl, .inr ⟨hx, hy, kk _ _ _ none c4 (fun _ _ z => by cases z) (wk_zipT ra rb)⟩⟩
                  · cases hz
            · cases h1
          · cases h1
        · cases h1
      · cases h1
    · cases h1
/-- the keys of a dict that is locked -/
theorem wk_keys {K : PySem.W.Frag} {B : Hp} {d : Addr} {od : Obj} {ws : List (Key × V)} {kvs : List (Key × D)} (hp : Paired (fun (p : Key × V) (q : Key × D) => p.1 = q.1 ∧ Rp K B p.2 q.2) ws kvs) : WkOk K B (Itk d od ws) (kvs.map fun p => keyD p.1) (some (d, .frz od (.dK ws))) := fun H' B' s1 s2 hpin => by
  have hd := hpin _ _ rfl
  have hl := paired_len hp
  refine ⟨fun i x hx => ?_, hd, by rw [List.length_map, hl]; exact Nat.le_refl _⟩
  rw [List.getElem?_map] at hx
  cases e : kvs[i]? with
  | none => rw [e] at hx; cases hx
  | some q =>
    rw [e] at hx
    cases hx
    obtain ⟨p, hp1, hp2⟩ := paired_at hp e
    refine ⟨⟨hd, get_lt hp1⟩, fun y H'' yy => ?_⟩
    obtain ⟨rfl, k, v, hk, rfl⟩ := yy
    rw [hp1] at hk
    cases hk
    refine ⟨B', Gr.refl s2, ?_⟩
    show Rp K B' (kV k) (keyD q.1)
    rw [← hp2.1]
    cases k with
    | inl i => exact .int i
    | inr x => exact .str x
end
end Mi

/-! Mi12: list comprehensions. -/
namespace Mi
open PySem PySem.Spec PyProof.Rows L2

def tCs (K : PySem.W.Frag) (Φ : Nat → Fn) (cs : E) : TT := fun σ H Q => ∃ B env b env', RE K σ H B env ∧ evC Φ cs env = some (b, env') ∧ ∀ H' B', Cm K σ H B env H' B' env' → Q b H'
/-- one turn -/
def lcF (Φ : Nat → Fn) (vs : List Nat) (tg : T) (cs elt : E) : D → En → Option (Option D × En) := fun x e => match setD tg x e with
  | some e2 => match evC Φ cs e2 with
    | some (true, e3) => match evE Φ elt e3 with
      | some (p, e4) => match fz p e4 with
        | some (d, e5) => some (some d, wipeS e5 vs)
        | none => none
      | none => none
    | some (false, e3) => some (none, wipeS e3 vs)
    | none => none
  | none => none
section
variable {nms : List Str} {X : Cx} {Φ : Nat → Fn} {k : Nat} {pos p0 : Pos}
theorem ec_nil : PTs X [] (tCs X.K Φ .anil) := ⟨fun pins s σ H Q I ⟨B, env, b, env', R, h, kk⟩ => pts_nil.run pins s σ H Q I (by
  cases h
  exact kk H B (Cm.refl R))⟩
theorem ec_one {c : Expr} {ec : E} (h : PT X c (tT X.K Φ ec)) : PTs X [c] (tCs X.K Φ (.acons ec .anil)) := ⟨fun pins s σ H Q I ⟨B, env, b, env', R, h1, kk⟩ => (pts_one h).run pins s σ H Q I (by
  unfold evC at h1
  split at h1
  · rename_i b' e1 h2
    cases h1
    exact ⟨B, env, b, env', R, evT_of h2, kk⟩
  · cases h1)⟩
end
section
variable {K : PySem.W.Frag} {Φ : Nat → Fn} {σ : L2.St} {H1 B1 : Hp} {e1 e2 : En} {J : It} {xs ds : List D} {pin : Option (Addr × HO)} {vs : List Nat} {tg : T} {cs elt : E} {Q : VK}
theorem lc_run (R1 : RE K σ H1 B1 e1) (hp : ∀ a o, pin = some (a, o) → H1 a = some o ∧ ¬ Own σ e1 a) (wk : WkOk K B1 J xs pin) (ht : ∀ j ∈ tg.slots, j ∈ vs) (hl : xs.length ≤ lim)
    (hgo : lcGo (lcF Φ vs tg cs elt) xs (wipeS e1 vs) = some (ds, e2)) (fin : ∀ v H' B', Cm K σ H1 B1 e1 H' B' (backS e1 e2 vs) → RpP K σ H1 H' B' v (.new (.lst ds)) → Q v H') :
    ∀ D, H1 D = none → ∃ W : Nat → Nat → Hp → Prop, (∃ m, W 0 m (upd H1 D (.lst []))) ∧ ∀ i m H, W i m H →
      (J.stop i H ∧ Q (.ref D) H) ∨ (J.go i H ∧ ∃ Nx : Hp → Prop, (∀ H', Nx H' → ∃ m', m' < m ∧ W (i + 1) m' H') ∧ ∀ x H', J.yld i H x H' → tG K tg x (wipe σ vs) H' fun σ2 H2 => wipe σ2 vs = wipe σ vs ∧ tCs K Φ cs σ2 H2 fun b H3 =>
        if b = true then tE K Φ elt σ2 H3 fun y H4 => ∃ acc, H4 D = some (.lst acc) ∧ acc.length < sizeLine ∧ Nx (upd H4 D (.lst (acc ++ [y]))) else Nx H3) := by
  intro D nD
  have Rw := R1.wipe vs
  have c0 : Cm K (wipe σ vs) H1 B1 (wipeS e1 vs) (upd H1 D (.lst [])) B1 (wipeS e1 vs) := (Cm.refl Rw).grow (Gr.newH R1.sub nD)
  refine ⟨fun i m H => m = xs.length - i ∧ i ≤ xs.length ∧ ∃ B env acc ys rest, Cm K (wipe σ vs) H1 B1 (wipeS e1 vs) H B env ∧ NoMut vs env ∧ H D = some (.lst acc) ∧ RpA K B acc ys ∧ B D = none ∧ ys.length ≤ i ∧ lcGo (lcF Φ vs tg cs elt) (xs.drop i) env = some (rest, e2) ∧ ds = ys ++ rest,
    ⟨xs.length, by simp, Nat.zero_le _, B1, wipeS e1 vs, [], [], ds, c0, fun h1 h2 => by rw [wipeS_un h1 h2]; rfl, upd_same, .nil, R1.sub.none nD, Nat.le_refl _, by simpa using hgo, rfl⟩, ?_⟩
  rintro i m H ⟨rfl, hi, B, env, acc, ys, rest, c, nm, hD, ra, nb, hy, hgo2, hds⟩
  have noD : ∀ {σ' : L2.St} {e' : En}, (∀ {a : Addr}, Own σ' e' a → Own (wipe σ vs) (wipeS e1 vs) a) → ¬ Own σ' e' D := fun h z => by
    obtain ⟨_, w, _⟩ := Rw.ownH (h z)
    rw [nD] at w
    cases w
  obtain ⟨it, stop⟩ := wk H B c.st.bb c.re.sub fun a o e => by
    obtain ⟨h1, h2⟩ := hp a o e
    exact c.st.fr h1 fun z => h2 (own_wipe z)
  rcases Nat.lt_or_ge i xs.length with lt | ge
  · have hx : xs[i]? = some xs[i] := List.getElem?_eq_getElem lt
    obtain ⟨go, yl⟩ := it i _ hx
    rw [List.drop_eq_getElem_cons lt] at hgo2
    unfold lcGo at hgo2
    split at hgo2
    · rename_i o env' hf
      split at hgo2
      · rename_i ys' e2' hgo3
        cases hgo2
        refine .inr ⟨go, fun H' => ∃ B env acc ys rest, Cm K (wipe σ vs) H1 B1 (wipeS e1 vs) H' B env ∧ NoMut vs env ∧ H' D = some (.lst acc) ∧ RpA K B acc ys ∧ B D = none ∧ ys.length ≤ i + 1 ∧ lcGo (lcF Φ vs tg cs elt) (xs.drop (i + 1)) env = some (rest, e2) ∧ ds = ys ++ rest,
          fun H' h => ⟨xs.length - (i + 1), by omega, rfl, lt, h⟩, fun x H' y => ?_⟩
        obtain ⟨B2, g, rx⟩ := yl x H' y
        unfold lcF at hf
        split at hf
        · rename_i ea ha
          have cg := c.grow g
          refine ⟨B2, env, _, ea, cg.re, rx, ha, fun σ2 R2 U2 => ?_⟩
          have el : σ2.length = σ.length := by
            have h1 := R2.len
            rw [U2.ln, cg.re.len, wipe_length] at h1
            exact h1.symm
          have ag : ∀ {j : Nat}, j ∉ vs → σ2[j]? = σ[j]? := fun {j} hj => ((U2.off fun z => hj (ht j z)).1).trans (wipe_get hj)
          have ew : wipe σ2 vs = wipe σ vs := wipe_same el fun j hj => ag hj
          have na : NoMut vs ea := fun {j s} hj hs => by
            by_cases z : j ∈ tg.slots
            · rcases U2.on z with w | ⟨d, w⟩
              · exact nm hj (w ▸ hs)
              · rw [w] at hs; cases hs; rfl
            · exact nm hj ((U2.off z).2 ▸ hs)
          have oa : ∀ {a : Addr}, Own σ2 ea a → Own (wipe σ vs) (wipeS e1 vs) a := fun {a} ⟨j, f, m, x, y⟩ => by
            obtain ⟨h1, h2⟩ := U2.mu x rfl
            exact c.st.own ⟨j, f, m, h1, by show (wipe σ vs)[j]? = _; rw [← h2]; exact y⟩
          have hD2 : H' D = some (.lst acc) := g.hh _ _ hD
          have nb2 : B2 D = none := g.out hD nb
          -- what a turn comes to
          have turn : ∀ {H4 B4 : Hp} {e5 : En}, Cm K σ2 H' B2 ea H4 B4 e5 → Cm K (wipe σ vs) H1 B1 (wipeS e1 vs) H4 B4 (wipeS e5 vs) ∧ NoMut vs (wipeS e5 vs) ∧ H4 D = some (.lst acc) ∧ B4 D = none := fun {H4 B4 e5} c5 => by
            have n5 : NoMut vs e5 := fun {j s} hj hs => by
              cases s with
              | own f m => obtain ⟨m2, z⟩ := c5.st.ow hs; have := na hj z; cases this
              | lck f m => exact na hj (c5.st.lk.mp hs)
              | un => rfl
              | dat _ => rfl
            have nw : NoMut vs (wipeS e5 vs) := fun h1 h2 => by rw [wipeS_un h1 h2]; rfl
            have st := c5.st.shift (σ2 := wipe σ vs) (vs := vs) (e2 := env) (e2' := wipeS e5 vs) (fun {j} hj => by rw [wipe_get hj, ag hj]) (fun {j} hj => (U2.off fun z => hj (ht j z)).2.symm) (fun {j} hj => wipeS_get hj) na nm nw
            have re := c5.re.wipe vs
            rw [ew] at re
            have no := noD oa
            exact ⟨cg.trans ⟨cg.re, st, re⟩, nw, c5.st.fr hD2 no, c5.st.none hD2 nb2 no⟩
          refine ⟨ew, ?_⟩
          split at hf
          · rename_i e3 h3
            split at hf
            · rename_i p e4 h4
              split at hf
              · rename_i dd e5 h5
                cases hf
                refine ⟨B2, ea, true, e3, R2, h3, fun H3 B3 c3 => ?_⟩
                refine iteT ⟨B3, e3, p, e4, c3.re, h4, fun y H4 B4 c4 r4 => ?_⟩
                obtain ⟨B5, c5, s5, r5, _⟩ := fz_ok c4 r4 h5
                obtain ⟨cT, nw, hD4, nb4⟩ := turn (c3.trans c5)
                refine ⟨acc, hD4, ?_, B5, _, acc ++ [y], ys ++ [dd], _, cT.updD nD nb4, nw, upd_same, ?_, nb4, ?_, hgo3, ?_⟩
                · have := ra.length
                  have := lim_line
                  omega
                · exact (ra.mono (g.bb.trans (c3.trans c5).st.bb)).app (.one r5)
                · rw [List.length_append]; simp; omega
                · rw [hds]; simp
              · cases hf
            · cases hf
          · rename_i e3 h3
            cases hf
            refine ⟨B2, ea, false, e3, R2, h3, fun H3 B3 c3 => ?_⟩
            obtain ⟨cT, nw, hD4, nb4⟩ := turn c3
            exact iteF ⟨B3, _, acc, ys, _, cT, nw, hD4, ra.mono (g.bb.trans c3.st.bb), nb4, by omega, hgo3, by rw [hds]; simp⟩
          · cases hf
        · cases hf
      · cases hgo2
    · cases hgo2
  · have ei : i = xs.length := by omega
    subst ei
    rw [List.drop_length] at hgo2
    cases hgo2
    refine .inl ⟨stop, fin _ _ B (wipe_over R1 c) ⟨D, _, rfl, nD, hD, nb, acc, rfl, ?_⟩⟩
    rw [hds, List.append_nil]
    exact ra
end
section
variable {nms : List Str} {X : Cx} {Φ : Nat → Fn} {k : Nat} {pos p0 : Pos}
def itStart (Φ : Nat → Fn) (it : E) (env : En) : Option (List D × Option Nat × En) := match dictIt it env with
  | some r => some r
  | none => match evE Φ it env with
    | some (p, e0) => itsOf p e0
    | none => none
theorem evE_lc (vs : List Nat) (tg : T) (it cs elt : E) (env : En) : evE Φ (.lc vs tg it cs elt) env = match itStart Φ it env with
    | some (xs, lk, e1) => if xs.length ≤ lim then
        match lcGo (lcF Φ vs tg cs elt) xs (wipeS e1 vs) with
        | some (ds, e2) => some (.new (.lst ds), freeS lk (backS e1 e2 vs))
        | none => none
      else none
    | none => none := rfl
theorem dictIt_some {it : E} {env : En} {r : List D × Option Nat × En} (h : dictIt it env = some r) : ∃ i f kvs, it = .var i ∧ env[i]? = some (.own f (.dK kvs)) ∧ r = (kvs.map fun p => keyD p.1, some i, env.set i (.lck f (.dK kvs))) := by
  unfold dictIt at h
  split at h
  · rename_i i
    split at h
    · rename_i f m hm
      split at h
      · rename_i ks hk
        cases h
        cases m with
        | dK kvs => cases hk; exact ⟨i, f, kvs, rfl, hm, rfl⟩
        | dT _ => cases hk
        | lst _ => cases hk
      · cases h
    · cases h
  · cases h
theorem upd_self {H : Hp} {d : Addr} {o : HO} (h : H d = some o) : upd H d o = H := by
  funext b
  by_cases e : b = d
  · subst e; rw [upd_same, h]
  · rw [upd_ne e]
/-- the reading of a comprehension -/
def rLc (X : Cx) (Φ : Nat → Fn) (vs : List Nat) (tg : T) (it cs elt : E) : TE := fun σ H Q => tLc (tI X.K Φ it) (tG X.K tg) (tCs X.K Φ cs) (tE X.K Φ elt) vs σ H Q ∨ (∃ i, it = .var i) ∧ tLockE (tLc (iKeys (tE X.K Φ it)) (tG X.K tg) (tCs X.K Φ cs) (tE X.K Φ elt) vs) σ H Q
theorem lc_sp {vs : List Nat} {tg : T} {it cs elt : E} (ht : ∀ j ∈ tg.slots, j ∈ vs) {σ : L2.St} {H : Hp} {Q : VK} (h : tE X.K Φ (.lc vs tg it cs elt) σ H Q) : rLc X Φ vs tg it cs elt σ H Q := by
  obtain ⟨B, env, p, env', R, h, kk⟩ := h
  rw [evE_lc] at h
  split at h
  · rename_i xs lk e1 hs
    split at h
    · rename_i hl
      split at h
      · rename_i ds e2 hgo
        cases h
        unfold itStart at hs
        split at hs
        · rename_i r hd
          cases hs
          obtain ⟨i, f, kvs, rfl, ei, er⟩ := dictIt_some hd
          cases er
          obtain ⟨d, o, pd, nb, hd, ws, rfl, pw⟩ := R.own ei
          refine .inr ⟨⟨i, rfl⟩, d, _, hd, trivial, fun od => ?_⟩
          have RL := lock_re R ei pd hd (w := .frz od (.dK ws)) (.inr ⟨fun ds z => (by cases z), od, rfl⟩)
          have gi := set_self (x := Slot.lck f (.dK kvs)) (get_lt ei)
          refine ⟨B, _, .slot i, _, RL, (by unfold evE; rw [gi]), fun v H' B' c r => ⟨d, od, ?_, .inl ⟨ws, ?_, ?_⟩⟩⟩
          · exact Option.some.inj (Option.some.inj (show some (some v) = some (some (V.ref d)) from r.symm.trans pd))
          · exact c.st.fr upd_same (lock_not R ei pd)
          · have wk : WkOk X.K B' (Itk d od ws) (kvs.map fun p => keyD p.1) (some (d, .frz od (.dK ws))) := wk_keys (Paired.mapP pw fun _ _ z => ⟨z.1, z.2.mono c.st.bb⟩)
            refine lc_run (Q := fun v H' => H' d = some (.frz od (.dK ws)) ∧ Q v (upd H' d (.dK ws))) c.re (fun a u e => ?_) wk ht hl hgo fun v H2 B2 c2 r2 => ?_
            · cases e
              refine ⟨c.st.fr upd_same (lock_not R ei pd), fun ⟨j, f', m', x, y⟩ => ?_⟩
              rcases set_get x with ⟨_, z⟩ | ⟨ne, x⟩
              · cases z
              · exact ne (R.apart x ei rfl rfl y pd)
            · obtain ⟨h2, c3⟩ := lock_over R ei pd hd (.inr ⟨od, rfl⟩) (c.trans c2)
              refine ⟨h2, kk _ _ _ c3 ?_⟩
              obtain ⟨a, o, rfl, n, x1, x2, x3⟩ := r2
              have n1 := c.st.th n
              have na : a ≠ d := fun z => by subst z; rw [upd_same] at n1; cases n1
              rw [upd_ne na] at n1
              exact ⟨a, o, rfl, n1, by rw [upd_ne na]; exact x1, x2, x3⟩
        · split at hs
          · rename_i p0 e0 h1
            refine .inl ⟨B, env, p0, e0, xs, lk, e1, R, h1, hs, fun H' B' J pin lo po wk => ?_⟩
            cases lk with
            | none =>
              refine lc_run (Q := Q) (Cm.re lo) (fun a o e => ?_) wk ht hl hgo fun v H2 B2 c2 r2 => kk _ _ _ (Cm.trans lo c2) (r2.sooner (Cm.st lo))
              obtain ⟨h1, i, f, m, ei, pa⟩ := po a o e
              refine ⟨h1, fun ⟨j, f', m', x, y⟩ => ?_⟩
              have := (Cm.re lo).apart x ei rfl rfl y pa
              subst this
              rw [ei] at x
              cases x
            | some i =>
              obtain ⟨f, m, a, o, c, ei, pa, ha, rfl⟩ := lo
              have RL := lock_re c.re ei pa ha (w := o) (.inl rfl)
              rw [upd_self ha] at RL
              refine lc_run (Q := Q) RL (fun b u e => ?_) wk ht hl hgo fun v H2 B2 c2 r2 => ?_
              · obtain ⟨h1, j, f', m', ej, pb⟩ := po b u e
                refine ⟨h1, fun ⟨l, f2, m2, x, y⟩ => ?_⟩
                have := RL.apart x ej rfl rfl y pb
                subst this
                rw [ej] at x
                cases x
              · obtain ⟨h2, c3⟩ := lock_over c.re ei pa ha (.inl rfl) (H2 := H2) (by rw [upd_self ha]; exact c2)
                rw [upd_self h2] at c3
                exact kk _ _ _ (c.trans c3) (r2.sooner c.st)
          · cases hs
      · cases h
    · cases h
  · cases h
theorem ev_lc {elt tg iter : Expr} {ifs : List Expr} {scope : Scope} {own : List (Str × Nat)} {et : T} {ei ec ee : E} (g : GX nms Φ X k) (hi : PI X tg iter (tI X.K Φ ei)) (hk : PE X iter (tE X.K Φ ei)) (ok : BlkOk X.N X.env.scope scope own) (ht : ∀ j ∈ et.slots, j ∈ own.map (·.2))
    (hg : ∀ (s : Shared) (H : Hp) (C : Addr) (cl : List (Str × Addr)) (fp : List Addr), PG (X.blk s H scope (compEnvC scope cl C X.env) fp) tg (tG X.K et)) (hc : ∀ (s : Shared) (H : Hp) (C : Addr) (cl : List (Str × Addr)) (fp : List Addr), PTs (X.blk s H scope (compEnvC scope cl C X.env) fp) ifs (tCs X.K Φ ec))
    (he : ∀ (s : Shared) (H : Hp) (C : Addr) (cl : List (Str × Addr)) (fp : List Addr), PE (X.blk s H scope (compEnvC scope cl C X.env) fp) elt (tE X.K Φ ee)) (hs : ∀ x, foldedSetIterable iter X.env x = pure x) :
    PE X (.ListComp elt [⟨tg, iter, ifs, 0⟩] scope pos) (tE X.K Φ (.lc (own.map (·.2)) et ei ec ee)) :=
  ((pe_lc g.calm g.nd hi ok hg hc he hs).or (pe_lock (pe_lc g.calm g.nd (pi_keys hk) ok hg hc he hs))).imp fun σ H Q h => (lc_sp ht h).imp id (·.2)
/-- .. over what no name's dict is -/
theorem ev_lc1 {elt tg iter : Expr} {ifs : List Expr} {scope : Scope} {own : List (Str × Nat)} {et : T} {ei ec ee : E} (g : GX nms Φ X k) (hi : PI X tg iter (tI X.K Φ ei)) (nv : ∀ i, ei ≠ .var i) (ok : BlkOk X.N X.env.scope scope own) (ht : ∀ j ∈ et.slots, j ∈ own.map (·.2))
    (hg : ∀ (s : Shared) (H : Hp) (C : Addr) (cl : List (Str × Addr)) (fp : List Addr), PG (X.blk s H scope (compEnvC scope cl C X.env) fp) tg (tG X.K et)) (hc : ∀ (s : Shared) (H : Hp) (C : Addr) (cl : List (Str × Addr)) (fp : List Addr), PTs (X.blk s H scope (compEnvC scope cl C X.env) fp) ifs (tCs X.K Φ ec))
    (he : ∀ (s : Shared) (H : Hp) (C : Addr) (cl : List (Str × Addr)) (fp : List Addr), PE (X.blk s H scope (compEnvC scope cl C X.env) fp) elt (tE X.K Φ ee)) (hs : ∀ x, foldedSetIterable iter X.env x = pure x) :
    PE X (.ListComp elt [⟨tg, iter, ifs, 0⟩] scope pos) (tE X.K Φ (.lc (own.map (·.2)) et ei ec ee)) :=
  (pe_lc g.calm g.nd hi ok hg hc he hs).imp fun σ H Q h => by
    rcases lc_sp ht h with h | h
    · exact h
    · exact absurd h.1.choose_spec (nv _)
end
end Mi

/-! Mi13: what statements keep. -/
namespace Mi
open PySem PySem.Spec PyProof.Rows L2

def Slot.fzb : Slot → Bool
  | .own f _ => f
  | .lck f _ => f
  | _ => true
/-- a def's body so far: H0, B0 as at the call, fs what it may write to, σ0 the slots at the call -/
structure SI (K : PySem.W.Frag) (H0 B0 : Hp) (fs : List Addr) (σ0 σ : L2.St) (H B : Hp) (env : En) : Prop where
  re : RE K σ H B env
  bb : Sub B0 B
  th : ∀ {a : Addr}, H a = none → H0 a = none
  fr : ∀ {a : Addr} {o : HO}, H0 a = some o → a ∉ fs → H a = some o
  fre : ∀ {a : Addr} {o : HO}, B a = some o → (∃ u, B0 a = some u) ∨ H0 a = none
  ow : ∀ {i : Nat} {s : Slot} {a : Addr}, env[i]? = some s → s.mut = true → At σ i a → (s.fzb = true ∧ H0 a = none) ∨ (s.fzb = false ∧ a ∈ fs)
  pk : ∀ {i : Nat} {s : Slot}, env[i]? = some s → s.mut = true → s.fzb = false → σ[i]? = σ0[i]?
/-- what is locked stays -/
structure LK (σ : L2.St) (H B : Hp) (env : En) (σ' : L2.St) (H' B' : Hp) (env' : En) : Prop where
  bb : Sub B B'
  lk : ∀ {i : Nat} {f : Bool} {m : MO}, env'[i]? = some (Slot.lck f m) ↔ env[i]? = some (Slot.lck f m)
  ls : ∀ {i : Nat} {f : Bool} {m : MO}, env[i]? = some (Slot.lck f m) → σ'[i]? = σ[i]?
  lh : ∀ {i : Nat} {f : Bool} {m : MO} {p : Addr} {o : HO}, env[i]? = some (Slot.lck f m) → At σ i p → H p = some o → H' p = some o

section
variable {K : PySem.W.Frag} {σ σ2 σ3 σ0 : L2.St} {H B H' B' H2 B2 H0 B0 : Hp} {env env' e e2 e3 : En} {fs : List Addr} {v : V} {d : D} {p : P}
theorem LK.refl : LK σ H B env σ H B env := ⟨Sub.refl _, Iff.rfl, fun _ => rfl, fun _ _ h => h⟩
theorem LK.trans (x : LK σ H B env σ2 H2 B2 e2) (y : LK σ2 H2 B2 e2 σ3 H' B' e3) : LK σ H B env σ3 H' B' e3 :=
  ⟨x.bb.trans y.bb, y.lk.trans x.lk, fun h => (y.ls (x.lk.mpr h)).trans (x.ls h), fun h a b => y.lh (x.lk.mpr h) (by rw [At, x.ls h]; exact a) (x.lh h a b)⟩
theorem lck_own (R : RE K σ H B env) {i : Nat} {f : Bool} {m : MO} {q : Addr} (h : env[i]? = some (.lck f m)) (x : At σ i q) : ¬ Own σ env q := fun ⟨j, f', m', y, z⟩ => by
  have := R.apart y h rfl rfl z x
  subst this
  rw [h] at y
  cases y
theorem LK.cm (c : Cm K σ H B env H' B' env') : LK σ H B env σ H' B' env' := ⟨c.st.bb, c.st.lk, fun _ => rfl, fun h a b => c.st.fr b (lck_own c.r0 h a)⟩
theorem SI.cm (s : SI K H0 B0 fs σ0 σ H B env) (c : Cm K σ H B env H' B' env') : SI K H0 B0 fs σ0 σ H' B' env' := by
  have back : ∀ {i : Nat} {t : Slot}, env'[i]? = some t → t.mut = true → ∃ t0, env[i]? = some t0 ∧ t0.mut = true ∧ t0.fzb = t.fzb := fun {i t} h m => by
    cases t with
    | own f m' => obtain ⟨m2, z⟩ := c.st.ow h; exact ⟨_, z, rfl, rfl⟩
    | lck f m' => exact ⟨_, c.st.lk.mp h, rfl, rfl⟩
    | un => cases m
    | dat _ => cases m
  refine ⟨c.re, s.bb.trans c.st.bb, fun h => s.th (c.st.th h), fun {a o} h n => c.st.fr (s.fr h n) fun ⟨i, f, m, x, y⟩ => ?_, fun {a o} h => ?_, fun {i t a} h m x => ?_, fun {i t} h m f => ?_⟩
  · rcases s.ow x rfl y with ⟨_, z⟩ | ⟨_, z⟩
    · rw [h] at z; cases z
    · exact n z
  · rcases c.st.fre h with ⟨u, x⟩ | x | ⟨i, m, x, y⟩
    · exact s.fre x
    · exact .inr (s.th x)
    · rcases s.ow x rfl y with ⟨_, z⟩ | ⟨z, _⟩
      · exact .inr z
      · cases z
  · obtain ⟨t0, h0, m0, e0⟩ := back h m
    rw [← e0]
    exact s.ow h0 m0 x
  · obtain ⟨t0, h0, m0, e0⟩ := back h m
    exact s.pk h0 m0 (by rw [e0]; exact f)
theorem SI.upd {vs : List Nat} (s : SI K H0 B0 fs σ0 σ H B env) (R2 : RE K σ2 H B e2) (U : Upd vs σ env σ2 e2) : SI K H0 B0 fs σ0 σ2 H B e2 ∧ LK σ H B env σ2 H B e2 := by
  refine ⟨⟨R2, s.bb, s.th, s.fr, s.fre, fun {i t a} h m x => ?_, fun {i t} h m f => ?_⟩, ⟨Sub.refl _, fun {i f m} => ⟨fun h => (U.mu h rfl).1, fun h => (U.fr h rfl).1⟩, fun h => (U.fr h rfl).2, fun _ _ h => h⟩⟩
  · obtain ⟨h1, h2⟩ := U.mu h m
    exact s.ow h1 m (by rw [At, ← h2]; exact x)
  · obtain ⟨h1, h2⟩ := U.mu h m
    rw [h2]
    exact s.pk h1 m f
theorem SI.putD {i : Nat} (s : SI K H0 B0 fs σ0 σ H B env) (h : setS i (.dat d) env = some e2) (r : Rp K B v d) : SI K H0 B0 fs σ0 (σ.set i (some v)) H B e2 ∧ LK σ H B env (σ.set i (some v)) H B e2 := by
  obtain ⟨t, h1, h2, rfl⟩ := setS_ok h
  exact s.upd (s.re.setDat (get_lt h1) r) (Upd.one h1 h2)
theorem SI.putO {i : Nat} {a : Addr} {o : HO} {m : MO} (s : SI K H0 B0 fs σ0 σ H B env) (h : setS i (.own true m) env = some e2) (ha : H a = some o) (hb : B a = none) (mo : MOk K B o m) (nw : ∀ {j : Nat} {t : Slot}, env[j]? = some t → t.mut = true → ¬ At σ j a) (n0 : H0 a = none) :
    SI K H0 B0 fs σ0 (σ.set i (some (.ref a))) H B e2 ∧ LK σ H B env (σ.set i (some (.ref a))) H B e2 := by
  obtain ⟨t, h1, h2, rfl⟩ := setS_ok h
  have self : ∀ {q : Addr}, At (σ.set i (some (.ref a))) i q → q = a := fun {q} x => by
    have y := set_self (l := σ) (x := some (V.ref a)) (i := i) (by rw [← s.re.len]; exact get_lt h1)
    rw [At, y] at x
    cases x; rfl
  have nl : ∀ {j : Nat} {f : Bool} {m : MO}, env[j]? = some (.lck f m) → j ≠ i := fun {j f m} hj z => by
    subst z
    rw [h1] at hj
    cases hj
    cases h2
  refine ⟨⟨s.re.setOwn (get_lt h1) ha hb mo nw, s.bb, s.th, s.fr, s.fre, fun {j t a'} h m x => ?_, fun {j t} h m f => ?_⟩, ⟨Sub.refl _, fun {j f m'} => ?_, fun h => set_st (nl h), fun _ _ h => h⟩⟩
  · rcases set_get h with ⟨rfl, rfl⟩ | ⟨ne, h⟩
    · cases self x; exact .inl ⟨rfl, n0⟩
    · exact s.ow h m (by rw [At, set_st ne] at x; exact x)
  · rcases set_get h with ⟨rfl, rfl⟩ | ⟨ne, h⟩
    · cases f
    · rw [set_st ne]; exact s.pk h m f
  · exact set_lk (fun f m z => absurd rfl (nl z)) (fun f m z => by cases z)
theorem SI.fresh (s : SI K H0 B0 fs σ0 σ H B env) (c : Cm K σ H B env H' B' env') {a : Addr} (n : H a = none) {j : Nat} {t : Slot} (h : env'[j]? = some t) (m : t.mut = true) : ¬ At σ j a := fun x => by
  cases t with
  | own f m' => exact new_notOwn c.r0 c.st n ⟨j, f, m', h, x⟩
  | lck f m' => exact lck_new c n h x
  | un => cases m
  | dat _ => cases m

/-! ### several at once -/
theorem rsP_ne {p q : P} {env e1 : En} (hn : ∀ m, p ≠ .new m) (h : rsP p env = some (q, e1)) : ∃ d, q = .val d ∧ fz p env = some (d, e1) := by
  cases p with
  | new m => exact absurd rfl (hn m)
  | val d => cases h; exact ⟨_, rfl, rfl⟩
  | slot i =>
    simp only [rsP] at h
    split at h
    · rename_i d ee hf
      cases h
      exact ⟨_, rfl, hf⟩
    · cases h
  | its _ => cases h
theorem rsPs_ok : ∀ {ps : List P} {vs : List V} {qs : List P} {B' : Hp} {env' env2 : En}, Cm K σ H B env H' B' env' → RpPA K σ H H' B' vs ps → rsPs ps env' = some (qs, env2) →
    ∃ B2, Cm K σ H B env H' B2 env2 ∧ Sub B' B2 ∧ RpPA K σ H H' B2 vs qs ∧ newsA vs qs = newsA vs ps ∧ ∀ {w : V} {m : MO}, RpP K σ H H' B' w (.new m) → RpP K σ H H' B2 w (.new m)
  | [], vs, qs, B', env', env2, c, h, e => by
    cases e
    exact ⟨B', c, Sub.refl _, h, rfl, fun h => h⟩
  | p :: ps, vs, qs, B', env', env2, c, h, e => by
    unfold rsPs at e
    split at e
    · rename_i q e1 h1
      split at e
      · rename_i qs2 e2 h2
        cases e
        obtain ⟨hall, hnd⟩ := h
        cases hall with
        | cons r t =>
          rename_i v vs
          by_cases hn : ∃ m, p = .new m
          · obtain ⟨m, rfl⟩ := hn
            cases h1
            have r0 := r
            obtain ⟨a, o, rfl, n, x, y, mo⟩ := r
            obtain ⟨B2, c2, s2, r2, e2, k2⟩ := rsPs_ok c ⟨t, (List.nodup_cons.mp hnd).2⟩ h2
            refine ⟨B2, c2, s2, ⟨.cons (k2 r0) r2.all, ?_⟩, ?_, k2⟩
            · show (a :: newsA vs qs2).Nodup
              rw [e2]
              exact hnd
            · show a :: newsA vs qs2 = a :: newsA vs ps
              rw [e2]
          · have hn : ∀ m, p ≠ .new m := fun m z => hn ⟨m, z⟩
            obtain ⟨d, rfl, hf⟩ := rsP_ne hn h1
            obtain ⟨B2, c2, s2, r2, k2⟩ := fz_ok c r hf
            have e0 : newsA (v :: vs) (p :: ps) = newsA vs ps := by
              cases p with
              | new m => exact absurd rfl (hn m)
              | val d => cases v <;> rfl
              | slot i => cases v <;> rfl
              | its _ => cases v <;> rfl
            rw [e0] at hnd
            have t2 : Paired (fun v p => RpP K σ H H' B2 v p) vs ps := Paired.mapP t fun _ _ z => k2 z fun a ea eb m m' ep eq => absurd ep (hn m)
            obtain ⟨B3, c3, s3, r3, e3, k3⟩ := rsPs_ok c2 ⟨t2, hnd⟩ h2
            have e4 : newsA (v :: vs) (P.val d :: qs2) = newsA vs qs2 := by cases v <;> rfl
            refine ⟨B3, c3, s2.trans s3, ⟨.cons (r2.mono s3) r3.all, by rw [e4]; exact r3.nd⟩, by rw [e4, e0]; exact e3, fun h => k3 (k2 h fun a ea eb m m' ep eq => absurd ep (hn m))⟩
      · cases e
    · cases e
def setsσ : List Nat → List V → L2.St → L2.St
  | i :: is, v :: vs, σ => setsσ is vs (σ.set i (some v))
  | _, _, σ => σ
theorem setVs_len : ∀ {is : List Nat} {qs : List P} {env e2 : En}, setVs is qs env = some e2 → is.length = qs.length
  | [], [], _, _, _ => rfl
  | [], _ :: _, _, _, h => by cases h
  | _ :: _, [], _, _, h => by cases h
  | i :: is, q :: qs, env, e2, h => by
    cases q with
    | slot j => cases h
    | its _ => cases h
    | val d =>
      simp only [setVs] at h
      split at h
      · rw [List.length_cons, List.length_cons, setVs_len h]
      · cases h
    | new m =>
      simp only [setVs] at h
      split at h
      · rw [List.length_cons, List.length_cons, setVs_len h]
      · cases h
theorem setVs_ok {σr : L2.St} : ∀ {is : List Nat} {qs : List P} {vs : List V} {σ : L2.St} {env e2 : En}, SI K H0 B0 fs σ0 σ H B env → RpPA K σr H' H B vs qs → (∀ (v : V) (i : Nat), P.slot i ∈ qs → False) → (∀ a ∈ newsA vs qs, H0 a = none ∧ ∀ {j : Nat} {t : Slot}, env[j]? = some t → t.mut = true → ¬ At σ j a) → setVs is qs env = some e2 →
    SI K H0 B0 fs σ0 (setsσ is vs σ) H B e2 ∧ LK σ H B env (setsσ is vs σ) H B e2
  | [], [], vs, σ, env, e2, s, r, _, nw, h => by
    cases h
    cases r.all
    exact ⟨s, LK.refl⟩
  | [], _ :: _, _, _, _, _, _, _, _, _, h => by cases h
  | _ :: _, [], _, _, _, _, _, _, _, _, h => by cases h
  | i :: is, q :: qs, vs, σ, env, e2, s, r, ns, nw, h => by
    obtain ⟨hall, hnd⟩ := r
    cases hall with
    | cons r t =>
      rename_i v vs
      cases q with
      | slot j => exact (ns v j List.mem_cons_self).elim
      | its _ => exact r.elim
      | val d =>
        simp only [setVs] at h
        split at h
        · rename_i e1 h1
          have e0 : newsA (v :: vs) (P.val d :: qs) = newsA vs qs := by cases v <;> rfl
          rw [e0] at hnd nw
          obtain ⟨s1, k1⟩ := s.putD h1 r
          obtain ⟨t0, g1, g2, rfl⟩ := setS_ok h1
          have U := Upd.one (σ := σ) (v := v) (d := d) g1 g2
          obtain ⟨s2, k2⟩ := setVs_ok s1 ⟨t, hnd⟩ (fun w j z => ns w j (List.mem_cons_of_mem _ z)) (fun a ha => ⟨(nw a ha).1, fun {j t} hj m x => by
            obtain ⟨w1, w2⟩ := U.mu hj m
            exact (nw a ha).2 w1 m (by rw [At, ← w2]; exact x)⟩) h
          exact ⟨s2, k1.trans k2⟩
        · cases h
      | new m =>
        simp only [setVs] at h
        split at h
        · rename_i e1 h1
          obtain ⟨a, o, rfl, n, x, y, mo⟩ := r
          obtain ⟨m1, m2⟩ := List.nodup_cons.mp hnd
          obtain ⟨w1, w2⟩ := nw a List.mem_cons_self
          obtain ⟨s1, k1⟩ := s.putO h1 x y mo w2 w1
          obtain ⟨t0, g1, g2, rfl⟩ := setS_ok h1
          obtain ⟨s2, k2⟩ := setVs_ok s1 ⟨t, m2⟩ (fun w j z => ns w j (List.mem_cons_of_mem _ z)) (fun b hb => ⟨(nw b (List.mem_cons_of_mem _ hb)).1, fun {j t} hj m x => by
            rcases set_get hj with ⟨rfl, rfl⟩ | ⟨ne, hj⟩
            · have e := set_self (l := σ) (x := some (V.ref a)) (i := j) (by rw [← s.re.len]; exact get_lt g1)
              rw [At, e] at x
              cases x
              exact m1 hb
            · rw [At, set_st ne] at x
              exact (nw b (List.mem_cons_of_mem _ hb)).2 hj m x⟩) h
          exact ⟨s2, k1.trans k2⟩
        · cases h
theorem rsPs_slot : ∀ {ps qs : List P} {env e2 : En}, rsPs ps env = some (qs, e2) → ∀ i, P.slot i ∈ qs → False
  | [], _, _, _, h, i, m => by cases h; cases m
  | p :: ps, qs, env, e2, h, i, m => by
    unfold rsPs at h
    split at h
    · rename_i q e1 h1
      split at h
      · rename_i qs2 e3 h2
        cases h
        rcases List.mem_cons.mp m with rfl | m
        · cases p with
          | new m => cases h1
          | val d => cases h1
          | slot j => simp only [rsP] at h1; split at h1 <;> cases h1
          | its _ => cases h1
        · exact rsPs_slot h2 i m
      · cases h
    · cases h
end

/-! ### the reading of a statement -/
def Fin (K : PySem.W.Frag) (H0 B0 : Hp) (fs : List Addr) (σ0 : L2.St) (D : Ends) (σ : L2.St) (H B : Hp) (env : En) : Out → Prop
  | .nx e => ∀ σ' H' B', SI K H0 B0 fs σ0 σ' H' B' e → LK σ H B env σ' H' B' e → D.nx σ' H'
  | .bk e => ∀ σ' H' B', SI K H0 B0 fs σ0 σ' H' B' e → LK σ H B env σ' H' B' e → D.bk σ' H'
  | .ct e => ∀ σ' H' B', SI K H0 B0 fs σ0 σ' H' B' e → LK σ H B env σ' H' B' e → D.ct σ' H'
  | .rt r e => ∀ v σ' H' B', SI K H0 B0 fs σ0 σ' H' B' e → LK σ H B env σ' H' B' e → RetOk K H0 H' B' v r → D.rt v H'
def tS (K : PySem.W.Frag) (Φ : Nat → Fn) (s : S) : TS := fun D σ H => ∃ H0 B0 fs σ0 B env out, SI K H0 B0 fs σ0 σ H B env ∧ evS Φ s env = some out ∧ Fin K H0 B0 fs σ0 D σ H B env out
theorem Fin.after {K : PySem.W.Frag} {H0 B0 : Hp} {fs : List Addr} {σ0 σ σ1 : L2.St} {D : Ends} {H B H1 B1 : Hp} {env e1 : En} {out : Out} (k : LK σ H B env σ1 H1 B1 e1) (h : Fin K H0 B0 fs σ0 D σ H B env out) : Fin K H0 B0 fs σ0 D σ1 H1 B1 e1 out := by
  cases out with
  | nx e => exact fun σ' H' B' s l => h σ' H' B' s (k.trans l)
  | bk e => exact fun σ' H' B' s l => h σ' H' B' s (k.trans l)
  | ct e => exact fun σ' H' B' s l => h σ' H' B' s (k.trans l)
  | rt r e => exact fun v σ' H' B' s l => h v σ' H' B' s (k.trans l)
end Mi

/-! Mi14: statements. -/
namespace Mi
open PySem PySem.Spec PyProof.Rows L2

theorem _root_.L2.PS.imp {X : Cx} {e : Stmt} {t t' : TS} (h : PS X e t) (k : ∀ D σ H, t' D σ H → t D σ H) : PS X e t' := ⟨fun pins s σ H D I hw => h.run pins s σ H D I (k D σ H hw)⟩
theorem _root_.L2.PSs.imp {X : Cx} {e : List Stmt} {t t' : TS} (h : PSs X e t) (k : ∀ D σ H, t' D σ H → t D σ H) : PSs X e t' := ⟨fun pins s σ H D I hw => h.run pins s σ H D I (k D σ H hw)⟩
theorem _root_.L2.PS.or {X : Cx} {e : Stmt} {t t' : TS} (h : PS X e t) (h' : PS X e t') : PS X e (fun D σ H => t D σ H ∨ t' D σ H) := ⟨fun pins s σ H D I hw => hw.elim (h.run pins s σ H D I) (h'.run pins s σ H D I)⟩

section
variable {nms : List Str} {X : Cx} {Φ : Nat → Fn} {k : Nat} {pos : Pos} {st : Stmt} {rest : List Stmt} {e : Expr} {ee : E} {a b : S}
theorem es_next {K : PySem.W.Frag} {D : Ends} {σ : L2.St} {H : Hp} (h : tS K Φ .nop D σ H) : tNext D σ H := by
  obtain ⟨H0, B0, fs, σ0, B, env, out, s, h, f⟩ := h
  cases h
  exact f σ H B s LK.refl
theorem es_nil : PSs X [] (tS X.K Φ .nop) := pss_nil.imp fun D σ H h => es_next h
theorem es_pass : PS X (.Pass pos) (tS X.K Φ .nop) := ps_pass.imp fun D σ H h => es_next h
theorem es_doc {x : Str} {j : Nat} {p' : Pos} : PS X (.Expr (.Constant (.str x) j pos) p') (tS X.K Φ .nop) := ps_doc.imp fun D σ H h => es_next h
theorem es_seq (h1 : PS X st (tS X.K Φ a)) (h2 : PSs X rest (tS X.K Φ b)) : PSs X (st :: rest) (tS X.K Φ (.seq a b)) :=
  (pss_cons h1 h2).imp fun D σ H ⟨H0, B0, fs, σ0, B, env, out, s, h, f⟩ => by
    unfold evS at h
    split at h
    · rename_i e1 h1
      exact ⟨H0, B0, fs, σ0, B, env, _, s, h1, fun σ' H' B' s' l => ⟨H0, B0, fs, σ0, B', e1, out, s', h, f.after l⟩⟩
    · rename_i hn
      refine ⟨H0, B0, fs, σ0, B, env, out, s, h, ?_⟩
      cases out with
      | nx e1 => exact absurd h (hn e1)
      | _ => exact f
theorem es_never : PS X st (tS X.K Φ .never) := ps_never.imp fun D σ H ⟨H0, B0, fs, σ0, B, env, out, s, h, f⟩ => by cases h
theorem es_nevers {sts : List Stmt} : PSs X sts (tS X.K Φ .never) := pss_never.imp fun D σ H ⟨H0, B0, fs, σ0, B, env, out, s, h, f⟩ => by cases h
theorem es_brk : PS X (.Break pos) (tS X.K Φ .brk) := ps_break.imp fun D σ H ⟨H0, B0, fs, σ0, B, env, out, s, h, f⟩ => by
  cases h
  exact f σ H B s LK.refl
theorem es_cnt : PS X (.Continue pos) (tS X.K Φ .cnt) := ps_continue.imp fun D σ H ⟨H0, B0, fs, σ0, B, env, out, s, h, f⟩ => by
  cases h
  exact f σ H B s LK.refl
theorem es_retN : PS X (.Return none pos) (tS X.K Φ .retN) := ps_retN.imp fun D σ H ⟨H0, B0, fs, σ0, B, env, out, s, h, f⟩ => by
  cases h
  exact f _ σ H B s LK.refl .non
theorem es_exp (he : PE X e (tE X.K Φ ee)) (hs : swapsWith e none pos.line X.env = pure false) : PS X (.Expr e pos) (tS X.K Φ (.exp ee)) :=
  (ps_expr he hs).imp fun D σ H ⟨H0, B0, fs, σ0, B, env, out, s, h, f⟩ => by
    unfold evS at h
    split at h
    · rename_i p e1 h1
      cases h
      exact ⟨B, env, p, e1, s.re, h1, fun v H' B' c _ => f σ H' B' (s.cm c) (LK.cm c)⟩
    · cases h
theorem RE.setUn {K : PySem.W.Frag} {σ : L2.St} {H B : Hp} {env : En} (R : RE K σ H B env) (i : Nat) : RE K σ H B (env.set i .un) where
  sub := R.sub
  len := by rw [List.length_set]; exact R.len
  dat := fun h => by
    rcases set_get h with ⟨_, e2⟩ | ⟨_, h⟩
    · cases e2
    · exact R.dat h
  own := fun h => by
    rcases set_get h with ⟨_, e2⟩ | ⟨_, h⟩
    · cases e2
    · exact R.own h
  lck := fun h => by
    rcases set_get h with ⟨_, e2⟩ | ⟨_, h⟩
    · cases e2
    · exact R.lck h
  apart := fun h1 h2 m1 m2 x1 x2 => by
    rcases set_get h1 with ⟨_, e2⟩ | ⟨_, h1⟩
    · subst e2; cases m1
    · rcases set_get h2 with ⟨_, e2⟩ | ⟨_, h2⟩
      · subst e2; cases m2
      · exact R.apart h1 h2 m1 m2 x1 x2
theorem es_ret (he : PE X e (tE X.K Φ ee)) : PS X (.Return (some e) pos) (tS X.K Φ (.ret ee)) :=
  (ps_ret he).imp fun D σ H ⟨H0, B0, fs, σ0, B, env, out, s, h, f⟩ => by
    unfold evS at h
    split at h
    · rename_i p e1 h1
      split at h
      · rename_i r e2 h2
        cases h
        refine ⟨B, env, p, e1, s.re, h1, fun v H' B' c rp => ?_⟩
        have s1 := s.cm c
        unfold retOf at h2
        split at h2
        · cases h2
          exact f v σ H' B' s1 (LK.cm c) rp
        · cases h2
          obtain ⟨a, o, e, n, x⟩ := rp
          exact f v σ H' B' s1 (LK.cm c) ⟨a, o, e, s.th n, x⟩
        · cases h2
        · rename_i i
          split at h2
          · rename_i m hi
            cases h2
            obtain ⟨a, o, pa, nb, ha, mo⟩ := s1.re.own hi
            cases Option.some.inj (Option.some.inj (show some (some v) = some (some (V.ref a)) from rp.symm.trans pa))
            have n0 : H0 a = none := by
              rcases s1.ow hi rfl pa with ⟨_, z⟩ | ⟨z, _⟩
              · exact z
              · cases z
            have hl : ∀ {j : Nat} {f : Bool} {m : MO}, (e1.set i .un)[j]? = some (Slot.lck f m) ↔ e1[j]? = some (Slot.lck f m) := set_lk (env := e1) (i := i) (s := .un) (fun f m z => by rw [hi] at z; cases z) (fun f m z => by cases z)
            have s2 : SI X.K H0 B0 fs σ0 σ H' B' (e1.set i .un) := by
              refine ⟨s1.re.setUn i, s1.bb, s1.th, s1.fr, s1.fre, fun {j t a'} h m x => ?_, fun {j t} h m f => ?_⟩
              · rcases set_get h with ⟨_, rfl⟩ | ⟨_, h⟩
                · cases m
                · exact s1.ow h m x
              · rcases set_get h with ⟨_, rfl⟩ | ⟨_, h⟩
                · cases m
                · exact s1.pk h m f
            exact f _ σ H' B' s2 ((LK.cm c).trans ⟨Sub.refl _, hl, fun _ => rfl, fun _ _ h => h⟩) ⟨a, o, rfl, n0, ha, nb, mo⟩
          · rename_i d hi
            cases h2
            obtain ⟨w, pw, r⟩ := s1.re.dat hi
            cases Option.some.inj (Option.some.inj (show some (some v) = some (some w) from rp.symm.trans pw))
            exact f v σ H' B' s1 (LK.cm c) r
          · cases h2
      · cases h
    · cases h
theorem es_ite {c : Expr} {ec : E} {p q : List Stmt} (hc : PT X c (tT X.K Φ ec)) (ha : PSs X p (tS X.K Φ a)) (hb : PSs X q (tS X.K Φ b)) : PS X (.If c p q pos) (tS X.K Φ (.ite ec a b)) :=
  (ps_if hc ha hb).imp fun D σ H ⟨H0, B0, fs, σ0, B, env, out, s, h, f⟩ => by
    unfold evS at h
    split at h
    · rename_i e1 h1
      exact ⟨B, env, true, e1, s.re, h1, fun H' B' c => iteT ⟨H0, B0, fs, σ0, B', e1, out, s.cm c, h, f.after (LK.cm c)⟩⟩
    · rename_i e1 h1
      exact ⟨B, env, false, e1, s.re, h1, fun H' B' c => iteF ⟨H0, B0, fs, σ0, B', e1, out, s.cm c, h, f.after (LK.cm c)⟩⟩
    · cases h
theorem es_whl {c : Expr} {ec : E} {p : List Stmt} (n : Nat) (hp : PassesOwn (model X.prog X.w) X.A X.env X.xe) (hc : PT X c (tT X.K Φ ec)) (ha : PSs X p (tS X.K Φ a)) : PS X (.While c p [] pos) (tS X.K Φ (.whl n ec a)) :=
  (ps_while hp hc ha).imp fun D σ H ⟨H0, B0, fs, σ0, B, env, out, s, h, f⟩ => by
    unfold evS at h
    refine ⟨fun m σ' H' => ∃ B' e', SI X.K H0 B0 fs σ0 σ' H' B' e' ∧ LK σ H B env σ' H' B' e' ∧ whlGo (evT Φ ec) (evS Φ a) m e' = some out, ⟨n, B, env, s, LK.refl, h⟩, ?_⟩
    rintro m σ1 H1 ⟨B1, e1, s1, l1, h1⟩
    cases m with
    | zero => cases h1
    | succ m =>
      unfold whlGo at h1
      split at h1
      · rename_i e2 h2
        refine ⟨B1, e1, true, e2, s1.re, h2, fun H2 B2 c2 => iteT ⟨fun σ' H' => ∃ B' e', SI X.K H0 B0 fs σ0 σ' H' B' e' ∧ LK σ H B env σ' H' B' e' ∧ whlGo (evT Φ ec) (evS Φ a) m e' = some out, fun σ' H' z => ⟨m, Nat.lt_succ_self m, z⟩, ?_⟩⟩
        have l2 := l1.trans (LK.cm c2)
        split at h1
        · rename_i e3 h3
          exact ⟨H0, B0, fs, σ0, B2, e2, _, s1.cm c2, h3, fun σ' H' B' s' l => ⟨B', e3, s', l2.trans l, h1⟩⟩
        · rename_i e3 h3
          exact ⟨H0, B0, fs, σ0, B2, e2, _, s1.cm c2, h3, fun σ' H' B' s' l => ⟨B', e3, s', l2.trans l, h1⟩⟩
        · rename_i e3 h3
          cases h1
          exact ⟨H0, B0, fs, σ0, B2, e2, _, s1.cm c2, h3, fun σ' H' B' s' l => f σ' H' B' s' (l2.trans l)⟩
        · rename_i r e3 h3
          cases h1
          exact ⟨H0, B0, fs, σ0, B2, e2, _, s1.cm c2, h3, fun v σ' H' B' s' l rr => f v σ' H' B' s' (l2.trans l) rr⟩
        · cases h1
      · rename_i e2 h2
        cases h1
        exact ⟨B1, e1, false, e2, s1.re, h2, fun H2 B2 c2 => iteF (f σ1 H2 B2 (s1.cm c2) (l1.trans (LK.cm c2)))⟩
      · cases h1

/-! ### name = e -/
theorem asg_sp {i : Nat} {D : Ends} {σ : L2.St} {H : Hp} (h : tS X.K Φ (.asg (.nm i) ee) D σ H) : tE X.K Φ ee σ H fun x H1 => D.nx (σ.set i (some x)) H1 := by
  obtain ⟨H0, B0, fs, σ0, B, env, out, s, h, f⟩ := h
  unfold evS at h
  split at h
  · rename_i p e1 h1
    split at h
    · rename_i e2 h2
      cases h
      refine ⟨B, env, p, e1, s.re, h1, fun v H' B' c rp => ?_⟩
      have s1 := s.cm c
      have other : (∀ m, p ≠ .new m) → ∃ d e', fz p e1 = some (d, e') ∧ setS i (.dat d) e' = some e2 := fun hn => by
        cases p with
        | new m => exact absurd rfl (hn m)
        | _ =>
          simp only [setP] at h2
          split at h2
          · rename_i d e' hf
            unfold setD at h2
            exact ⟨d, e', hf, h2⟩
          · cases h2
      by_cases hn : ∃ m, p = .new m
      · obtain ⟨m, rfl⟩ := hn
        simp only [setP] at h2
        obtain ⟨a, o, rfl, n, x, y, mo⟩ := rp
        obtain ⟨s2, l2⟩ := s1.putO h2 x y mo (fun hj m => s.fresh c n hj m) (s.th n)
        exact f _ H' B' s2 ((LK.cm c).trans l2)
      · obtain ⟨d, e', hf, hs⟩ := other fun m z => hn ⟨m, z⟩
        obtain ⟨B2, c2, _, r2, _⟩ := fz_ok c rp hf
        obtain ⟨s2, l2⟩ := (s.cm c2).putD hs r2
        exact f _ H' B2 s2 ((LK.cm c2).trans l2)
    · cases h
  · cases h
theorem es_set {i : Nat} {x : Str} {p' : Pos} (hN : X.N.Nodup) (hi : X.N[i]? = some x) (hx : Loc X.env.scope x) (he : PE X e (tE X.K Φ ee)) (hs : swapsWith e (some (.Name x p')) pos.line X.env = pure false) (hf : X.fn x = true ∨ X.env.scope.names.lookup x = some .local) :
    PS X (.Assign [.Name x p'] e pos) (tS X.K Φ (.asg (.nm i) ee)) := (ps_set hN hi hx he hs hf).imp fun D σ H h => asg_sp h
theorem es_setLc {i : Nat} {y : Str} {py : Pos} {elt tg iter : Expr} {ifs : List Expr} {scope : Scope} {own : List (Str × Nat)} {pos spos : Pos} {et : T} {ei ec ee : E} (g : GX nms Φ X k) (hy : X.N[i]? = some y) (hyl : X.env.scope.names.lookup y = some .local)
    (hsw : swapsWith (.ListComp elt [⟨tg, iter, ifs, 0⟩] scope pos) (some (.Name y py)) spos.line X.env = pure true) (hi : PI X tg iter (tI X.K Φ ei)) (hk : PE X iter (tE X.K Φ ei) ∨ ∀ i, ei ≠ .var i) (ok : BlkOk X.N X.env.scope scope own) (ht : ∀ j ∈ et.slots, j ∈ own.map (·.2))
    (hg : ∀ (s : Shared) (H : Hp) (C : Addr) (cl : List (Str × Addr)) (fp : List Addr), PG (X.blk s H scope (compEnvC scope cl C X.env) fp) tg (tG X.K et)) (hc : ∀ (s : Shared) (H : Hp) (C : Addr) (cl : List (Str × Addr)) (fp : List Addr), PTs (X.blk s H scope (compEnvC scope cl C X.env) fp) ifs (tCs X.K Φ ec))
    (he : ∀ (s : Shared) (H : Hp) (C : Addr) (cl : List (Str × Addr)) (fp : List Addr), PE (X.blk s H scope (compEnvC scope cl C X.env) fp) elt (tE X.K Φ ee)) (hs : ∀ x, foldedSetIterable iter X.env x = pure x) :
    PS X (.Assign [.Name y py] (.ListComp elt [⟨tg, iter, ifs, 0⟩] scope pos) spos) (tS X.K Φ (.asg (.nm i) (.lc (own.map (·.2)) et ei ec ee))) := by
  rcases hk with hk | hk
  · exact ((ps_setLc g.calm g.nd hy hyl hsw hi ok hg hc he hs).or (ps_lock (ps_setLc g.calm g.nd hy hyl hsw (pi_keys hk) ok hg hc he hs))).imp fun D σ H h => (lc_sp ht (asg_sp h)).imp id (·.2)
  · exact (ps_setLc g.calm g.nd hy hyl hsw hi ok hg hc he hs).imp fun D σ H h => by
      rcases lc_sp ht (asg_sp h) with h | h
      · exact h
      · exact absurd h.1.choose_spec (hk _)
/-- a tuple of targets -/
theorem es_asgT {tg : Expr} {ts : T} (he : PE X e (tE X.K Φ ee)) (hg : PG X tg (tG X.K (.tp ts))) (hs : swapsWithSole [tg] e pos.line X.env = pure false) (hw : swappedStores [tg] e X.env = pure none) (h1 : (assignEach [tg] X.env).map (·.2) = [assign tg X.env]) :
    PS X (.Assign [tg] e pos) (tS X.K Φ (.asg (.tp ts) ee)) :=
  (ps_asg he hg hs hw h1).imp fun D σ H ⟨H0, B0, fs, σ0, B, env, out, s, h, f⟩ => by
    unfold evS at h
    split at h
    · rename_i p e1 h1
      split at h
      · rename_i e2 h2
        cases h
        refine ⟨B, env, p, e1, s.re, h1, fun v H' B' c rp => ?_⟩
        simp only [setP] at h2
        split at h2
        · rename_i d e' hf
          obtain ⟨B2, c2, _, r2, _⟩ := fz_ok c rp hf
          refine ⟨B2, e', d, e2, c2.re, r2, h2, fun σ2 R2 U2 => ?_⟩
          obtain ⟨s2, l2⟩ := (s.cm c2).upd R2 U2
          exact f σ2 H' B2 s2 ((LK.cm c2).trans l2)
        · cases h2
      · cases h
    · cases h
/-! ### a, b = x, y -/
theorem par_sp {is : List Nat} {ees : E} {D : Ends} {σ : L2.St} {H : Hp} (h : tS X.K Φ (.par is ees) D σ H) : tA X.K Φ ees σ H fun vs H1 => vs.length = is.length ∧ D.nx (setsσ is vs σ) H1 ∧ ∀ q, H1 q = none → D.nx (setsσ is vs σ) (upd H1 q (.tup vs)) := by
  obtain ⟨H0, B0, fs, σ0, B, env, out, s, h, f⟩ := h
  unfold evS at h
  split at h
  · rename_i ps e1 h1
    split at h
    · rename_i qs e2 h2
      split at h
      · rename_i e3 h3
        cases h
        refine ⟨B, env, ps, e1, s.re, h1, fun vs H' B' c rp => ?_⟩
        obtain ⟨B2, c2, s2, r2, e4, _⟩ := rsPs_ok c rp h2
        have go : ∀ {H3 : Hp}, Cm X.K σ H B env H3 B2 e2 → RpPA X.K σ H H3 B2 vs qs → D.nx (setsσ is vs σ) H3 := fun {H3} c3 r3 => by
          obtain ⟨s3, l3⟩ := setVs_ok (s.cm c3) r3 (fun _ i z => rsPs_slot h2 i z) (fun a ha => ⟨s.th (newsA_none r3.all a ha).1, fun {j t} hj m => s.fresh c3 (newsA_none r3.all a ha).1 hj m⟩) h3
          exact f _ H3 B2 s3 ((LK.cm c3).trans l3)
        refine ⟨by rw [setVs_len h3]; exact paired_len r2.all, go c2 r2, fun q nq => ?_⟩
        have g := Gr.newH c2.re.sub nq (o := .tup vs)
        refine go (c2.grow g) ⟨Paired.mapP r2.all fun v p z => ?_, r2.nd⟩
        cases p with
        | val d => exact z
        | slot i => exact z
        | its _ => exact z
        | new m =>
          obtain ⟨a, o, e, n, x, y⟩ := z
          exact ⟨a, o, e, n, g.hh _ _ x, y⟩
      · cases h
    · cases h
  · cases h
theorem es_par2 {i j : Nat} {x y : Str} {a b : Expr} {ees : E} {px py pt : Pos} {kt k2 pt2} (hc : X.calm = true) (hN : X.N.Nodup) (hi : X.N[i]? = some x) (hj : X.N[j]? = some y) (hij : i ≠ j)
    (hx : X.env.scope.names.lookup x = some .local) (hy : X.env.scope.names.lookup y = some .local) (ha : PA X [a, b] (tA X.K Φ ees))
    (hw : swappedStores [.Tuple [.Name x px, .Name y py] kt pt] (.Tuple [a, b] k2 pt2) X.env = pure (some [x, y]))
    (hs : swapsWithSole [.Tuple [.Name x px, .Name y py] kt pt] (.Tuple [a, b] k2 pt2) pos.line X.env = pure false) :
    PS X (.Assign [.Tuple [.Name x px, .Name y py] kt pt] (.Tuple [a, b] k2 pt2) pos) (tS X.K Φ (.par [i, j] ees)) :=
  (ps_par hc hN hi hj hij hx hy ha hw hs).imp fun D σ H h => by
    obtain ⟨B, env, ps, e1, R, h1, kk⟩ := par_sp h
    refine ⟨B, env, ps, e1, R, h1, fun vs H' B' c r => ?_⟩
    obtain ⟨l, q, _⟩ := kk vs H' B' c r
    rcases vs with _ | ⟨v, _ | ⟨w, _ | ⟨u, vs⟩⟩⟩
    · cases l
    · cases l
    · exact ⟨v, w, rfl, q⟩
    · cases l
theorem es_par3 {i j l : Nat} {x y z : Str} {a b c : Expr} {ees : E} {px py pz pt pos : Pos} {kt k2 pt2} (hc : X.calm = true) (hN : X.N.Nodup) (hi : X.N[i]? = some x) (hj : X.N[j]? = some y) (hl : X.N[l]? = some z) (hij : i ≠ j) (hil : i ≠ l) (hjl : j ≠ l)
    (hx : X.env.scope.names.lookup x = some .local) (hy : X.env.scope.names.lookup y = some .local) (hz : X.env.scope.names.lookup z = some .local) (ha : PA X [a, b, c] (tA X.K Φ ees))
    (hw : swappedStores [.Tuple [.Name x px, .Name y py, .Name z pz] kt pt] (.Tuple [a, b, c] k2 pt2) X.env = pure (some [x, y, z]))
    (hs : swapsWithSole [.Tuple [.Name x px, .Name y py, .Name z pz] kt pt] (.Tuple [a, b, c] k2 pt2) pos.line X.env = pure false) :
    PS X (.Assign [.Tuple [.Name x px, .Name y py, .Name z pz] kt pt] (.Tuple [a, b, c] k2 pt2) pos) (tS X.K Φ (.par [i, j, l] ees)) :=
  (L2.ps_par3 hc hN hi hj hl hij hil hjl hx hy hz ha hw hs).imp fun D σ H h => by
    obtain ⟨B, env, ps, e1, R, h1, kk⟩ := par_sp h
    refine ⟨B, env, ps, e1, R, h1, fun vs H' B' c r => ?_⟩
    obtain ⟨l, q, _⟩ := kk vs H' B' c r
    rcases vs with _ | ⟨v, _ | ⟨w, _ | ⟨u, _ | ⟨t, vs⟩⟩⟩⟩
    · cases l
    · cases l
    · cases l
    · exact ⟨v, w, u, rfl, q⟩
    · cases l
/-- stored through a tuple -/
def gNames : List Nat → TGs
  | [] => gNil
  | i :: is => gCons (gName i) (gNames is)
theorem gNames_ok {Q : L2.St → Hp → Prop} {H : Hp} : ∀ {is : List Nat} {vs : List V} {σ : L2.St}, vs.length = is.length → Q (setsσ is vs σ) H → gNames is vs σ H Q
  | [], [], σ, _, h => ⟨rfl, h⟩
  | i :: is, v :: vs, σ, hl, h => ⟨v, vs, rfl, gNames_ok (by simpa using hl) h⟩
  | [], _ :: _, _, hl, _ => by cases hl
  | _ :: _, [], _, hl, _ => by cases hl
theorem es_parG {es : List Expr} {ts : List Expr} {is : List Nat} {ees : E} {k2 k3 : Nat} {pt pt2 : Pos} (hc : X.calm = true) (ha : PA X es (tA X.K Φ ees)) (hg : PGs X ts (gNames is)) (hn : (assignEach ts X.env).length = is.length) (hst : (assignEach ts X.env).findIdx? (·.1) = none)
    (hz : is.length ≤ lim) (hs : swapsWithSole [.Tuple ts k3 pt] (.Tuple es k2 pt2) pos.line X.env = pure false) (hw : swappedStores [.Tuple ts k3 pt] (.Tuple es k2 pt2) X.env = pure none) (h1 : (assignEach [.Tuple ts k3 pt] X.env).map (·.2) = [assign (.Tuple ts k3 pt) X.env]) :
    PS X (.Assign [.Tuple ts k3 pt] (.Tuple es k2 pt2) pos) (tS X.K Φ (.par is ees)) :=
  (ps_asg (pe_tup ha) (pg_tup hc hg hn hst) hs hw h1).imp fun D σ H h => by
    obtain ⟨B, env, ps, e1, R, h1, kk⟩ := par_sp h
    refine ⟨B, env, ps, e1, R, h1, fun vs H' B' c r => ?_⟩
    obtain ⟨l, _, q⟩ := kk vs H' B' c r
    refine ⟨by rw [l]; exact lim_le hz, fun p np => ⟨p, vs, rfl, Evl.st_of upd_same, l, gNames_ok l (q p np)⟩⟩

/-! ### o[i] = v -/
theorem putK_rel {κ : Type} [DecidableEq κ] {K : PySem.W.Frag} {B : Hp} {ws : List (κ × V)} {kvs : List (κ × D)} (h : Paired (fun (p : κ × V) (q : κ × D) => p.1 = q.1 ∧ Rp K B p.2 q.2) ws kvs) (x : κ) {v : V} {d : D} (r : Rp K B v d) :
    Paired (fun (p : κ × V) (q : κ × D) => p.1 = q.1 ∧ Rp K B p.2 q.2) (putK ws x v) (putD kvs x d) := by
  have ha : ∀ {ws : List (κ × V)} {kvs : List (κ × D)}, Paired (fun (p : κ × V) (q : κ × D) => p.1 = q.1 ∧ Rp K B p.2 q.2) ws kvs → (ws.any fun kv => decide (kv.1 = x)) = (kvs.any fun kv => decide (kv.1 = x)) := by
    intro ws kvs h
    induction h with
    | nil => rfl
    | cons z t ih => simp only [List.any_cons]; rw [ih, z.1]
  have hm : ∀ {ws : List (κ × V)} {kvs : List (κ × D)}, Paired (fun (p : κ × V) (q : κ × D) => p.1 = q.1 ∧ Rp K B p.2 q.2) ws kvs → Paired (fun (p : κ × V) (q : κ × D) => p.1 = q.1 ∧ Rp K B p.2 q.2) (ws.map fun kv => if kv.1 = x then (kv.1, v) else kv) (kvs.map fun kv => if kv.1 = x then (kv.1, d) else kv) := by
    intro ws kvs h
    induction h with
    | nil => exact .nil
    | cons z t ih =>
      refine .cons ?_ ih
      rename_i a b _ _
      show (if a.1 = x then (a.1, v) else a).1 = (if _ = x then (_, d) else _).1 ∧ Rp K B (if a.1 = x then (a.1, v) else a).2 (if _ = x then (_, d) else _).2
      by_cases e : a.1 = x
      · rw [if_pos e, if_pos (by rw [← z.1]; exact e)]
        exact ⟨z.1, r⟩
      · rw [if_neg e, if_neg (by rw [← z.1]; exact e)]
        exact z
  have hap : ∀ {ws : List (κ × V)} {kvs : List (κ × D)}, Paired (fun (p : κ × V) (q : κ × D) => p.1 = q.1 ∧ Rp K B p.2 q.2) ws kvs → Paired (fun (p : κ × V) (q : κ × D) => p.1 = q.1 ∧ Rp K B p.2 q.2) (ws ++ [(x, v)]) (kvs ++ [(x, d)]) := by
    intro ws kvs h
    induction h with
    | nil => exact .cons ⟨rfl, r⟩ .nil
    | cons z t ih => exact .cons z ih
  unfold putK putD
  rw [ha h]
  split
  · exact hm h
  · exact hap h
theorem es_put {o i v : Expr} {eo ei ev : E} {p' : Pos} (hu : X.A.units + 65 < cLine) (ho : PE X o (tE X.K Φ eo)) (hi : PE X i (tE X.K Φ ei)) (hv : PE X v (tE X.K Φ ev))
    (ha : ∀ w, assign (.Subscript o i p') X.env w = (do
      let ov ← holding [w] (eval o X.env)
      let iv ← holding [w, ov] (eval i X.env)
      standAt p'
      holding [w, ov, iv] (setItem ov iv w)
      release [w, ov, iv] []))
    (hs : swapsWithSole [.Subscript o i p'] v pos.line X.env = pure false) (hw : swappedStores [.Subscript o i p'] v X.env = pure none) (h1 : (assignEach [.Subscript o i p'] X.env).map (·.2) = [assign (.Subscript o i p') X.env]) (hs2 : swapsWith v (some (.Subscript o i p')) pos.line X.env = pure false) :
    PS X (.Assign [.Subscript o i p'] v pos) (tS X.K Φ (.put eo ei ev)) :=
  ((ps_asg hv (pg_sub ho hi set_list ha) hs hw h1).or (ps_dput (by omega) ho hi hv hs2)).imp fun D σ H ⟨H0, B0, fs, σ0, B, env, out, s, h, f⟩ => by
    unfold evS at h
    split at h
    · rename_i pv e1 h1
      split at h
      · rename_i sl e2 h2
        split at h
        · rename_i ky e3 h3
          split at h
          · rename_i d e4 h4
            split at h
            · rename_i fz0 m hm
              split at h
              · rename_i m' hp
                cases h
                have fin : ∀ {H3 B4 : Hp} {a : Addr} {o' : HO}, Cm X.K σ H B env H3 B4 e4 → At σ sl a → MOk X.K B4 o' m' → D.nx σ (upd H3 a o') := fun {H3 B4 a o'} c pa mo =>
                  f σ _ B4 (s.cm (own_write c hm pa mo)) (LK.cm (own_write c hm pa mo))
                cases m with
                | lst ds =>
                  refine .inl ⟨B, env, pv, e1, s.re, h1, fun v H1 B1 c1 r1 => ⟨B1, e1, _, e2, c1.re, h2, fun w H2 B2 c2 r2 => ⟨B2, e2, _, e3, c2.re, h3, fun u H3 B3 c3 r3 => ?_⟩⟩⟩
                  have r1' := (r1.later c1.r0 c1.st c2.st).later c1.r0 (c1.trans c2).st c3.st
                  obtain ⟨B4, c4, s4, r4, _⟩ := fz_ok ((c1.trans c2).trans c3) r1' h4
                  obtain ⟨a, ob, pa, nb, ha, xs, rfl, ra⟩ := c4.re.own hm
                  cases Option.some.inj (Option.some.inj (show some (some w) = some (some (V.ref a)) from r2.symm.trans pa))
                  unfold putAt at hp
                  split at hp
                  · rename_i ds' n e
                    cases e
                    split at hp
                    · rename_i bd
                      cases hp
                      cases r3
                      refine ⟨a, xs, n, n.toNat, rfl, rfl, ha, ?_, fin c4 pa ⟨_, rfl, ra.set r4 _⟩⟩
                      have hl := ra.length
                      unfold ixN
                      rw [hl, if_pos (by omega), if_pos (by omega)]
                    · cases hp
                  · rename_i e; cases e
                  · rename_i e; cases e
                  · cases hp
                | dK kvs =>
                  refine .inr ⟨B, env, pv, e1, s.re, h1, fun v H1 B1 c1 r1 => ⟨B1, e1, _, e2, c1.re, h2, fun w H2 B2 c2 r2 => ⟨B2, e2, _, e3, c2.re, h3, fun u H3 B3 c3 r3 => ?_⟩⟩⟩
                  have r1' := (r1.later c1.r0 c1.st c2.st).later c1.r0 (c1.trans c2).st c3.st
                  obtain ⟨B4, c4, s4, r4, _⟩ := fz_ok ((c1.trans c2).trans c3) r1' h4
                  obtain ⟨a, ob, pa, nb, ha, xs, rfl, ra⟩ := c4.re.own hm
                  cases Option.some.inj (Option.some.inj (show some (some w) = some (some (V.ref a)) from r2.symm.trans pa))
                  have hl := paired_len ra
                  cases ky <;> simp only [putAt, dput, reduceCtorEq] at hp
                  · split at hp
                    · rename_i bd
                      cases hp
                      cases r3
                      exact ⟨a, _, rfl, DPut.k (k := .inl _) ha (by rw [hl]; exact Nat.lt_of_lt_of_le bd lim_line), fin c4 pa ⟨_, rfl, putK_rel ra _ r4⟩⟩
                    · cases hp
                  · split at hp
                    · rename_i bd
                      cases hp
                      cases r3
                      exact ⟨a, _, rfl, DPut.k (k := .inr _) ha (by rw [hl]; exact Nat.lt_of_lt_of_le bd lim_line), fin c4 pa ⟨_, rfl, putK_rel ra _ r4⟩⟩
                    · cases hp
                | dT kvs =>
                  refine .inr ⟨B, env, pv, e1, s.re, h1, fun v H1 B1 c1 r1 => ⟨B1, e1, _, e2, c1.re, h2, fun w H2 B2 c2 r2 => ⟨B2, e2, _, e3, c2.re, h3, fun u H3 B3 c3 r3 => ?_⟩⟩⟩
                  have r1' := (r1.later c1.r0 c1.st c2.st).later c1.r0 (c1.trans c2).st c3.st
                  obtain ⟨B4, c4, s4, r4, _⟩ := fz_ok ((c1.trans c2).trans c3) r1' h4
                  obtain ⟨a, ob, pa, nb, ha, xs, rfl, ra⟩ := c4.re.own hm
                  cases Option.some.inj (Option.some.inj (show some (some w) = some (some (V.ref a)) from r2.symm.trans pa))
                  have hl := paired_len ra
                  cases ky <;> simp only [putAt, dput, reduceCtorEq] at hp
                  split at hp
                  · rename_i kk hk
                    split at hp
                    · rename_i bd
                      cases hp
                      cases r3 with
                      | tup hb rb =>
                        have e := keysOf_rel hk rb
                        subst e
                        exact ⟨a, _, rfl, DPut.t ha (c3.re.sub _ _ hb) (by rw [hl]; exact Nat.lt_of_lt_of_le bd lim_line), fin c4 pa ⟨_, rfl, putK_rel ra _ r4⟩⟩
                    · cases hp
                  · cases hp
              · cases h
            · cases h
          · cases h
        · cases h
      · cases h
    · cases h
end
end Mi

/-! Mi15: for. -/
namespace Mi
open PySem PySem.Spec PyProof.Rows L2

section
variable {K : PySem.W.Frag} {Φ : Nat → Fn} {σ σ2 σ0 : L2.St} {H B H' B' H2 B2 H0 B0 : Hp} {env e e2 : En} {fs : List Addr} {i : Nat} {f : Bool} {m : MO} {d : Addr} {u w : HO}
theorem si_nd (s : SI K H0 B0 fs σ0 σ H B e) (ei : e[i]? = some (.own f m) ∨ e[i]? = some (.lck f m)) (pd : At σ i d) : H0 d = none ∨ d ∈ fs := by
  rcases ei with ei | ei
  · rcases s.ow ei rfl pd with ⟨_, z⟩ | ⟨_, z⟩
    · exact .inl z
    · exact .inr z
  · rcases s.ow ei rfl pd with ⟨_, z⟩ | ⟨_, z⟩
    · exact .inl z
    · exact .inr z
theorem si_lock (s : SI K H0 B0 fs σ0 σ H B e) (ei : e[i]? = some (.own f m)) (pd : At σ i d) (hd : H d = some u) (hw : w = u ∨ ((∀ ds, m ≠ .lst ds) ∧ ∃ od, w = .frz od u)) : SI K H0 B0 fs σ0 σ (upd H d w) B (e.set i (.lck f m)) := by
  refine ⟨lock_re s.re ei pd hd hw, s.bb, fun {a} h => ?_, fun {a o} h n => ?_, s.fre, fun {j t a} h m x => ?_, fun {j t} h m' g => ?_⟩
  · have ne : a ≠ d := fun z => by subst z; rw [upd_same] at h; cases h
    rw [upd_ne ne] at h
    exact s.th h
  · have ne : a ≠ d := fun z => by
      subst z
      rcases si_nd s (.inl ei) pd with z | z
      · rw [z] at h; cases h
      · exact n z
    rw [upd_ne ne]
    exact s.fr h n
  · rcases set_get h with ⟨rfl, rfl⟩ | ⟨_, h⟩
    · have z := s.ow ei rfl x
      exact z
    · exact s.ow h m x
  · rcases set_get h with ⟨rfl, rfl⟩ | ⟨_, h⟩
    · have z := s.pk ei rfl g
      exact z
    · exact s.pk h m' g
theorem si_unlock (s : SI K H0 B0 fs σ0 σ H B e) (ei : e[i]? = some (.lck f m)) (pd : At σ i d) (hd : H d = some w) (hw : w = u ∨ ∃ od, w = .frz od u) (nf : ∀ od x, u ≠ .frz od x) : SI K H0 B0 fs σ0 σ (upd H d u) B (e.set i (.own f m)) := by
  have mo : MOk K B u m := by
    obtain ⟨q, o, pq, nb, hq, mo⟩ := s.re.lck ei
    cases At.eq pd pq
    have ou : o = u ∨ ∃ od x, o = .frz od x := by
      rcases hq.rd with z | ⟨y, z⟩
      · rw [hd] at z
        cases z
        rcases hw with rfl | ⟨od, rfl⟩
        · exact .inl rfl
        · exact .inr ⟨od, u, rfl⟩
      · rw [hd] at z
        cases z
        rcases hw with z | ⟨od, z⟩
        · exact absurd z.symm (nf _ _)
        · cases z; exact .inl rfl
    rcases ou with rfl | ⟨od, x, rfl⟩
    · exact mo
    · cases m with
      | lst _ => obtain ⟨_, w, _⟩ := mo; cases w
      | dK _ => obtain ⟨_, w, _⟩ := mo; cases w
      | dT _ => obtain ⟨_, w, _⟩ := mo; cases w
  refine ⟨free_re s.re ei pd hd hw mo, s.bb, fun {a} h => ?_, fun {a o} h n => ?_, s.fre, fun {j t a} h m x => ?_, fun {j t} h m' g => ?_⟩
  · have ne : a ≠ d := fun z => by subst z; rw [upd_same] at h; cases h
    rw [upd_ne ne] at h
    exact s.th h
  · have ne : a ≠ d := fun z => by
      subst z
      rcases si_nd s (.inr ei) pd with z | z
      · rw [z] at h; cases h
      · exact n z
    rw [upd_ne ne]
    exact s.fr h n
  · rcases set_get h with ⟨rfl, rfl⟩ | ⟨_, h⟩
    · have z := s.ow ei rfl x
      exact z
    · exact s.ow h m x
  · rcases set_get h with ⟨rfl, rfl⟩ | ⟨_, h⟩
    · have z := s.pk ei rfl g
      exact z
    · exact s.pk h m' g
theorem lk_unlock {σ' : L2.St} (R : RE K σ H B e) (ei : e[i]? = some (.own f m)) (pd : At σ i d) (l : LK σ (upd H d w) B (e.set i (.lck f m)) σ' H' B' e2) : H' d = some w ∧ At σ' i d ∧ e2[i]? = some (.lck f m) ∧ freeS (some i) e2 = e2.set i (.own f m) ∧ LK σ H B e σ' (upd H' d u) B' (e2.set i (.own f m)) := by
  have gi := set_self (x := Slot.lck f m) (get_lt ei)
  have ei2 := l.lk.mpr gi
  refine ⟨l.lh gi pd upd_same, by rw [At, l.ls gi]; exact pd, ei2, by unfold freeS; simp only [ei2], l.bb, fun {j f' m'} => ?_, fun {j f' m'} h => ?_, fun {j f' m' p o} h x y => ?_⟩
  · by_cases z : j = i
    · subst z
      rw [set_self (get_lt ei2), ei]
    · rw [List.getElem?_set_ne (Ne.symm z), l.lk, List.getElem?_set_ne (Ne.symm z)]
  · have ne : j ≠ i := fun z => by subst z; rw [ei] at h; cases h
    exact l.ls (by rw [List.getElem?_set_ne (Ne.symm ne)]; exact h)
  · have ne : j ≠ i := fun z => by subst z; rw [ei] at h; cases h
    have np : p ≠ d := fun z => by subst z; exact ne (R.apart h ei rfl rfl x pd)
    rw [upd_ne np]
    exact l.lh (by rw [List.getElem?_set_ne (Ne.symm ne)]; exact h) x (by rw [upd_ne np]; exact y)
def forF (Φ : Nat → Fn) (t : T) (b : S) : D → En → Option Out := fun x e => match setD t x e with
  | some e2 => evS Φ b e2
  | none => none
theorem forGo_out {g : D → En → Option Out} : ∀ {xs : List D} {env : En} {out : Out}, forGo g xs env = some out → (∃ e, out = .nx e) ∨ ∃ r e, out = .rt r e
  | [], _, _, h => by cases h; exact .inl ⟨_, rfl⟩
  | x :: xs, env, out, h => by
    unfold forGo at h
    split at h
    · exact forGo_out h
    · exact forGo_out h
    · cases h; exact .inl ⟨_, rfl⟩
    · cases h; exact .inr ⟨_, _, rfl⟩
    · cases h
theorem for_run {σ1 : L2.St} {H1 B1 : Hp} {e1 : En} {J : It} {xs : List D} {pin : Option (Addr × HO)} {t : T} {b : S} {out : Out} {D : Ends} (s1 : SI K H0 B0 fs σ0 σ1 H1 B1 e1) (po : PinOk σ1 H1 e1 pin) (wk : WkOk K B1 J xs pin)
    (hgo : forGo (forF Φ t b) xs e1 = some out) (fin : Fin K H0 B0 fs σ0 D σ1 H1 B1 e1 out) :
    ∃ W : Nat → Nat → L2.St → Hp → Prop, (∃ m, W 0 m σ1 H1) ∧ ∀ i m σ H, W i m σ H → (J.stop i H ∧ D.nx σ H) ∨ (J.go i H ∧ ∃ N : L2.St → Hp → Prop, (∀ σ' H', N σ' H' → ∃ m', m' < m ∧ W (i + 1) m' σ' H') ∧
      ∀ x H', J.yld i H x H' → tG K t x σ H' fun σ2 H2 => tS K Φ b { D with nx := N, ct := N, bk := D.nx } σ2 H2) := by
  refine ⟨fun i m σ H => m = xs.length - i ∧ i ≤ xs.length ∧ ∃ B e, SI K H0 B0 fs σ0 σ H B e ∧ LK σ1 H1 B1 e1 σ H B e ∧ forGo (forF Φ t b) (xs.drop i) e = some out, ⟨xs.length, by simp, Nat.zero_le _, B1, e1, s1, LK.refl, by simpa using hgo⟩, ?_⟩
  rintro i m σ H ⟨rfl, hi, B, e, s, l, hgo2⟩
  obtain ⟨it, stop⟩ := wk H B l.bb s.re.sub fun a o z => by
    obtain ⟨h1, i, f, m, h2, h3⟩ := po a o z
    exact l.lh h2 h3 h1
  rcases Nat.lt_or_ge i xs.length with lt | ge
  · obtain ⟨go, yl⟩ := it i _ (List.getElem?_eq_getElem lt)
    rw [List.drop_eq_getElem_cons lt] at hgo2
    refine .inr ⟨go, fun σ' H' => ∃ B e, SI K H0 B0 fs σ0 σ' H' B e ∧ LK σ1 H1 B1 e1 σ' H' B e ∧ forGo (forF Φ t b) (xs.drop (i + 1)) e = some out, fun σ' H' z => ⟨xs.length - (i + 1), by omega, rfl, lt, z⟩, fun x H' y => ?_⟩
    obtain ⟨B2, g, rx⟩ := yl x H' y
    have cg := (Cm.refl s.re).grow g
    have s2 := s.cm cg
    have l2 := l.trans (LK.cm cg)
    unfold forGo at hgo2
    have hf : ∃ ea o, setD t xs[i] e = some ea ∧ forF Φ t b xs[i] e = some o ∧ evS Φ b ea = some o := by
      cases h0 : forF Φ t b xs[i] e with
      | none => rw [h0] at hgo2; cases hgo2
      | some o =>
        have h1 := h0
        unfold forF at h1
        split at h1
        · rename_i ea ha
          exact ⟨ea, o, ha, rfl, h1⟩
        · cases h1
    obtain ⟨ea, o, ha, hf, hb⟩ := hf
    rw [hf] at hgo2
    refine ⟨B2, e, _, ea, s2.re, rx, ha, fun σ2 R2 U2 => ?_⟩
    obtain ⟨s3, l3⟩ := s2.upd R2 U2
    have l4 := l2.trans l3
    refine ⟨H0, B0, fs, σ0, B2, ea, o, s3, hb, ?_⟩
    cases o with
    | nx e5 => exact fun σ' H' B' s' l' => ⟨B', e5, s', l4.trans l', hgo2⟩
    | ct e5 => exact fun σ' H' B' s' l' => ⟨B', e5, s', l4.trans l', hgo2⟩
    | bk e5 =>
      cases hgo2
      exact fun σ' H' B' s' l' => fin σ' H' B' s' (l4.trans l')
    | rt r e5 =>
      cases hgo2
      exact fun v σ' H' B' s' l' rr => fin v σ' H' B' s' (l4.trans l') rr
  · have ei : i = xs.length := by omega
    subst ei
    rw [List.drop_length] at hgo2
    cases hgo2
    exact .inl ⟨stop, fin σ H B s l⟩
theorem retOk_upd {v : V} {r : Ret} (h : RetOk K H0 H' B' v r) (hd : H' d = some w) (hw : w = u ∨ ∃ od, w = .frz od u) : RetOk K H0 (upd H' d u) B' v r := by
  cases r with
  | val x => exact h
  | new m =>
    obtain ⟨a, o, e, n, x, y, mo⟩ := h
    by_cases z : a = d
    · subst z
      rw [hd] at x
      cases x
      rcases hw with rfl | ⟨od, rfl⟩
      · exact ⟨a, _, e, n, upd_same, y, mo⟩
      · cases m with
        | lst _ => obtain ⟨_, w, _⟩ := mo; cases w
        | dK _ => obtain ⟨_, w, _⟩ := mo; cases w
        | dT _ => obtain ⟨_, w, _⟩ := mo; cases w
    · exact ⟨a, o, e, n, by rw [upd_ne z]; exact x, y, mo⟩
theorem mok_nf {o : HO} {B : Hp} (mo : MOk K B o m) : ∀ od x, o ≠ .frz od x := fun od x z => by
  subst z
  cases m with
  | lst _ => obtain ⟨_, w, _⟩ := mo; cases w
  | dK _ => obtain ⟨_, w, _⟩ := mo; cases w
  | dT _ => obtain ⟨_, w, _⟩ := mo; cases w
end
section
variable {nms : List Str} {X : Cx} {Φ : Nat → Fn} {k : Nat} {pos p0 : Pos}
theorem evS_for (t : T) (it : E) (b : S) (env : En) : evS Φ (.for_ t it b) env = match itStart Φ it env with
    | some (xs, lk, e1) => match forGo (forF Φ t b) xs e1 with
      | some (.nx e2) => some (.nx (freeS lk e2))
      | some (.rt r e2) => some (.rt r (freeS lk e2))
      | _ => none
    | none => none := rfl
theorem for_sp {t : T} {it : E} {b : S} {D : Ends} {σ : L2.St} {H : Hp} (h : tS X.K Φ (.for_ t it b) D σ H) :
    tFor (tI X.K Φ it) (tG X.K t) (tS X.K Φ b) D σ H ∨ (∃ i, it = .var i) ∧ tLock (tFor (iKeys (tE X.K Φ it)) (tG X.K t) (tS X.K Φ b)) D σ H := by
  obtain ⟨H0, B0, fs, σ0, B, env, out, s, h, f⟩ := h
  rw [evS_for] at h
  split at h
  · rename_i xs lk e1 hs
    have hgo : ∃ o, forGo (forF Φ t b) xs e1 = some o ∧ ((∃ e2, o = .nx e2 ∧ out = .nx (freeS lk e2)) ∨ ∃ r e2, o = .rt r e2 ∧ out = .rt r (freeS lk e2)) := by
      split at h
      · rename_i e2 hh
        cases h
        exact ⟨_, hh, .inl ⟨_, rfl, rfl⟩⟩
      · rename_i r e2 hh
        cases h
        exact ⟨_, hh, .inr ⟨_, _, rfl, rfl⟩⟩
      · cases h
    obtain ⟨o, hgo, ho⟩ := hgo
    unfold itStart at hs
    split at hs
    · rename_i r hd
      cases hs
      obtain ⟨i, f0, kvs, rfl, ei, er⟩ := dictIt_some hd
      cases er
      obtain ⟨d, ob, pd, nb, hd, ws, rfl, pw⟩ := s.re.own ei
      refine .inr ⟨⟨i, rfl⟩, d, _, hd, trivial, fun od => ?_⟩
      have hw : (HO.frz od (.dK ws)) = .dK ws ∨ ((∀ ds, (MO.dK kvs) ≠ .lst ds) ∧ ∃ od', (HO.frz od (.dK ws)) = .frz od' (.dK ws)) := .inr ⟨fun ds z => (by cases z), od, rfl⟩
      have sL := si_lock s ei pd hd hw
      have gi := set_self (x := Slot.lck f0 (.dK kvs)) (get_lt ei)
      refine ⟨B, _, .slot i, _, sL.re, (by unfold evE; rw [gi]), fun v H' B' c r => ⟨d, od, ?_, .inl ⟨ws, ?_, ?_⟩⟩⟩
      · exact Option.some.inj (Option.some.inj (show some (some v) = some (some (V.ref d)) from r.symm.trans pd))
      · exact c.st.fr upd_same (lock_not s.re ei pd)
      · have wk : WkOk X.K B' (Itk d od ws) (kvs.map fun p => keyD p.1) (some (d, .frz od (.dK ws))) := wk_keys (Paired.mapP pw fun _ _ z => ⟨z.1, z.2.mono c.st.bb⟩)
        have po : PinOk σ H' (env.set i (.lck f0 (.dK kvs))) (some (d, .frz od (.dK ws))) := fun a u z => by
          cases z
          exact ⟨c.st.fr upd_same (lock_not s.re ei pd), i, f0, _, gi, pd⟩
        refine for_run (sL.cm c) po wk hgo ?_
        have fin : ∀ {σ' : L2.St} {H2 B2 : Hp} {e2 : En}, SI X.K H0 B0 fs σ0 σ' H2 B2 e2 → LK σ H' B' (env.set i (.lck f0 (.dK kvs))) σ' H2 B2 e2 → H2 d = some (.frz od (.dK ws)) ∧ SI X.K H0 B0 fs σ0 σ' (upd H2 d (.dK ws)) B2 (freeS (some i) e2) ∧ LK σ H B env σ' (upd H2 d (.dK ws)) B2 (freeS (some i) e2) := fun {σ' H2 B2 e2} s2 l2 => by
          obtain ⟨g1, g2, g3, g4, g5⟩ := lk_unlock (u := .dK ws) s.re ei pd ((LK.cm c).trans l2)
          rw [g4]
          exact ⟨g1, si_unlock s2 g3 g2 g1 (.inr ⟨od, rfl⟩) (fun _ _ z => by cases z), g5⟩
        rcases ho with ⟨e2, rfl, rfl⟩ | ⟨r, e2, rfl, rfl⟩
        · intro σ' H2 B2 s2 l2
          obtain ⟨g1, g2, g3⟩ := fin s2 l2
          exact ⟨g1, f σ' _ B2 g2 g3⟩
        · intro v σ' H2 B2 s2 l2 rr
          obtain ⟨g1, g2, g3⟩ := fin s2 l2
          exact ⟨g1, f v σ' _ B2 g2 g3 (retOk_upd rr g1 (.inr ⟨od, rfl⟩))⟩
    · split at hs
      · rename_i p0 e0 h1
        refine .inl ⟨B, env, p0, e0, xs, lk, e1, s.re, h1, hs, fun H' B' J pin lo po wk => ?_⟩
        cases lk with
        | none =>
          have lo : Cm X.K σ H B env H' B' e1 := lo
          refine for_run (s.cm lo) po wk hgo ?_
          rcases ho with ⟨e2, rfl, rfl⟩ | ⟨r, e2, rfl, rfl⟩
          · exact Fin.after (LK.cm lo) f
          · exact Fin.after (LK.cm lo) f
        | some i =>
          obtain ⟨f0, m, a, ob, c, ei, pa, ha, rfl⟩ := lo
          have sL := si_lock (s.cm c) ei pa ha (w := ob) (.inl rfl)
          rw [upd_self ha] at sL
          have nf : ∀ od x, ob ≠ .frz od x := by
            obtain ⟨a2, o2, p2, _, h2, mo⟩ := c.re.own ei
            cases At.eq pa p2
            rw [ha] at h2
            cases h2
            exact mok_nf mo
          refine for_run sL po wk hgo ?_
          have fin : ∀ {σ' : L2.St} {H2 B2 : Hp} {e2 : En}, SI X.K H0 B0 fs σ0 σ' H2 B2 e2 → LK σ H' B' (e0.set i (.lck f0 m)) σ' H2 B2 e2 → SI X.K H0 B0 fs σ0 σ' H2 B2 (freeS (some i) e2) ∧ LK σ H B env σ' H2 B2 (freeS (some i) e2) := fun {σ' H2 B2 e2} s2 l2 => by
            obtain ⟨g1, g2, g3, g4, g5⟩ := lk_unlock (u := ob) (w := ob) c.re ei pa (by rw [upd_self ha]; exact l2)
            rw [g4]
            have s3 := si_unlock s2 g3 g2 g1 (.inl rfl) nf
            rw [upd_self g1] at s3 g5
            exact ⟨s3, (LK.cm c).trans g5⟩
          rcases ho with ⟨e2, rfl, rfl⟩ | ⟨r, e2, rfl, rfl⟩
          · intro σ' H2 B2 s2 l2
            obtain ⟨g2, g3⟩ := fin s2 l2
            exact f σ' _ B2 g2 g3
          · intro v σ' H2 B2 s2 l2 rr
            obtain ⟨g2, g3⟩ := fin s2 l2
            exact f v σ' _ B2 g2 g3 rr
      · cases hs
  · cases h
theorem es_for {tg iter : Expr} {body : List Stmt} {et : T} {ei : E} {eb : S} (hp : PassesOwn (model X.prog X.w) X.A X.env X.xe) (hc : X.calm = true) (hi : PI X tg iter (tI X.K Φ ei)) (hk : PE X iter (tE X.K Φ ei) ∨ ∀ i, ei ≠ .var i) (hg : PG X tg (tG X.K et)) (hb : PSs X body (tS X.K Φ eb))
    (hs : ∀ x, foldedSetIterable iter X.env x = pure x) : PS X (.For tg iter body [] pos) (tS X.K Φ (.for_ et ei eb)) := by
  rcases hk with hk | hk
  · exact ((ps_for hp hc hi hg hb hs).or (ps_lock (ps_for hp hc (pi_keys hk) hg hb hs))).imp fun D σ H h => (for_sp h).imp id (·.2)
  · exact (ps_for hp hc hi hg hb hs).imp fun D σ H h => by
      rcases for_sp h with h | h
      · exact h
      · exact absurd h.1.choose_spec (hk _)
end
end Mi

/-! Mi16: from the text's tree to the small language, with the proof along. -/
namespace Mi
open PySem PySem.Spec PyProof.Rows L2

structure SC where
  sc : Scope
  N : List Str
  fnB : Str → Bool
  cst : List (Str × D)
  nms : List Str
  dt : Pos → Bool
  fuel : Nat
structure GC (c : SC) (Φ : Nat → Fn) (X : Cx) (k : Nat) : Prop where
  g : GX c.nms Φ X k
  sc : X.env.scope = c.sc
  N : X.N = c.N
  fn : ∀ x, c.fnB x = true → X.fn x = true
  cst : ∀ x d, c.cst.lookup x = some d → ∃ u v, X.mg x = some u ∧ RelV v u ∧ ∀ B, Rp X.K B v d
abbrev CE (c : SC) (e : Expr) := {ee : E // ∀ {Φ : Nat → Fn} {X : Cx} {k : Nat}, GC c Φ X k → PE X e (tE X.K Φ ee)}
abbrev CT (c : SC) (e : Expr) := {ee : E // ∀ {Φ : Nat → Fn} {X : Cx} {k : Nat}, GC c Φ X k → PT X e (tT X.K Φ ee)}
abbrev CA (c : SC) (es : List Expr) := {ee : E // ∀ {Φ : Nat → Fn} {X : Cx} {k : Nat}, GC c Φ X k → PA X es (tA X.K Φ ee)}
abbrev CO' (c : SC) (e : Option Expr) := {ee : E // ∀ {Φ : Nat → Fn} {X : Cx} {k : Nat}, GC c Φ X k → PO X e (tO X.K Φ ee)}
abbrev CC (c : SC) (es : List Expr) := {ee : E // ∀ {Φ : Nat → Fn} {X : Cx} {k : Nat}, GC c Φ X k → PTs X es (tCs X.K Φ ee)}
abbrev CB (c : SC) (op : BoolOp) (es : List Expr) := {ee : E // ∀ {Φ : Nat → Fn} {X : Cx} {k : Nat} {pos : Pos}, GC c Φ X k → PE X (.BoolOp op es pos) (tE X.K Φ ee)}
abbrev CW (c : SC) (op : BoolOp) (es : List Expr) := {ee : E // ∀ {Φ : Nat → Fn} {X : Cx} {k : Nat} {pos : Pos}, GC c Φ X k → PW X (.BoolOp op es pos) (tT X.K Φ ee)}
abbrev CI (c : SC) (tg it : Expr) := {ee : E // ∀ {Φ : Nat → Fn} {X : Cx} {k : Nat}, GC c Φ X k → PI X tg it (tI X.K Φ ee) ∧ (PE X it (tE X.K Φ ee) ∨ ∀ i, ee ≠ .var i)}
abbrev CG (c : SC) (tg : Expr) := {t : T // ∀ {Φ : Nat → Fn} {X : Cx} {k : Nat}, GC c Φ X k → PG X tg (tG X.K t)}
abbrev CGs (c : SC) (tg : List Expr) := {t : T // ∀ {Φ : Nat → Fn} {X : Cx} {k : Nat}, GC c Φ X k → PGs X tg (tGs X.K t) ∧ (assignEach tg X.env).length = t.len ∧ (assignEach tg X.env).findIdx? (·.1) = none}

section
variable {c : SC} {Φ : Nat → Fn} {X : Cx} {k : Nat} {e a b : Expr} {es : List Expr} {pos p0 : Pos} {ee ea eb : E}
/-! ### what is never evaluated -/
def gE : CE c e := ⟨.gone, fun _ => ⟨fun _ _ _ _ _ _ ⟨_, _, _, _, _, h, _⟩ => by cases h⟩⟩
theorem evT_gone {env : En} : evT Φ .gone env = none := rfl
def gT : CT c e := ⟨.gone, fun _ => ⟨fun _ _ _ _ _ _ ⟨_, _, _, _, _, h, _⟩ => by rw [evT_gone] at h; cases h⟩⟩
def gA : CA c es := ⟨.gone, fun _ => ⟨fun _ _ _ _ _ _ _ ⟨_, _, _, _, _, h, _⟩ => by cases h⟩⟩
def gO {o : Option Expr} : CO' c o := ⟨.cst .non, fun _ => ⟨fun _ _ _ _ _ _ ⟨_, _, _, _, _, h, _⟩ => by cases h⟩⟩
def gC : CC c es := ⟨.gone, fun _ => ⟨fun _ _ _ _ _ _ ⟨_, _, _, _, _, h, _⟩ => by cases h⟩⟩
def gB {op : BoolOp} : CB c op es := ⟨.gone, fun _ => ⟨fun _ _ _ _ _ _ ⟨_, _, _, _, _, h, _⟩ => by cases h⟩⟩
def gW {op : BoolOp} : CW c op es := ⟨.gone, fun _ => ⟨fun _ _ _ _ _ _ _ ⟨_, _, _, _, _, h, _⟩ => by rw [evT_gone] at h; cases h⟩⟩
def gI {tg it : Expr} : CI c tg it := ⟨.gone, fun _ => ⟨⟨fun _ _ _ _ _ _ ⟨_, _, _, _, _, _, _, _, h, _⟩ => by cases h⟩, .inr fun i z => by cases z⟩⟩
def gG {tg : Expr} : CG c tg := ⟨.nil, fun _ => ⟨fun _ _ _ _ _ _ _ _ _ ⟨_, _, d, _, _, _, h, _⟩ => by cases d <;> cases h⟩⟩

/-! ### signs of the tree -/
def notStar : Expr → Bool
  | .Starred _ _ => false
  | _ => true
theorem star_one (h : notStar a = true) (env : Env) : starEach (a :: es) env = (false, eval a env) :: starEach es env := by
  cases a <;> first | rfl | cases h
def noStars (es : List Expr) : Bool := es.all notStar
theorem star_none (env : Env) (pos : Pos) : ∀ {es : List Expr}, noStars es = true → (backTo pos (starEach es env)).any (·.1) = false
  | [], _ => rfl
  | a :: es, h => by
    simp only [noStars, List.all_cons, Bool.and_eq_true] at h
    rw [star_one h.1]
    have ih := star_none env pos (es := es) h.2
    simp only [backTo, List.map_cons, List.any_cons, Bool.false_or] at ih ⊢
    exact ih
def notSet : Expr → Bool
  | .Set _ _ _ => false
  | _ => true
theorem folded (h : notSet a = true) (env : Env) : ∀ x, foldedSetIterable a env x = pure x := by
  intro x
  cases a <;> first | rfl | cases h
def isName : Expr → Bool
  | .Name _ _ => true
  | _ => false
theorem base_name (h : isName a = true) (m : Str) (env : Env) (w : Sem Value) : attributeBase a m env w = w := by
  cases a <;> first | rfl | cases h
theorem few_one (h : notStar a = true) (env : Env) : ((backTo pos (starEach [a] env)).all (fun x => !x.1) && (backToKw pos (keywordEach [] env)).all (fun x => x.1.isSome) && decide (([a] : List Expr).length + ([] : List Keyword).length + (if ([] : List Keyword).isEmpty then 0 else 1) < 30)) = true := by
  rw [star_one h]; rfl
def notSl : Expr → Bool
  | .Slice _ _ _ _ => false
  | _ => true
theorem plain_ix (h : notSl b = true) : PlainIx b := by
  intro o i
  cases b <;> first | rfl | cases h
theorem no_sl (h : notSl b = true) : NoSl b := by
  intro o i
  cases b <;> first | rfl | cases h
def plainT : Expr → Bool
  | .BoolOp _ _ _ => false
  | .UnaryOp _ _ _ => false
  | .IfExp _ _ _ _ => false
  | .Compare _ _ _ _ => false
  | _ => true
theorem true_plain (h : plainT e = true) (env : Env) : ∀ whole, isTrue e env whole = (do let v ← whole; standAt e.pos; holding [v] (truthy v)) := by
  intro w
  cases e <;> first | rfl | cases h
def ixOf (l : List Str) (x : Str) : Nat := l.findIdx (fun y => decide (y = x))

/-! ### names -/
def cName (c : SC) (x : Str) (pos : Pos) : CE c (.Name x pos) :=
  if h : c.N[ixOf c.N x]? = some x ∧ (c.sc.names.lookup x = some .local ∨ c.sc.names.lookup x = some .cell ∨ c.sc.names.lookup x = some .free) ∧ (x == ("__debug__" : Str)) = false ∧ (x == ("__classdict__" : Str)) = false then
    ⟨.var (ixOf c.N x), fun g => ev_name (by rw [g.N]; exact h.1) (by unfold Vis; rw [g.sc]; exact h.2.1) h.2.2.1 h.2.2.2⟩
  else match hd : c.cst.lookup x with
    | some d => if h : c.sc.names.lookup x = some .globalImplicit ∧ (x == ("__debug__" : Str)) = false then
        ⟨.cst d, fun {Φ X k} g => by
          obtain ⟨u, v, hm, r, hr⟩ := g.cst x d hd
          exact ev_cst (pe_glob (by show X.env.scope.names.lookup x = _; rw [g.sc]; exact h.1) hm r h.2) hr⟩
      else gE
    | none => gE
def cConst (c : SC) (v : Const) (j : Nat) (pos : Pos) : CE c (.Constant v j pos) := match v with
  | .none => ⟨.cst .non, fun _ => ev_cst pe_non fun _ => .non⟩
  | .bool b => ⟨.cst (.bl b), fun _ => ev_cst pe_bl fun _ => .bl b⟩
  | .int i => ⟨.cst (.int i), fun _ => ev_cst pe_int fun _ => .int i⟩
  | .str x => ⟨.cst (.str x), fun _ => ev_cst pe_str fun _ => .str x⟩
  | _ => gE
def cBin (pos : Pos) (op : Operator) (ra : CE c a) (rb : CE c b) : CE c (.BinOp a op b pos) := match op with
  | .Add => ⟨.bin .add ra.1 rb.1, fun g => ev_bin .add (ra.2 g) (rb.2 g)⟩
  | .Sub => ⟨.bin .sub ra.1 rb.1, fun g => ev_bin .sub (ra.2 g) (rb.2 g)⟩
  | .Mult => ⟨.bin .mul ra.1 rb.1, fun g => ev_bin .mul (ra.2 g) (rb.2 g)⟩
  | .FloorDiv => ⟨.bin .fdiv ra.1 rb.1, fun g => ev_bin .fdiv (ra.2 g) (rb.2 g)⟩
  | .Mod => ⟨.bin .mod ra.1 rb.1, fun g => ev_bin .mod (ra.2 g) (rb.2 g)⟩
  | .Pow => ⟨.bin .pow ra.1 rb.1, fun g => ev_bin .pow (ra.2 g) (rb.2 g)⟩
  | _ => gE
def coOf : (op : CmpOp) → {o : CO // o.op = op}
  | .Eq => ⟨.eq, rfl⟩ | .NotEq => ⟨.ne, rfl⟩ | .Lt => ⟨.lt, rfl⟩ | .LtE => ⟨.le, rfl⟩ | .Gt => ⟨.gt, rfl⟩ | .GtE => ⟨.ge, rfl⟩
  | .Is => ⟨.is_, rfl⟩ | .IsNot => ⟨.isn, rfl⟩ | .In => ⟨.in_, rfl⟩ | .NotIn => ⟨.nin, rfl⟩
variable (f : ∀ (c : SC) (e : Expr), CE c e) (t : ∀ (c : SC) (e : Expr), CT c e)
def cArgs (c : SC) : (es : List Expr) → CA c es
  | [] => ⟨.anil, fun _ => va_nil⟩
  | .Starred a _ :: es => ⟨.astar (f c a).1 (cArgs c es).1, fun g => va_star ((f c a).2 g) ((cArgs c es).2 g)⟩
  | a :: es => if h : notStar a = true then ⟨.acons (f c a).1 (cArgs c es).1, fun g => va_cons ((f c a).2 g) ((cArgs c es).2 g) (star_one h _)⟩ else gA
def cOpt (c : SC) : (o : Option Expr) → CO' c o
  | none => ⟨.gone, fun _ => vo_none⟩
  | some a => ⟨.acons (f c a).1 .anil, fun g => vo_some ((f c a).2 g)⟩
def cIfs (c : SC) : (es : List Expr) → CC c es
  | [] => ⟨.anil, fun _ => ec_nil⟩
  | [a] => ⟨.acons (t c a).1 .anil, fun g => ec_one ((t c a).2 g)⟩
  | _ => gC
def cBool (c : SC) (op : BoolOp) : (es : List Expr) → CB c op es
  | [] => gB
  | [a] => ⟨(f c a).1, fun g => ev_one ((f c a).2 g)⟩
  | a :: b :: r => match op with
    | .And => ⟨.and (f c a).1 (cBool c .And (b :: r)).1, fun g => ev_and ((f c a).2 g) ((cBool c .And (b :: r)).2 g)⟩
    | .Or => ⟨.or (f c a).1 (cBool c .Or (b :: r)).1, fun g => ev_or ((f c a).2 g) ((cBool c .Or (b :: r)).2 g)⟩
def cBoolT (c : SC) (op : BoolOp) : (es : List Expr) → CW c op es
  | [] => gW
  | [a] => ⟨(t c a).1, fun g => ew_one ((t c a).2 g)⟩
  | a :: b :: r => match op with
    | .And => ⟨.and (t c a).1 (cBoolT c .And (b :: r)).1, fun g => ew_and ((t c a).2 g) ((cBoolT c .And (b :: r)).2 g)⟩
    | .Or => ⟨.or (t c a).1 (cBoolT c .Or (b :: r)).1, fun g => ew_or ((t c a).2 g) ((cBoolT c .Or (b :: r)).2 g)⟩
def cTg (c : SC) (x : Str) (pos : Pos) : CG c (.Name x pos) :=
  if h : c.N[ixOf c.N x]? = some x ∧ (c.sc.names.lookup x = some .local ∨ c.sc.names.lookup x = some .cell) ∧ (c.fnB x = true ∨ c.sc.names.lookup x = some .local) then
    ⟨.nm (ixOf c.N x), fun g => eg_name g.g.nd (by rw [g.N]; exact h.1) (by unfold L2.Loc; rw [g.sc]; exact h.2.1) (h.2.2.imp (g.fn x) fun z => by rw [g.sc]; exact z)⟩
  else gG
theorem asg_one (h : notStar a = true) (env : Env) : assignEach (a :: es) env = (false, assign a env) :: assignEach es env := by
  cases a <;> first | rfl | cases h
def cTgs (c : SC) (h : ∀ e, CG c e) : (es : List Expr) → Option (CGs c es)
  | [] => some ⟨.nil, fun _ => ⟨egs_nil, rfl, rfl⟩⟩
  | a :: es => if hs : notStar a = true then match cTgs c h es with
      | some r => some ⟨.cons (h a).1 r.1, fun {Φ X k} g => by
          obtain ⟨h1, h2, h3⟩ := r.2 g
          refine ⟨egs_cons ((h a).2 g) h1 (by rw [asg_one hs]; rfl), by rw [asg_one hs, List.length_cons, h2]; rfl, ?_⟩
          rw [asg_one hs, List.findIdx?_cons, h3]
          rfl⟩
      | none => none
    else none
def cTarget (c : SC) : Nat → (e : Expr) → CG c e
  | 0, _ => gG
  | n + 1, e => match e with
    | .Name x p => cTg c x p
    | .Tuple es kk p => match cTgs c (cTarget c n) es with
      | some r => ⟨.tp r.1, fun {Φ X k} g => by
          obtain ⟨h1, h2, h3⟩ := r.2 g
          exact eg_tup g.g.calm h1 h2 rfl h3⟩
      | none => gG
    | _ => gG

/-! ### what is walked -/
theorem starL1 (h : notStar a = true) (env : Env) : starEach [a] env = [(false, eval a env)] := star_one h env
theorem starL2 (h : notStar a = true) (h' : notStar b = true) (env : Env) : starEach [a, b] env = [(false, eval a env), (false, eval b env)] := by rw [star_one h, star_one h']; rfl
def gl (c : SC) (x : Str) : Bool := match c.sc.names.lookup x with
  | some .globalImplicit => true
  | _ => false
theorem gl_ok {c : SC} {Φ : Nat → Fn} {X : Cx} {k : Nat} {x : Str} (g : GC c Φ X k) (h : gl c x = true) : Gl X x := by
  show X.env.scope.names.lookup x = _
  rw [g.sc]
  unfold gl at h
  split at h
  · assumption
  · cases h
def cItD (c : SC) (tg : Expr) (it : Expr) : CI c tg it := ⟨(f c it).1, fun g => ⟨ei_val ((f c it).2 g), .inl ((f c it).2 g)⟩⟩
def cIter (c : SC) (tg : Expr) (it : Expr) : CI c tg it := match it with
  | .Call (.Name x p) [a] [] pos =>
    if h : x = "range" ∧ gl c x = true ∧ notStar a = true then ⟨.rng (.acons (f c a).1 .anil), fun {Φ X k} g => by
      obtain ⟨rfl, h2, h3⟩ := h
      exact ⟨ei_rng1 (ta := .gone) g.g (gl_ok g h2) ((f c a).2 g) (starL1 h3 _), .inr fun i z => by cases z⟩⟩
    else match tg with
      | .Tuple elts kk tp =>
        if h : x = "enumerate" ∧ gl c x = true ∧ notStar a = true then ⟨.enm (f c a).1, fun {Φ X k} g => by
          obtain ⟨rfl, h2, h3⟩ := h
          exact ⟨ei_enum g.g (gl_ok g h2) ((f c a).2 g) (starL1 h3 _), .inr fun i z => by cases z⟩⟩
        else cItD f c _ _
      | _ => cItD f c _ _
  | .Call (.Name x p) [a, b] [] pos =>
    if h : x = "range" ∧ gl c x = true ∧ notStar a = true ∧ notStar b = true then ⟨.rng (.acons (f c a).1 (.acons (f c b).1 .anil)), fun {Φ X k} g => by
      obtain ⟨rfl, h2, h3, h4⟩ := h
      exact ⟨ei_rng2 g.g (gl_ok g h2) ((f c a).2 g) ((f c b).2 g) (starL2 h3 h4 _) (starL1 h4 _), .inr fun i z => by cases z⟩⟩
    else match tg with
      | .Tuple elts kk tp =>
        if h : x = "zip" ∧ gl c x = true ∧ notStar a = true ∧ notStar b = true then ⟨.zip (f c a).1 (f c b).1, fun {Φ X k} g => by
          obtain ⟨rfl, h2, h3, h4⟩ := h
          exact ⟨ei_zip g.g (gl_ok g h2) ((f c a).2 g) ((f c b).2 g) (star_one h3 _) (star_one h4 _) (star_none _ _ (by simp [noStars, h4])), .inr fun i z => by cases z⟩⟩
        else cItD f c _ _
      | _ => cItD f c _ _
  | _ => cItD f c _ _

/-! ### comprehensions -/
def ownOf (N : List Str) (scope : Scope) : List (Str × Nat) := scope.names.filterMap fun y => match y.2 with
  | .local => if N.contains y.1 then some (y.1, ixOf N y.1) else none
  | .cell => if N.contains y.1 then some (y.1, ixOf N y.1) else none
  | _ => none
def SC.inner (c : SC) (scope : Scope) : SC := { c with sc := relS scope c.sc, fnB := fun x => scope.names.lookup x == some .cell }
theorem GC.inner {c : SC} {Φ : Nat → Fn} {X : Cx} {k : Nat} (g : GC c Φ X k) (scope : Scope) (s : Shared) (H : Hp) (C : Addr) (cl : List (Str × Addr)) (fp : List Addr) : GC (c.inner scope) Φ (X.blk s H scope (compEnvC scope cl C X.env) fp) k where
  g := ⟨g.g.calm, g.g.nd, g.g.room, g.g.gd, g.g.blt, g.g.fns⟩
  sc := by
    show relabel scope X.env = relS scope c.sc
    rw [← g.sc]
    rfl
  N := g.N
  fn := fun x h => h
  cst := g.cst
structure LcOk (c : SC) (scope : Scope) (et : T) (iter : Expr) : Prop where
  blk : blkC c.N c.sc scope (ownOf c.N scope) = true
  tgs : et.slots.all (fun j => ((ownOf c.N scope).map (·.2)).contains j) = true
  set : notSet iter = true
def lcOk (c : SC) (scope : Scope) (et : T) (iter : Expr) : Bool := blkC c.N c.sc scope (ownOf c.N scope) && et.slots.all (fun j => ((ownOf c.N scope).map (·.2)).contains j) && notSet iter
theorem lcOk_ok {c : SC} {scope : Scope} {et : T} {iter : Expr} (h : lcOk c scope et iter = true) : LcOk c scope et iter := by
  simp only [lcOk, Bool.and_eq_true] at h
  exact ⟨h.1.1, h.1.2, h.2⟩
theorem LcOk.blkOk {c : SC} {Φ : Nat → Fn} {X : Cx} {k : Nat} {scope : Scope} {et : T} {iter : Expr} (h : LcOk c scope et iter) (g : GC c Φ X k) : BlkOk X.N X.env.scope scope (ownOf c.N scope) := by
  rw [g.N, g.sc]
  exact blkOk_by h.blk
theorem LcOk.slots {c : SC} {scope : Scope} {et : T} {iter : Expr} (h : LcOk c scope et iter) : ∀ j ∈ et.slots, j ∈ (ownOf c.N scope).map (·.2) := fun j hj => by
  have := List.all_eq_true.mp h.tgs j hj
  exact List.contains_iff_mem.mp this
def cLc (c : SC) (elt : Expr) (tg iter : Expr) (ifs : List Expr) (scope : Scope) (pos : Pos) : CE c (.ListComp elt [⟨tg, iter, ifs, 0⟩] scope pos) :=
  let ri := cIter f c tg iter
  let rt := cTarget (c.inner scope) 4 tg
  let rc := cIfs t (c.inner scope) ifs
  let re := f (c.inner scope) elt
  if h : lcOk c scope rt.1 iter = true then ⟨.lc ((ownOf c.N scope).map (·.2)) rt.1 ri.1 rc.1 re.1, fun {Φ X k} g => by
    have L := lcOk_ok h
    obtain ⟨h1, h2⟩ := ri.2 g
    rcases h2 with h2 | h2
    · exact ev_lc g.g h1 h2 (L.blkOk g) L.slots (fun s H C cl fp => rt.2 (g.inner scope s H C cl fp)) (fun s H C cl fp => rc.2 (g.inner scope s H C cl fp)) (fun s H C cl fp => re.2 (g.inner scope s H C cl fp)) (folded L.set _)
    · exact ev_lc1 g.g h1 h2 (L.blkOk g) L.slots (fun s H C cl fp => rt.2 (g.inner scope s H C cl fp)) (fun s H C cl fp => rc.2 (g.inner scope s H C cl fp)) (fun s H C cl fp => re.2 (g.inner scope s H C cl fp)) (folded L.set _)⟩
  else gE

/-! ### calls -/
def biOf : List BI := [.len, .sum, .all, .any, .int, .abs, .list, .tuple, .sorted, .repr]
theorem biOf_nisi {b : BI} (h : b ∈ biOf) : ∀ t, b ≠ .isi t := fun t z => by subst z; simp [biOf] at h
def isNames : List String := ["int", "bool", "str", "tuple", "list"]
theorem boot_ty : ∀ s ∈ isNames, bootBuiltins (Str.ofString s) = some (.type s) ∧ Str.ofString s ≠ "__name__" ∧ (Str.ofString s == ("__debug__" : Str)) = false ∧ Str.ofString s ∈ (["len", "sum", "all", "any", "int", "abs", "list", "tuple", "sorted", "max", "min", "repr", "isinstance", "range", "enumerate", "zip", "bool", "str", "dict"] : List Str) := by decide +kernel
def cBi (c : SC) (b : BI) (hn : ∀ t, b ≠ .isi t) (x : Str) (p : Pos) (a : Expr) (es : List Expr) (pos : Pos) : CE c (.Call (.Name x p) (a :: es) [] pos) :=
  if h : x = b.name ∧ gl c x = true ∧ notStar a = true ∧ noStars es = true then ⟨.bi b (cArgs f c (a :: es)).1, fun {Φ X k} g => by
    obtain ⟨rfl, h2, h3, h4⟩ := h
    exact ev_bi b g.g hn (gl_ok g h2) ((cArgs f c (a :: es)).2 g) (star_one h3 _) (star_none _ _ h4)⟩
  else gE
def findBi (x : Str) : List BI → Option BI
  | [] => none
  | b :: bs => if b.name = x then some b else findBi x bs
theorem findBi_mem {x : Str} {b : BI} : ∀ {l : List BI}, findBi x l = some b → b ∈ l
  | b' :: bs, h => by
    unfold findBi at h
    split at h
    · cases h; exact List.mem_cons_self
    · exact List.mem_cons_of_mem _ (findBi_mem h)
def findTy (x : Str) : List String → Option String
  | [] => none
  | b :: bs => if Str.ofString b = x then some b else findTy x bs
theorem findTy_mem {x : Str} {b : String} : ∀ {l : List String}, findTy x l = some b → b ∈ l ∧ Str.ofString b = x
  | b' :: bs, h => by
    unfold findTy at h
    split at h
    · rename_i e; cases h; exact ⟨List.mem_cons_self, e⟩
    · exact ⟨List.mem_cons_of_mem _ (findTy_mem h).1, (findTy_mem h).2⟩
/-- a def's call -/
def cDef (c : SC) (x : Str) (p : Pos) (es : List Expr) (pos : Pos) : CE c (.Call (.Name x p) es [] pos) :=
  if h : c.nms[ixOf c.nms x]? = some x ∧ gl c x = true ∧ (x == ("__debug__" : Str)) = false ∧ noStars es = true then match es with
    | [] => ⟨.call (ixOf c.nms x) .anil, fun g => ev_call0 (ees := .gone) g.g h.1 (gl_ok g h.2.1) h.2.2.1⟩
    | a :: r => ⟨.call (ixOf c.nms x) (cArgs f c (a :: r)).1, fun {Φ X k} g => by
        have hs := h.2.2.2
        simp only [noStars, List.all_cons, Bool.and_eq_true] at hs
        exact ev_call g.g h.1 (gl_ok g h.2.1) ((cArgs f c (a :: r)).2 g) h.2.2.1 (star_one hs.1 _) (star_none _ _ hs.2)⟩
  else gE
def cMax (c : SC) (x : Str) (p : Pos) (a b : Expr) (pos : Pos) : CE c (.Call (.Name x p) [a, b] [] pos) :=
  if x = "max" then cBi f c .max2 (fun t z => by cases z) x p a [b] pos else if x = "min" then cBi f c .min2 (fun t z => by cases z) x p a [b] pos else cDef f c x p [a, b] pos
def cMax1 (c : SC) (x : Str) (p : Pos) (a : Expr) (pos : Pos) : CE c (.Call (.Name x p) [a] [] pos) :=
  if x = "max" then cBi f c .max1 (fun t z => by cases z) x p a [] pos else if x = "min" then cBi f c .min1 (fun t z => by cases z) x p a [] pos else cDef f c x p [a] pos
def cCall (c : SC) (x : Str) (p : Pos) (es : List Expr) (pos : Pos) : CE c (.Call (.Name x p) es [] pos) := match es with
  | [] => cDef f c x p [] pos
  | [a] => match hb : findBi x biOf with
    | some .list => match a with
      | .Call (.Name y p1) [a1] [] p2 => if h : x = "list" ∧ y = "range" ∧ gl c x = true ∧ gl c y = true ∧ notStar a1 = true then ⟨.lrng (.acons (f c a1).1 .anil), fun {Φ X k} g => by
            obtain ⟨rfl, rfl, h3, h4, h5⟩ := h
            exact ev_lrng1 g.g (gl_ok g h3) (gl_ok g h4) ((f c a1).2 g) (star_one h5 _) rfl⟩
          else cBi f c .list (fun t z => by cases z) x p _ [] pos
      | .Call (.Name y p1) [a1, a2] [] p2 => if h : x = "list" ∧ y = "range" ∧ gl c x = true ∧ gl c y = true ∧ notStar a1 = true ∧ notStar a2 = true then ⟨.lrng (.acons (f c a1).1 (.acons (f c a2).1 .anil)), fun {Φ X k} g => by
            obtain ⟨rfl, rfl, h3, h4, h5, h6⟩ := h
            exact ev_lrng2 g.g (gl_ok g h3) (gl_ok g h4) ((f c a1).2 g) ((f c a2).2 g) (star_one h5 _) (star_one h6 _) (star_none _ _ (by simp [noStars, h6])) rfl⟩
          else cBi f c .list (fun t z => by cases z) x p _ [] pos
      | a => cBi f c .list (fun t z => by cases z) x p a [] pos
    | some b => cBi f c b (biOf_nisi (findBi_mem hb)) x p a [] pos
    | none => cMax1 f c x p a pos
  | [a, b] => match b with
    | .Name y py => if x = "isinstance" then match ht : findTy y isNames with
        | some s => if h : x = "isinstance" ∧ gl c x = true ∧ gl c (Str.ofString s) = true ∧ notStar a = true then ⟨.bi (.isi s) (.acons (f c a).1 .anil), fun {Φ X k} g => by
              obtain ⟨rfl, h2, h3, h4⟩ := h
              obtain ⟨hm, rfl⟩ := findTy_mem ht
              obtain ⟨b1, b2, b3, b4⟩ := boot_ty s hm
              exact ev_isi s g.g (gl_ok g h2) (gl_ok g h3) (g.g.blt _ b4) b1 b2 b3 ((f c a).2 g) (star_one h4 _)⟩
            else gE
        | none => gE
      else cMax f c x p a (.Name y py) pos
    | .List [] p2 => if h : x = "sum" ∧ gl c x = true ∧ notStar a = true then ⟨.sumL (f c a).1, fun {Φ X k} g => by
          obtain ⟨rfl, h2, h3⟩ := h
          exact ev_sumL g.g (gl_ok g h2) ((f c a).2 g) (star_one h3 _)⟩
        else cMax f c x p a (.List [] p2) pos
    | b => cMax f c x p a b pos
  | a :: b :: d :: r => cDef f c x p (a :: b :: d :: r) pos
theorem m2_get {o a b : Expr} {apos cpos : Pos} {X : Cx} (ho : isName o = true) (ha : notStar a = true) (hb : notStar b = true) (hl : (apos.endLine == cpos.line) = true) : M2 X o "get" apos a b cpos := by
  refine ⟨base_name ho _ _ _, ?_, hl, ?_⟩
  · rw [star_one ha, star_one hb]; rfl
  · rw [star_one ha, star_one hb]; rfl
def cMeth (c : SC) (o : Expr) (m : Str) (apos : Pos) (es : List Expr) (pos : Pos) : CE c (.Call (.Attribute o m apos) es [] pos) :=
  if hl : (apos.endLine == pos.line) = true ∧ isName o = true then match es with
    | [] => if hm : m = "pop" then ⟨.mth .pop (f c o).1 .anil, fun {Φ X k} g => by
          subst hm
          exact ev_pop ((f c o).2 g) (base_name hl.2 _ _ _) hl.1⟩ else gE
    | [a] => if hs : notStar a = true then
        if hm : m = "append" then ⟨.mth .append (f c o).1 (cArgs f c [a]).1, fun {Φ X k} g => by
          subst hm
          exact ev_append ((f c o).2 g) ((cArgs f c [a]).2 g) (base_name hl.2 _ _ _) (few_one hs _) hl.1 (star_one hs _)⟩
        else if hm : m = "extend" then ⟨.mth .extend (f c o).1 (cArgs f c [a]).1, fun {Φ X k} g => by
          subst hm
          exact ev_extend ((f c o).2 g) ((cArgs f c [a]).2 g) (base_name hl.2 _ _ _) (few_one hs _) hl.1 (star_one hs _)⟩
        else if hm : m = "pop" then ⟨.mth .popAt (f c o).1 (cArgs f c [a]).1, fun {Φ X k} g => by
          subst hm
          exact ev_popAt ((f c o).2 g) ((cArgs f c [a]).2 g) (base_name hl.2 _ _ _) (few_one hs _) hl.1 (star_one hs _)⟩
        else if hm : m = "count" then ⟨.cnt (f c o).1 (f c a).1, fun {Φ X k} g => by
          subst hm
          exact ev_cnt ((f c o).2 g) ((f c a).2 g) (base_name hl.2 _ _ _) (few_one hs _) hl.1 (star_one hs _)⟩
        else gE
      else gE
    | [a, b] => if hm : m = "get" ∧ notStar a = true ∧ notStar b = true then ⟨.dget (f c o).1 (f c a).1 (f c b).1, fun {Φ X k} g => by
          obtain ⟨rfl, h2, h3⟩ := hm
          exact ev_dget g.g.hu ((f c o).2 g) ((f c a).2 g) ((f c b).2 g) (m2_get hl.2 h2 h3 hl.1)⟩ else gE
    | _ => gE
  else gE

/-! ### one step -/
def stepE (c : SC) : (e : Expr) → CE c e
  | .Name x p => cName c x p
  | .Constant v j p => cConst c v j p
  | .BinOp a op b p => cBin p op (f c a) (f c b)
  | .UnaryOp .USub a p => ⟨.neg (f c a).1, fun g => ev_neg ((f c a).2 g)⟩
  | .UnaryOp .Not a p => ⟨.not (f c a).1, fun g => ev_not ((f c a).2 g)⟩
  | .BoolOp op es p => ⟨(cBool f c op es).1, fun g => (cBool f c op es).2 g⟩
  | .IfExp q a b p => ⟨.ite (t c q).1 (f c a).1 (f c b).1, fun g => ev_ite ((t c q).2 g) ((f c a).2 g) ((f c b).2 g)⟩
  | .Compare a [op] [b] p => if h : behindInMarks op b = false then ⟨.cmp (coOf op).1 (f c a).1 (f c b).1, fun {Φ X k} g => by
        have e := (coOf op).2
        have r := ev_cmp (pos := p) (coOf op).1 g.g.hu ((f c a).2 g) ((f c b).2 g) (by rw [e]; exact h)
        rw [e] at r
        exact r⟩
      else gE
  | .Compare a [op, op'] [b, d] p => if h : lastMarks [op, op'] [b, d] = false then ⟨.chn (coOf op).1 (coOf op').1 (f c a).1 (f c b).1 (f c d).1, fun {Φ X k} g => by
        have e := (coOf op).2
        have e' := (coOf op').2
        have r := ev_chn (pos := p) (coOf op).1 (coOf op').1 g.g.hu ((f c a).2 g) ((f c b).2 g) ((f c d).2 g) (by rw [e, e']; exact h)
        rw [e, e'] at r
        exact r⟩
      else gE
  | .Tuple es kk p => ⟨.tup (cArgs f c es).1, fun g => ev_tup ((cArgs f c es).2 g)⟩
  | .List es p => ⟨.lst (cArgs f c es).1, fun g => ev_lst ((cArgs f c es).2 g)⟩
  | .Dict [] [] p => if c.dt p then ⟨.dnew true, fun _ => ev_dnewT⟩ else ⟨.dnew false, fun _ => ev_dnewK⟩
  | .Subscript a (.Slice lo hi none p2) p => ⟨.slc (f c a).1 (cOpt f c lo).1 (cOpt f c hi).1, fun g => ev_slc ((f c a).2 g) ((cOpt f c lo).2 g) ((cOpt f c hi).2 g)⟩
  | .Subscript a b p => if h : notSl b = true then ⟨.ix (f c a).1 (f c b).1, fun g => ev_ix g.g.hu ((f c a).2 g) ((f c b).2 g) (plain_ix h) (no_sl h)⟩ else gE
  | .ListComp elt [⟨tg, iter, ifs, 0⟩] scope p => cLc f t c elt tg iter ifs scope p
  | .Call (.Name x p0) es [] p => cCall f c x p0 es p
  | .Call (.Attribute o m ap) es [] p => cMeth f c o m ap es p
  | _ => gE
def stepT (c : SC) : (e : Expr) → CT c e
  | .UnaryOp .Not a p => ⟨.not (t c a).1, fun g => et_not ((t c a).2 g)⟩
  | .BoolOp op es p => ⟨(cBoolT t c op es).1, fun g => ((cBoolT t c op es).2 g).pt⟩
  | .Compare a [op] [b] p => if h : behindInMarks op b = false then ⟨.cmp (coOf op).1 (f c a).1 (f c b).1, fun {Φ X k} g => by
        have e := (coOf op).2
        have r := et_cmp (pos := p) (coOf op).1 g.g.hu ((f c a).2 g) ((f c b).2 g) (by rw [e]; exact h)
        rw [e] at r
        exact r⟩
      else gT
  | .Compare a [op, op'] [b, d] p => if h : lastMarks [op, op'] [b, d] = false then ⟨.chn (coOf op).1 (coOf op').1 (f c a).1 (f c b).1 (f c d).1, fun {Φ X k} g => by
        have e := (coOf op).2
        have e' := (coOf op').2
        have r := et_chn (pos := p) (coOf op).1 (coOf op').1 g.g.hu ((f c a).2 g) ((f c b).2 g) ((f c d).2 g) (by rw [e, e']; exact h)
        rw [e, e'] at r
        exact r⟩
      else gT
  | e => if h : plainT e = true then ⟨(f c e).1, fun g => et_val ((f c e).2 g) (true_plain h _)⟩ else gT
end
def cET : Nat → (∀ (c : SC) (e : Expr), CE c e) × (∀ (c : SC) (e : Expr), CT c e)
  | 0 => (fun _ _ => gE, fun _ _ => gT)
  | n + 1 => (fun c e => stepE (cET n).1 (cET n).2 c e, fun c e => stepT (cET n).1 (cET n).2 c e)
end Mi

/-! Mi17: statements from the text's tree. -/
namespace Mi
open PySem PySem.Spec PyProof.Rows L2

abbrev HP (X : Cx) : Prop := PassesOwn (model X.prog X.w) X.A X.env X.xe
abbrev CS (c : SC) (st : Stmt) := {s : S // ∀ {Φ : Nat → Fn} {X : Cx} {k : Nat}, GC c Φ X k → HP X → PS X st (tS X.K Φ s)}
abbrev CSs (c : SC) (sts : List Stmt) := {s : S // ∀ {Φ : Nat → Fn} {X : Cx} {k : Nat}, GC c Φ X k → HP X → PSs X sts (tS X.K Φ s)}
section
variable {c : SC} {Φ : Nat → Fn} {X : Cx} {k : Nat} {e a b d v : Expr} {es ts : List Expr} {pos p0 : Pos} {st : Stmt} {sts : List Stmt}
def gS : CS c st := ⟨.never, fun _ _ => es_never⟩
def gSs : CSs c sts := ⟨.never, fun _ _ => es_nevers⟩
def notComp : Expr → Bool
  | .ListComp _ _ _ _ => false
  | .SetComp _ _ _ _ => false
  | .DictComp _ _ _ _ _ => false
  | _ => true
theorem sw_not (h : notComp v = true) (o : Option Expr) (l : Nat) (env : Env) : swapsWith v o l env = pure false := by
  cases v <;> first | rfl | cases h
theorem sw_cell {elt : Expr} {gs : List Comprehension} {scope : Scope} {pos py : Pos} {y : Str} {l : Nat} {env : Env} (hy : env.scope.names.lookup y = some .cell) : swapsWith (.ListComp elt gs scope pos) (some (.Name y py)) l env = pure false := by
  have ky : env.kindOf y = some .cell := hy
  unfold swapsWith
  simp [ky, show (NameKind.cell == NameKind.local) = false from rfl]
theorem sole_not (h : notComp v = true) (tg : Expr) (l : Nat) (env : Env) : swapsWithSole [tg] v l env = pure false := sw_not h _ _ _
def notTup : Expr → Bool
  | .Tuple _ _ _ => false
  | _ => true
theorem st_noT {kt : Nat} {pt : Pos} (h : notTup v = true) (env : Env) : swappedStores [.Tuple ts kt pt] v env = pure none := by
  cases v <;> first | rfl | cases h
theorem st_sub {o i : Expr} {p : Pos} (env : Env) : swappedStores [.Subscript o i p] v env = pure none := by
  unfold swappedStores
  cases v <;> rfl
theorem bk_fun {env : Env} (hk : env.scope.kind = .function) : env.blockKind = .function := by unfold Env.blockKind; rw [hk]; rfl
theorem starF : (a : Expr) → (match a with | .Starred _ _ => true | _ => false) = true → notStar a = false := by
  intro a h
  cases a <;> first | rfl | cases h
theorem line_eq {p q : Pos} (h : (p.line == q.line) = true) : p.line = q.line := by simpa using h
theorem st_two {x y : Str} {px py pt pt2 : Pos} {kt k2 : Nat} {env : Env} (hk : env.scope.kind = .function) (hx : env.scope.names.lookup x = some .local) (hy : env.scope.names.lookup y = some .local) (hl : (py.line == px.line) = true) (hne : x ≠ y) (ha : notStar a = true) (hb : notStar b = true)
    (hf : (foldedForSure 8 a && foldedForSure 8 b) = false) (hc : (constantsAlone 8 a && constantsAlone 8 b) = false) : swappedStores [.Tuple [.Name x px, .Name y py] kt pt] (.Tuple [a, b] k2 pt2) env = pure (some [x, y]) := by
  have kx : env.kindOf x = some .local := hx
  have ky : env.kindOf y = some .local := hy
  have hf2 : ¬ (foldedForSure 8 a = true ∧ foldedForSure 8 b = true) := fun z => by rw [z.1, z.2] at hf; cases hf
  have hc2 : ¬ (constantsAlone 8 a = true ∧ constantsAlone 8 b = true) := fun z => by rw [z.1, z.2] at hc; cases hc
  unfold swappedStores
  simp [bk_fun hk, kx, ky, Expr.pos, line_eq hl, List.filterMap_cons, List.eraseDups_cons, hne, Ne.symm hne, hf2, hc2]
  intro h
  rcases h with h | h
  · exact absurd (ha.symm.trans (starF _ h)) (by decide)
  · exact absurd (hb.symm.trans (starF _ h)) (by decide)
theorem st_three {x y z : Str} {px py pz pt pt2 : Pos} {kt k2 : Nat} {env : Env} (hk : env.scope.kind = .function) (hx : env.scope.names.lookup x = some .local) (hy : env.scope.names.lookup y = some .local) (hz : env.scope.names.lookup z = some .local) (hl : (py.line == px.line) = true) (hl2 : (pz.line == px.line) = true)
    (hxy : x ≠ y) (hxz : x ≠ z) (hyz : y ≠ z) (ha : notStar a = true) (hb : notStar b = true) (hd : notStar d = true)
    (hf : (foldedForSure 8 a && foldedForSure 8 b && foldedForSure 8 d) = false) (hc : (constantsAlone 8 a && constantsAlone 8 b && constantsAlone 8 d) = false) : swappedStores [.Tuple [.Name x px, .Name y py, .Name z pz] kt pt] (.Tuple [a, b, d] k2 pt2) env = pure (some [x, y, z]) := by
  have kx : env.kindOf x = some .local := hx
  have ky : env.kindOf y = some .local := hy
  have kz : env.kindOf z = some .local := hz
  have hf2 : ¬ (foldedForSure 8 a = true ∧ foldedForSure 8 b = true ∧ foldedForSure 8 d = true) := fun z => by rw [z.1, z.2.1, z.2.2] at hf; cases hf
  have hc2 : ¬ (constantsAlone 8 a = true ∧ constantsAlone 8 b = true ∧ constantsAlone 8 d = true) := fun z => by rw [z.1, z.2.1, z.2.2] at hc; cases hc
  unfold swappedStores
  simp [bk_fun hk, kx, ky, kz, Expr.pos, line_eq hl, line_eq hl2, List.filterMap_cons, List.eraseDups_cons, hxy, hxz, hyz, Ne.symm hxy, Ne.symm hxz, Ne.symm hyz, hf2, hc2]
  intro h
  rcases h with h | h | h
  · exact absurd (ha.symm.trans (starF _ h)) (by decide)
  · exact absurd (hb.symm.trans (starF _ h)) (by decide)
  · exact absurd (hd.symm.trans (starF _ h)) (by decide)
/-- stored through the tuple -/
theorem st_two0 {x y : Str} {px py pt pt2 : Pos} {kt k2 : Nat} {env : Env} (h : env.scope.names.lookup x ≠ some .local ∨ env.scope.names.lookup y ≠ some .local ∨ (foldedForSure 8 a && foldedForSure 8 b) = true) : swappedStores [.Tuple [.Name x px, .Name y py] kt pt] (.Tuple [a, b] k2 pt2) env = pure none := by
  have hx : ∀ z, env.scope.names.lookup z ≠ some .local → (env.kindOf z == some .local) = false := fun z hz => by
    unfold Env.kindOf
    cases e : env.scope.names.lookup z with
    | none => rfl
    | some q =>
      rw [e] at hz
      cases q <;> first | rfl | exact absurd rfl hz
  have hlen : (env.kindOf x == some .local) = false ∨ (env.kindOf y == some .local) = false → ∀ l, ([Expr.Name x px, Expr.Name y py].filterMap fun e => match e with
      | .Name id pos => if env.kindOf id == some .local && pos.line == l then some id else none
      | _ => none).length ≠ 2 := by
    intro h l
    rcases h with h | h
    · simp only [List.filterMap_cons, h, Bool.false_and, List.filterMap_nil, Bool.false_eq_true, if_false]
      split <;> simp
    · simp only [List.filterMap_cons, h, Bool.false_and, List.filterMap_nil, Bool.false_eq_true, if_false]
      split <;> simp
  have hno : (env.kindOf x == some .local) = false ∨ (env.kindOf y == some .local) = false ∨ ([a, b].all (foldedForSure 8)) = true := by
    rcases h with h | h | h
    · exact .inl (hx _ h)
    · exact .inr (.inl (hx _ h))
    · exact .inr (.inr (by simpa using h))
  unfold swappedStores
  dsimp only
  split
  · rfl
  · split
    · rfl
    · split
      · rfl
      · rename_i hn
        rcases hno with h | h | h
        · refine absurd ?_ hn
          rw [Bool.or_eq_true]
          exact .inl (bne_iff_ne.mpr (hlen (.inl h) _))
        · refine absurd ?_ hn
          rw [Bool.or_eq_true]
          exact .inl (bne_iff_ne.mpr (hlen (.inr h) _))
        · rw [if_pos h]
theorem st_many {kt k2 : Nat} {pt pt2 : Pos} {env : Env} (h : (ts.length == 2 || ts.length == 3) = false) : swappedStores [.Tuple ts kt pt] (.Tuple es k2 pt2) env = pure none := by
  unfold swappedStores
  dsimp only
  rw [if_pos (by rw [h]; rfl)]

/-! ### the pieces -/
def isFun (c : SC) : Bool := match c.sc.kind with
  | .function => true
  | _ => false
theorem isFun_ok {c : SC} {Φ : Nat → Fn} {X : Cx} {k : Nat} (g : GC c Φ X k) (h : isFun c = true) : X.env.scope.kind = .function := by
  rw [g.sc]
  unfold isFun at h
  split at h
  · assumption
  · cases h
abbrev locX (c : SC) (x : Str) : Prop := c.N[ixOf c.N x]? = some x ∧ c.sc.names.lookup x = some .local
variable (f : ∀ (c : SC) (e : Expr), CE c e) (t : ∀ (c : SC) (e : Expr), CT c e)
def cSet (c : SC) (x : Str) (p' : Pos) (v : Expr) (pos : Pos) : CS c (.Assign [.Name x p'] v pos) :=
  if h : c.N[ixOf c.N x]? = some x ∧ (c.sc.names.lookup x = some .local ∨ c.sc.names.lookup x = some .cell) ∧ (c.fnB x = true ∨ c.sc.names.lookup x = some .local) ∧ (notComp v = true ∨ ((match v with | .ListComp _ _ _ _ => true | _ => false) = true ∧ c.sc.names.lookup x = some .cell)) then
    ⟨.asg (.nm (ixOf c.N x)) (f c v).1, fun {Φ X k} g _ => es_set g.g.nd (by rw [g.N]; exact h.1) (by unfold L2.Loc; rw [g.sc]; exact h.2.1) ((f c v).2 g) (by
      rcases h.2.2.2 with z | ⟨z, w⟩
      · exact sw_not z _ _ _
      · cases v <;> first | exact sw_cell (by rw [g.sc]; exact w) | cases z) (h.2.2.1.imp (g.fn x) fun z => by rw [g.sc]; exact z)⟩
  else gS
structure SwOk (c : SC) (y : Str) (py pos : Pos) (scope : Scope) : Prop where
  fn : isFun c = true
  loc : locX c y
  line : (py.line == pos.line) = true
  nown : (scope.names.any fun (n, k) => n == y && (k == .local || k == .cell)) = false
def cSetLc (c : SC) (y : Str) (py : Pos) (elt tg iter : Expr) (ifs : List Expr) (scope : Scope) (pos spos : Pos) : CS c (.Assign [.Name y py] (.ListComp elt [⟨tg, iter, ifs, 0⟩] scope pos) spos) :=
  let ri := cIter f c tg iter
  let rt := cTarget (c.inner scope) 4 tg
  let rc := cIfs t (c.inner scope) ifs
  let re := f (c.inner scope) elt
  if h : lcOk c scope rt.1 iter = true ∧ isFun c = true ∧ locX c y ∧ (py.line == pos.line) = true ∧ (scope.names.any fun (n, k) => n == y && (k == .local || k == .cell)) = false then
    ⟨.asg (.nm (ixOf c.N y)) (.lc ((ownOf c.N scope).map (·.2)) rt.1 ri.1 rc.1 re.1), fun {Φ X k} g _ => by
      obtain ⟨h0, h1, h2, h3, h4⟩ := h
      have L := lcOk_ok h0
      obtain ⟨i1, i2⟩ := ri.2 g
      have hl : X.env.scope.names.lookup y = some .local := by rw [g.sc]; exact h2.2
      exact es_setLc g.g (by rw [g.N]; exact h2.1) hl (sw_true (isFun_ok g h1) hl h3 h4) i1 i2 (L.blkOk g) L.slots (fun s H C cl fp => rt.2 (g.inner scope s H C cl fp)) (fun s H C cl fp => rc.2 (g.inner scope s H C cl fp)) (fun s H C cl fp => re.2 (g.inner scope s H C cl fp)) (folded L.set _)⟩
  else cSet f c y py _ spos
/-- a, b = x, y -/
def gnames (c : SC) : (ts : List Expr) → Option {is : List Nat // ∀ {Φ : Nat → Fn} {X : Cx} {k : Nat}, GC c Φ X k → PGs X ts (gNames is) ∧ (assignEach ts X.env).length = is.length ∧ (assignEach ts X.env).findIdx? (·.1) = none}
  | [] => some ⟨[], fun _ => ⟨pgs_nil, rfl, rfl⟩⟩
  | .Name x p :: ts => if h : c.N[ixOf c.N x]? = some x ∧ (c.sc.names.lookup x = some .local ∨ c.sc.names.lookup x = some .cell) ∧ (c.fnB x = true ∨ c.sc.names.lookup x = some .local) then match gnames c ts with
      | some r => some ⟨ixOf c.N x :: r.1, fun {Φ X k} g => by
          obtain ⟨h1, h2, h3⟩ := r.2 g
          refine ⟨pgs_cons (pg_name g.g.nd (by rw [g.N]; exact h.1) (by unfold L2.Loc; rw [g.sc]; exact h.2.1) (h.2.2.imp (g.fn x) fun z => by rw [g.sc]; exact z)) h1 rfl, ?_, ?_⟩
          · show (assignEach ts X.env).length + 1 = _
            rw [h2]; rfl
          · show List.findIdx? _ ((false, assign (.Name x p) X.env) :: assignEach ts X.env) = none
            rw [List.findIdx?_cons, h3]; rfl⟩
      | none => none
    else none
  | _ => none
def cParG (c : SC) (ts : List Expr) (kt : Nat) (pt : Pos) (es : List Expr) (k2 : Nat) (pt2 pos : Pos) (hs : ∀ {Φ : Nat → Fn} {X : Cx} {k : Nat}, GC c Φ X k → swappedStores [.Tuple ts kt pt] (.Tuple es k2 pt2) X.env = pure none) : CS c (.Assign [.Tuple ts kt pt] (.Tuple es k2 pt2) pos) :=
  match gnames c ts with
  | some r => if h : r.1.length ≤ lim then ⟨.par r.1 (cArgs f c es).1, fun {Φ X k} g _ => by
      obtain ⟨h1, h2, h3⟩ := r.2 g
      exact es_parG g.g.calm ((cArgs f c es).2 g) h1 h2 h3 h rfl (hs g) rfl⟩ else gS
  | none => gS
def cPar2 (c : SC) (x y : Str) (px py : Pos) (kt : Nat) (pt : Pos) (a b : Expr) (k2 : Nat) (pt2 pos : Pos) : CS c (.Assign [.Tuple [.Name x px, .Name y py] kt pt] (.Tuple [a, b] k2 pt2) pos) :=
  if h : c.sc.names.lookup x ≠ some .local ∨ c.sc.names.lookup y ≠ some .local ∨ (foldedForSure 8 a && foldedForSure 8 b) = true then cParG f c _ kt pt _ k2 pt2 pos (fun {Φ X k} g => st_two0 (by rw [g.sc]; exact h))
  else if h2 : isFun c = true ∧ c.N[ixOf c.N x]? = some x ∧ c.N[ixOf c.N y]? = some y ∧ (py.line == px.line) = true ∧ x ≠ y ∧ notStar a = true ∧ notStar b = true ∧ (constantsAlone 8 a && constantsAlone 8 b) = false then
    ⟨.par [ixOf c.N x, ixOf c.N y] (cArgs f c [a, b]).1, fun {Φ X k} g _ => by
      obtain ⟨e1, e2⟩ := not_or.mp h
      obtain ⟨e2, e3⟩ := not_or.mp e2
      obtain ⟨h1, h2, h3, h4, h5, h6, h7, h8⟩ := h2
      have lx : X.env.scope.names.lookup x = some .local := by rw [g.sc]; exact Decidable.not_not.mp e1
      have ly : X.env.scope.names.lookup y = some .local := by rw [g.sc]; exact Decidable.not_not.mp e2
      have e3 := eq_false_of_ne_true e3
      exact es_par2 g.g.calm g.g.nd (by rw [g.N]; exact h2) (by rw [g.N]; exact h3) (fun z => h5 (by rw [z, h3] at h2; exact (Option.some.inj h2).symm)) lx ly ((cArgs f c [a, b]).2 g) (st_two (isFun_ok g h1) lx ly h4 h5 h6 h7 e3 h8) rfl⟩
  else gS
def cPar3 (c : SC) (x y z : Str) (px py pz : Pos) (kt : Nat) (pt : Pos) (a b d : Expr) (k2 : Nat) (pt2 pos : Pos) : CS c (.Assign [.Tuple [.Name x px, .Name y py, .Name z pz] kt pt] (.Tuple [a, b, d] k2 pt2) pos) :=
  if h2 : isFun c = true ∧ locX c x ∧ locX c y ∧ locX c z ∧ (py.line == px.line) = true ∧ (pz.line == px.line) = true ∧ x ≠ y ∧ x ≠ z ∧ y ≠ z ∧ notStar a = true ∧ notStar b = true ∧ notStar d = true ∧ (foldedForSure 8 a && foldedForSure 8 b && foldedForSure 8 d) = false ∧ (constantsAlone 8 a && constantsAlone 8 b && constantsAlone 8 d) = false then
    ⟨.par [ixOf c.N x, ixOf c.N y, ixOf c.N z] (cArgs f c [a, b, d]).1, fun {Φ X k} g _ => by
      obtain ⟨h1, h2, h3, h4, h5, h6, h7, h8, h9, h10, h11, h12, h13, h14⟩ := h2
      have lx : X.env.scope.names.lookup x = some .local := by rw [g.sc]; exact h2.2
      have ly : X.env.scope.names.lookup y = some .local := by rw [g.sc]; exact h3.2
      have lz : X.env.scope.names.lookup z = some .local := by rw [g.sc]; exact h4.2
      exact es_par3 g.g.calm g.g.nd (by rw [g.N]; exact h2.1) (by rw [g.N]; exact h3.1) (by rw [g.N]; exact h4.1) (fun w => h7 (by have q := h2.1; rw [w, h3.1] at q; exact (Option.some.inj q).symm))
        (fun w => h8 (by have q := h2.1; rw [w, h4.1] at q; exact (Option.some.inj q).symm)) (fun w => h9 (by have q := h3.1; rw [w, h4.1] at q; exact (Option.some.inj q).symm)) lx ly lz ((cArgs f c [a, b, d]).2 g)
        (st_three (isFun_ok g h1) lx ly lz h5 h6 h7 h8 h9 h10 h11 h12 h13 h14) rfl⟩
  else gS
def cAsgT (c : SC) (ts : List Expr) (kt : Nat) (pt : Pos) (v : Expr) (pos : Pos) : CS c (.Assign [.Tuple ts kt pt] v pos) :=
  match cTgs c (cTarget c 3) ts with
  | some r => if h : notComp v = true ∧ notTup v = true then ⟨.asg (.tp r.1) (f c v).1, fun {Φ X k} g _ => by
      obtain ⟨h1, h2, h3⟩ := r.2 g
      exact es_asgT ((f c v).2 g) (eg_tup g.g.calm h1 h2 rfl h3) (sole_not h.1 _ _ _) (st_noT h.2 _) rfl⟩ else gS
  | none => gS
def cAsg (c : SC) (tg v : Expr) (pos : Pos) : CS c (.Assign [tg] v pos) := match tg with
  | .Name x p' => match v with
    | .ListComp elt [⟨tg, iter, ifs, 0⟩] scope p2 => cSetLc f t c x p' elt tg iter ifs scope p2 pos
    | v => cSet f c x p' v pos
  | .Tuple ts kt pt => match v with
    | .Tuple es k2 pt2 => match ts, es with
      | [.Name x px, .Name y py], [a, b] => cPar2 f c x y px py kt pt a b k2 pt2 pos
      | [.Name x px, .Name y py, .Name z pz], [a, b, d] => cPar3 f c x y z px py pz kt pt a b d k2 pt2 pos
      | ts, es => if h : (ts.length == 2 || ts.length == 3) = false then cParG f c ts kt pt es k2 pt2 pos (fun _ => st_many h) else gS
    | v => cAsgT f c ts kt pt v pos
  | .Subscript o i p' => if h : notComp v = true ∧ notSl i = true then ⟨.put (f c o).1 (f c i).1 (f c v).1, fun {Φ X k} g _ =>
      es_put g.g.hu ((f c o).2 g) ((f c i).2 g) ((f c v).2 g) (fun w => by cases i <;> first | rfl | (cases h.2)) (sole_not h.1 _ _ _) (st_sub _) rfl (sw_not h.1 _ _ _)⟩ else gS
  | _ => gS
def cBlock (h : ∀ st, CS c st) : (sts : List Stmt) → CSs c sts
  | [] => ⟨.nop, fun _ _ => es_nil⟩
  | st :: sts => ⟨.seq (h st).1 (cBlock h sts).1, fun g p => es_seq ((h st).2 g p) ((cBlock h sts).2 g p)⟩
def stepS (h : ∀ sts, CSs c sts) : (st : Stmt) → CS c st
  | .Expr (.Constant (.str x) j p) p' => ⟨.nop, fun _ _ => es_doc⟩
  | .Expr e pos => if hn : notComp e = true then ⟨.exp (f c e).1, fun g _ => es_exp ((f c e).2 g) (sw_not hn _ _ _)⟩ else gS
  | .Assign [tg] v pos => cAsg f t c tg v pos
  | .Return (some e) pos => ⟨.ret (f c e).1, fun g _ => es_ret ((f c e).2 g)⟩
  | .Return none pos => ⟨.retN, fun _ _ => es_retN⟩
  | .If q a b pos => ⟨.ite (t c q).1 (h a).1 (h b).1, fun g p => es_ite ((t c q).2 g) ((h a).2 g p) ((h b).2 g p)⟩
  | .While q a [] pos => ⟨.whl c.fuel (t c q).1 (h a).1, fun g p => es_whl c.fuel p ((t c q).2 g) ((h a).2 g p)⟩
  | .For tg iter a [] pos => if hs : notSet iter = true then ⟨.for_ (cTarget c 4 tg).1 (cIter f c tg iter).1 (h a).1, fun {Φ X k} g p => by
      obtain ⟨i1, i2⟩ := (cIter f c tg iter).2 g
      exact es_for p g.g.calm i1 i2 ((cTarget c 4 tg).2 g) ((h a).2 g p) (folded hs _)⟩ else gS
  | .Pass p => ⟨.nop, fun _ _ => es_pass⟩
  | .Break p => ⟨.brk, fun _ _ => es_brk⟩
  | .Continue p => ⟨.cnt, fun _ _ => es_cnt⟩
  | _ => gS
end
def cSs (n : Nat) (c : SC) : Nat → (sts : List Stmt) → CSs c sts
  | 0, _ => gSs
  | m + 1, sts => cBlock (stepS (cET n).1 (cET n).2 (cSs n c m)) sts
end Mi

/-! Mi18: a def by its body; the law's end. -/
namespace Mi
open PySem PySem.Spec PyProof.Rows L2

/-- what a module gives: its defs so far, its constants -/
structure MF (nms : List Str) (cst : List (Str × D)) (Φ : Nat → Fn) (P : Program) (w : World) (K : PySem.W.Frag) (mg : Str → Option Value) (base : Heap) (k : Nat) : Prop where
  blt : ∀ x : Str, x ∈ (["len", "sum", "all", "any", "int", "abs", "list", "tuple", "sorted", "max", "min", "repr", "isinstance", "range", "enumerate", "zip", "bool", "str", "dict"] : List Str) → mg x = none
  fns : ∀ (i : Nat) (x : Str) (as : List Arg) (r : Ret × List MO), nms[i]? = some x → Φ i as = some r → ∃ f fd ps, mg x = some (.ref f) ∧ PySem.W.keepIn K (.ref f) = true ∧ Binds K fd ps [] ∧ FnG P w K mg base k f fd ps (Φ i)
  cst : ∀ x d, cst.lookup x = some d → ∃ u v, mg x = some u ∧ RelV v u ∧ ∀ B, Rp K B v d

section
variable {K : PySem.W.Frag} {σ σ0 : L2.St} {H B H0 B0 : Hp} {env : En} {fs : List Addr}
theorem outs_ok (s : SI K H0 B0 fs σ0 σ H B env) : ∀ {as : List Arg} {vs : List V} {n : Nat} {ms : List MO}, Paired (ArgOk K B0 H0) vs as → (∀ (j : Nat) (v : V), vs[j]? = some v → σ0[n + j]? = some (some v)) → outsOf as (env.drop n) = some ms → Paired (OutOk K H B) (ownA vs as) ms
  | [], _, n, ms, .nil, _, h => by
    cases e : env.drop n <;> (rw [e] at h; cases h; exact .nil)
  | a :: as, _, n, ms, .cons (a := v) (l₁ := vs) r t, hσ, h => by
    cases e : env.drop n with
    | nil => rw [e] at h; cases a <;> cases h
    | cons t0 rest =>
      rw [e] at h
      have er : env.drop (n + 1) = rest := by rw [← List.drop_drop, e]; rfl
      have e0 : env[n]? = some t0 := by
        have := congrArg List.head? e
        rw [List.head?_drop] at this
        exact this
      have hσ' : ∀ (j : Nat) (v : V), vs[j]? = some v → σ0[n + 1 + j]? = some (some v) := fun j v hj => by
        have := hσ (j + 1) v (by simpa using hj)
        rw [show n + 1 + j = n + (j + 1) by omega]
        exact this
      cases a with
      | dat d =>
        have h : outsOf as rest = some ms := h
        rw [← er] at h
        have ih := outs_ok s t hσ' h
        cases v <;> exact ih
      | own m =>
        obtain ⟨p, o, rfl, _⟩ := r
        unfold outsOf at h
        split at h
        · rename_i e2; cases e2
        · rename_i e2 _; cases e2
        · rename_i as' m' rest' e2 e3
          cases e2
          cases e3
          split at h
          · rename_i ms' h2
            cases h
            rw [← er] at h2
            have ih := outs_ok s t hσ' h2
            refine .cons ?_ ih
            obtain ⟨q, ob, pq, nb, hq, mo⟩ := s.re.own e0
            have hp := s.pk e0 rfl rfl
            have h0 := hσ 0 _ rfl
            rw [Nat.add_zero] at h0
            rw [At, hp, h0] at pq
            cases pq
            exact ⟨nb, ob, hq, mo⟩
          · cases h
        · cases h
end

section
variable {K : PySem.W.Frag} {H B : Hp}
theorem start_get {N : List Str} {vs : List V} {j : Nat} {v : V} (h : vs[j]? = some v) : (start N vs)[j]? = some (some v) := by
  have lt := get_lt h
  unfold L2.start
  rw [List.getElem?_append_left (by rw [List.length_map]; exact lt), List.getElem?_map, h]
  rfl
theorem own_mem : ∀ {vs : List V} {as : List Arg} {j : Nat} {a : Addr} {m : MO}, vs[j]? = some (.ref a) → as[j]? = some (.own m) → a ∈ ownA vs as
  | v :: vs, q :: as, 0, a, m, h1, h2 => by
    simp at h1 h2
    subst h1 h2
    exact List.mem_cons_self
  | v :: vs, q :: as, j + 1, a, m, h1, h2 => by
    have ih := own_mem (vs := vs) (as := as) (j := j) (by simpa using h1) (by simpa using h2)
    cases v <;> cases q <;> first | exact ih | exact List.mem_cons_of_mem _ ih
  | [], _, _, _, _, h, _ => by simp at h
  | _ :: _, [], _, _, _, _, h => by simp at h
theorem own_inj : ∀ {vs : List V} {as : List Arg} {i j : Nat} {a : Addr} {m m' : MO}, (ownA vs as).Nodup → vs[i]? = some (.ref a) → as[i]? = some (.own m) → vs[j]? = some (.ref a) → as[j]? = some (.own m') → i = j
  | v :: vs, q :: as, 0, 0, _, _, _, _, _, _, _, _ => rfl
  | v :: vs, q :: as, 0, j + 1, a, m, m', nd, h1, h2, h3, h4 => by
    simp at h1 h2
    subst h1 h2
    exact absurd (own_mem (by simpa using h3) (by simpa using h4)) (List.nodup_cons.mp nd).1
  | v :: vs, q :: as, i + 1, 0, a, m, m', nd, h1, h2, h3, h4 => by
    simp at h3 h4
    subst h3 h4
    exact absurd (own_mem (by simpa using h1) (by simpa using h2)) (List.nodup_cons.mp nd).1
  | v :: vs, q :: as, i + 1, j + 1, a, m, m', nd, h1, h2, h3, h4 => by
    have nd' : (ownA vs as).Nodup := by
      cases v <;> cases q <;> first | exact nd | exact (List.nodup_cons.mp nd).2
    have h1 : vs[i]? = some (.ref a) := by simpa using h1
    have h2 : as[i]? = some (.own m) := by simpa using h2
    have h3 : vs[j]? = some (.ref a) := by simpa using h3
    have h4 : as[j]? = some (.own m') := by simpa using h4
    have e : i = j := own_inj nd' h1 h2 h3 h4
    rw [e]
  | [], _, _, _, _, _, _, _, h, _, _, _ => by simp at h
  | _ :: _, [], _, _, _, _, _, _, _, h, _, _ => by simp at h
theorem args_at : ∀ {vs : List V} {as : List Arg} {j : Nat} {q : Arg}, Paired (ArgOk K B H) vs as → as[j]? = some q → ∃ v, vs[j]? = some v ∧ ArgOk K B H v q := fun h e => paired_at h e
/-- the slots at the call -/
theorem start_env {as : List Arg} {m j : Nat} {t : Slot} (h : (as.map Arg.slot ++ List.replicate m Slot.un)[j]? = some t) : t = .un ∨ ∃ q, as[j]? = some q ∧ t = q.slot := by
  rcases Nat.lt_or_ge j as.length with lt | ge
  · rw [List.getElem?_append_left (by rw [List.length_map]; exact lt), List.getElem?_map] at h
    cases e : as[j]? with
    | none => rw [e] at h; cases h
    | some q => rw [e] at h; cases h; exact .inr ⟨q, rfl, rfl⟩
  · rw [List.getElem?_append_right (by rw [List.length_map]; exact ge)] at h
    exact .inl (List.eq_of_mem_replicate (List.mem_of_getElem? h))
theorem start_si {N : List Str} {vs : List V} {as : List Arg} (sb : Sub B H) (pa : Paired (ArgOk K B H) vs as) (nd : (ownA vs as).Nodup) (hl : as.length ≤ N.length) : SI K H B (ownA vs as) (start N vs) (start N vs) H B (as.map Arg.slot ++ List.replicate (N.length - as.length) Slot.un) := by
  have lv := paired_len pa
  have ow : ∀ {j : Nat} {t : Slot}, (as.map Arg.slot ++ List.replicate (N.length - as.length) Slot.un)[j]? = some t → t.mut = true → ∃ m a o, as[j]? = some (.own m) ∧ t = .own false m ∧ vs[j]? = some (.ref a) ∧ B a = none ∧ H a = some o ∧ MOk K B o m := fun {j t} h m => by
    rcases start_env h with rfl | ⟨q, hq, rfl⟩
    · cases m
    · cases q with
      | dat d => cases m
      | own m' =>
        obtain ⟨v, hv, r⟩ := args_at pa hq
        obtain ⟨a, o, rfl, x, y, z⟩ := r
        exact ⟨m', a, o, hq, rfl, hv, x, y, z⟩
  have at_eq : ∀ {j : Nat} {a p : Addr}, vs[j]? = some (.ref a) → At (start N vs) j p → a = p := fun {j a p} h x => by
    rw [At, start_get h] at x
    cases x; rfl
  refine ⟨⟨sb, ?_, fun {j d} h => ?_, fun {j f m} h => ?_, fun {j f m} h => ?_, fun {i j s t p} h1 h2 m1 m2 x1 x2 => ?_⟩, Sub.refl _, fun h => h, fun h _ => h, fun h => .inl ⟨_, h⟩, fun {i s a} h m x => ?_, fun _ _ _ => rfl⟩
  · rw [List.length_append, List.length_map, List.length_replicate]
    unfold L2.start
    rw [List.length_append, List.length_map, List.length_replicate, lv]
  · rcases start_env h with e | ⟨q, hq, e⟩
    · cases e
    · cases q with
      | own m => cases e
      | dat d' =>
        cases e
        obtain ⟨v, hv, r⟩ := args_at pa hq
        exact ⟨v, start_get hv, r⟩
  · obtain ⟨m', a, o, h1, h2, h3, h4⟩ := ow h rfl
    cases h2
    exact ⟨a, o, start_get h3, h4⟩
  · rcases start_env h with e | ⟨q, hq, e⟩
    · cases e
    · cases q <;> cases e
  · obtain ⟨m', a, o, g1, g2, g3, g4⟩ := ow h1 m1
    obtain ⟨m'', b, o', f1, f2, f3, f4⟩ := ow h2 m2
    cases at_eq g3 x1
    cases at_eq f3 x2
    exact own_inj nd g3 g1 f3 f1
  · obtain ⟨m', b, o, g1, rfl, g3, g4⟩ := ow h m
    cases at_eq g3 x
    exact .inr ⟨rfl, own_mem g3 g1⟩
end

/-- a def by its body -/
theorem fn_G {nms : List Str} {cst : List (Str × D)} {Φ : Nat → Fn} {P : Program} {w : World} {K : PySem.W.Frag} {mg : Str → Option Value} {base : Heap} {k : Nat} {f : Addr} {fd : FuncData} {st : Stmt} {x qual : Str} {N ps : List Str} {s : S} {dt : Pos → Bool} {fuel : Nat}
    (M : MF nms cst Φ P w K mg base k) (Fu : Fun K x qual st f fd) (Sc : FnScope N ps (defScope st))
    (hb : ∀ {Φ : Nat → Fn} {X : Cx} {k : Nat}, GC ⟨defScope st, N, fun _ => true, cst, nms, dt, fuel⟩ Φ X k → HP X → PSs X (defBody st) (tS X.K Φ s)) : FnG P w K mg base (k + 1) f fd ps (semF Φ ps.length N.length s) := by
  have hpl : ps.length ≤ N.length := by
    have := congrArg List.length Sc.pre
    rw [List.length_take] at this
    omega
  constructor
  · intro as r h
    unfold semF at h
    split at h
    · assumption
    · cases h
  intro A outer s0 H args us vs Q hr hg e0 hbd r hsp
  obtain ⟨oc, od, kV, doc, pm, an, cdv, ct, osl, rfl, lk, hcd⟩ := Fu.ex
  obtain ⟨B, as, rt, ms, sb, pa, nd, hF, kk⟩ := hsp
  unfold semF at hF
  split at hF
  case isFalse => cases hF
  rename_i hlen
  have lv := paired_len pa
  have hl : vs.length = ps.length := by rw [lv]; exact hlen
  have keep := fun b o e => (e0.bs b o e).1
  have KX : K.In s0.heap := e0.mod.kin.keeps keep
  have nl : s0.heap.NoLimit := e0.mod.nolimit.keeps keep
  refine codeAny_call_function hr.depth (KX _ _ lk) rfl Sc.co Sc.gen rfl (PySem.W.codeRec_of KX hcd) (hbd _ _ _ _ ?_)
  refine wpAny_newFunctionEnv_cells Sc.kind (fun y hy => (Sc.par y.1 (List.of_mem_zip hy).1).imp id fun q => ⟨q, PySem.W.cellsFrom_some _ _ _ (.inl q)⟩) fun env he s1 x1 => ?_
  subst he
  refine ⟨nl.keeps x1.toInCall.keep, codeAny_func ?_⟩
  have I := inv_start (CX := CX0) (E := E0) (cd := cdv) (f := f) (qual := qual) Sc hr.hd e0 hl r x1
  have gc : GC ⟨defScope st, N, fun _ => true, cst, nms, dt, fuel⟩ Φ (cxOf CX0 P w K mg base N qual (defScope st) f cdv A outer s0 H E0).nox k :=
    ⟨⟨rfl, Sc.nd, hr.deeper _, hg, M.blt, M.fns⟩, rfl, rfl, fun _ _ => rfl, M.cst⟩
  have body := (hb gc (PassesOwn.never)).nox
  have ss := start_si (N := N) sb pa nd (by rw [hlen]; exact hpl)
  rw [hlen] at ss
  have fin : ∀ {σ' : L2.St} {H' B' : Hp} {e : En} {v : V} {q : Ret}, SI K H B (ownA vs as) (start N vs) σ' H' B' e → RetOk K H H' B' v q → outsOf as e = some ms → q = rt → Q v H' := fun {σ' H' B' e v q} s' rr ho eq => by
    subst eq
    exact kk v H' B' ⟨s'.bb, s'.re.sub, s'.th, s'.fr, s'.fre⟩ rr (outs_ok (n := 0) s' pa (fun j v hj => by rw [Nat.zero_add]; exact start_get hj) (by rw [List.drop_zero]; exact ho))
  have hq : tS K Φ s { nx := fun _ H' => Q .non H', rt := Q } (start N vs) H := by
    split at hF
    · rename_i r1 e1 he
      split at hF
      · rename_i ms1 ho
        cases hF
        exact ⟨H, B, _, _, B, _, _, ss, he, fun v σ' H' B' s' _ rr => fin s' rr ho rfl⟩
      · cases hF
    · rename_i e1 he
      split at hF
      · rename_i ms1 ho
        cases hF
        exact ⟨H, B, _, _, B, _, _, ss, he, fun σ' H' B' s' _ => fin s' (show RetOk K H H' B' V.non (.val .non) from .non) ho rfl⟩
      · cases hF
    · cases hF
  refine wpAny_mono (body.run [] s1 (start N vs) H _ I hq) (fun fl s' hs => ?_) fun e s' hs => hs
  have out : ∀ {σ' : L2.St} {H' : Hp} {v : V} {u : Value}, Inv (cxOf CX0 P w K mg base N qual (defScope st) f cdv A outer s0 H E0) [] σ' H' s' → RelV v u → Q v H' → L2.CE outer P w H s0 Q u s' := fun {σ' H' v u} J rv q => ⟨v, H', J.os, J.bare, J.base, J.hok, rv, q⟩
  cases fl with
  | next => obtain ⟨σ', H', J, q⟩ := hs; exact out (v := V.non) (u := Value.none) J rfl q
  | ret u => obtain ⟨v, σ', H', J, rv, q⟩ := hs; exact out J rv q
  | brk => obtain ⟨_, _, _, q⟩ := hs; cases q
  | cont => obtain ⟨_, _, _, q⟩ := hs; cases q
end Mi

/-! Mi19: the law's end. -/
namespace Mi
open PySem PySem.Spec PyProof.Rows L2

/-- the law's call, from its promise -/
theorem law_go {P : Program} {w : World} {K : PySem.W.Frag} {mg mb : Str → Option Value} {k : Nat} {fa sa : Addr} {fd : FuncData} {x : Str} {F : Fn} {t : Shared} {us : List Value} {ns : List Int}
    (kin : K.In t.heap) (nsg : t.heap.Ns mainGlobals mg) (nsb : t.heap.Ns builtinsNs mb) (bb : ∀ y : Str, y ≠ "__name__" → mb y = bootBuiltins y) (nl : t.heap.NoLimit) (g0 : t.gens = #[])
    (hs : t.heap.get? sa = some { cls := .type "list", data := .seq us.toArray }) (hi : IntsAre us ns) (hz : ns.length ≤ sizeLine) (hr : Room k callerA)
    (G : ∀ base : Heap, K.In base → base.Ns mainGlobals mg → FnG P w K mg base k fa fd [x] F) (bd : ∀ (s : Shared) (u : Value), BindsTo s fd ⟨[u], []⟩ [(x, u)]) (ht : F [.dat (.scr ns)] = some (.val (.bl true), [])) :
    codeAny (model P w) callerA (.call (.ref fa) ⟨[.ref sa], []⟩) (fun r s' => r = .ok (.ret (.bool true)) ∧ OldK t.heap s'.heap ∧ s'.os = t.os ∧ AllBare s'.gens) t := by
  -- H tracks the script at most
  suffices main : ∀ H : Hp, (∀ b u, H b = some u → b = sa ∧ K.lookup sa = none ∧ u = .frz { cls := .type "list", data := .seq us.toArray } (.lst (ns.map V.int))) → SqL K H sa (ns.map V.int) → HOk P w H t.heap →
      codeAny (model P w) callerA (.call (.ref fa) ⟨[.ref sa], []⟩) (fun r s' => r = .ok (.ret (.bool true)) ∧ OldK t.heap s'.heap ∧ s'.os = t.os ∧ AllBare s'.gens) t by
    have rv := vals_ints hi
    have hlen := hi.length
    cases hk : K.lookup sa with
    | some ob =>
      have e := kin sa ob hk
      rw [hs] at e
      cases e
      exact main (fun _ => none) (fun b u z => by cases z) (.inr ⟨_, us.toArray, _, hk, rfl, rfl, rfl, (by rw [List.size_toArray, hlen]; exact hz), by simpa using rv⟩) fun b u z => by cases z
    | none =>
      let O : HO := .frz { cls := .type "list", data := .seq us.toArray } (.lst (ns.map V.int))
      have at_ : ∀ b u, L2.upd (fun _ => none) sa O b = some u → b = sa ∧ u = O := fun b u z => by
        by_cases e : b = sa
        · subst e
          rw [upd_same] at z
          cases z
          exact ⟨rfl, rfl⟩
        · rw [upd_ne e] at z
          cases z
      refine main (L2.upd (fun _ => none) sa O) (fun b u z => ?_) (.inl (.inr ⟨_, upd_same⟩)) fun b u z => ?_
      · obtain ⟨e1, e2⟩ := at_ b u z
        exact ⟨e1, hk, e2⟩
      · obtain ⟨rfl, rfl⟩ := at_ b u z
        exact ⟨hs, (by rw [List.length_map]; exact hz), us, _, rv, hs⟩
  intro H only sq hok
  have free : ∀ {b : Addr} {o : Obj}, t.heap.get? b = some o → b ≠ sa ∨ K.lookup sa ≠ none → H b = none := fun {b o} e h => by
    cases q : H b with
    | none => rfl
    | some u =>
      obtain ⟨rfl, kn, _⟩ := only b u q
      rcases h with h | h
      · exact absurd rfl h
      · exact absurd kn h
  have ns' : ∀ {b : Addr} {m : Str → Option Value}, t.heap.Ns b m → (hidT t.heap H).Ns b m := fun {b m} ⟨o, es, ep, e, d, r⟩ =>
    ⟨o, es, ep, hidT_get e (free e (.inl fun z => by
      subst z
      rw [hs] at e
      cases e
      have d' : Data.seq us.toArray _ = Data.dict es ep := d
      cases d')), d, r⟩
  have kin' : K.In (hidT t.heap H) := fun b o e => by
    refine hidT_get (kin b o e) ?_
    cases q : H b with
    | none => rfl
    | some u =>
      obtain ⟨rfl, kn, _⟩ := only b u q
      rw [kn] at e
      cases e
  obtain ⟨mc, l1, l2⟩ := nl
  have mod : Mod K mg (hidT t.heap H) := ⟨kin', ns' nsg, ⟨mb, ns' nsb, bb⟩, ⟨mc, ns' l1, l2⟩⟩
  have none' : ∀ b : Addr, b ∉ frs ([] : List Env) := fun b z => by cases z
  have en : Env0 P w K mg (hidT t.heap H) callerA [] t H := ⟨rfl, mod, fun b o e => of_hidT e, Nat.le_of_eq (hidT_size _ _), trivial, fun b z => absurd z (none' b), hok, .of_eq g0⟩
  have sp : spF K F [.ref sa] H fun v _ => v = .bl true := ⟨H, [.dat (.scr ns)], .val (.bl true), [], Sub.refl H, .cons (show Rp K H (.ref sa) (.scr ns) from .scr sq) .nil, List.nodup_nil, ht, fun v H' B' _ r _ => by
    have r' : Rp K B' v (.bl true) := r
    cases r'
    exact rfl⟩
  refine codeAny_mono ((G _ kin' (ns' nsg)).run callerA [] t H ⟨[.ref sa], []⟩ [.ref sa] [.ref sa] _ hr rfl en (bd t _) (.cons rfl .nil) sp) fun r s' h => ?_
  cases r with
  | error e => cases h
  | ok fl => cases fl with
    | next => cases h
    | brk => cases h
    | cont => cases h
    | ret u =>
      obtain ⟨v, H', os, bare, un, ok', rv, q⟩ := h
      have q : v = .bl true := q
      subst q
      have rv : u = Value.bool true := rv
      subst rv
      refine ⟨rfl, OldK.of_keep fun b o e => ?_, os, bare⟩
      cases z : H b with
      | none => exact un.keep b o e z (none' b) (by simp)
      | some u =>
        obtain ⟨_, _, rfl⟩ := only b u z
        obtain ⟨e1, _⟩ := hok b _ z
        obtain ⟨e2, _⟩ := ok' b _ (un.frzs b _ _ z)
        rw [e] at e1
        cases e1
        exact e2
/-- the goal that the head leaves -/
theorem walk_G {l : PySem.W.OpenLaw} {n k : Nat} {q : Program} {loose : List Str} {XP : (Str → Option Value) → Heap → Prop} {YP : World → Heap → Prop} {d : DefRec} {K : Params → PySem.W.Frag} {x : Str} {F : Fn}
    (hn : l.most = some n) (hz : n ≤ sizeLine) (hd : d.params.defaults = []) (hr : Room k callerA) (hY : ∀ (w : World) (h : Heap), YP w h → (K w.params).In h)
    (G : ∀ (w : World) (mg : Str → Option Value) (fa : Addr) (h : Heap), (K w.params).In h → h.Ns mainGlobals mg → mg d.name = some (.ref fa) →
      ∃ fd : FuncData, (∀ (s : Shared) (u : Value), BindsTo s fd ⟨[u], []⟩ [(x, u)]) ∧ ∀ base : Heap, (K w.params).In base → base.Ns mainGlobals mg → FnG l.prog w (K w.params) mg base k fa fd [x] F)
    (ht : ∀ ns : List Int, ns.length ≤ n → (∀ z ∈ ns, Builtin.Int.intBits z ≤ 1048576) → F [.dat (.scr ns)] = some (.val (.bl true), [])) :
    PySem.W.WalkO q loose XP YP l.row.toRowW d [] (fun f vs => PySem.call f vs) :=
  Att.attach_callB hn hd fun w s₀ t mg mb fa o pm cd doc sa us ns Gr Y _ _ _ hm hs hi hl hb g0 => by
    have kin := hY w _ Y
    obtain ⟨fd, bd, hG⟩ := G w mg fa _ kin Gr.T.g hm
    exact law_go kin Gr.T.g Gr.T.b Gr.T.builtins Gr.T.nolimit g0 hs hi (Nat.le_trans hl hz) hr hG bd (ht ns hl hb)
end Mi

/-! Mi20: the table of defs. -/
namespace Mi
open PySem PySem.Spec PyProof.Rows L2

structure DF where
  np : Nat
  n : Nat
  body : S
/-- the defs so far, the latest first -/
def PhiR : List DF → Nat → Fn
  | [] => fun _ _ => none
  | d :: ds => fun j => if j = ds.length then semF (PhiR ds) d.np d.n d.body else PhiR ds j
theorem PhiR_top (d : DF) (ds : List DF) : PhiR (d :: ds) ds.length = semF (PhiR ds) d.np d.n d.body := if_pos rfl
theorem PhiR_lt (d : DF) (ds : List DF) {j : Nat} (h : j ≠ ds.length) : PhiR (d :: ds) j = PhiR ds j := if_neg h
section
variable {nms : List Str} {cst : List (Str × D)} {P : Program} {w : World} {K : PySem.W.Frag} {mg : Str → Option Value} {base : Heap} {k : Nat} {ds : List DF} {h : Heap}
def CstOk (K : PySem.W.Frag) (mg : Str → Option Value) (l : List (Str × D)) : Prop := ∀ x d, l.lookup x = some d → ∃ u v, mg x = some u ∧ RelV v u ∧ ∀ B, Rp K B v d
theorem cst_nil : CstOk K mg [] := fun x d h => by cases h
theorem cst_cons {x : Str} {d : D} {l : List (Str × D)} (h : ∃ u v, mg x = some u ∧ RelV v u ∧ ∀ B, Rp K B v d) (r : CstOk K mg l) : CstOk K mg ((x, d) :: l) := fun y e hy => by
  rw [List.lookup_cons] at hy
  by_cases z : y = x
  · subst z
    simp at hy
    subst hy
    exact h
  · have : (y == x) = false := by simpa using z
    rw [this] at hy
    exact r y e hy
theorem cst_str {x s : Str} {t : Tok} (X : K.In h) (G : h.Ns mainGlobals mg) (e : PySem.W.nsIn K mainGlobals x = some (some (.str s t))) : ∃ u v, mg x = some u ∧ RelV v u ∧ ∀ B, Rp K B v (.str s) :=
  ⟨_, .str s, PySem.W.mg_of X G e, ⟨t, rfl⟩, fun _ => .str s⟩
theorem cst_int {x : Str} {i : Int} {t : Tok} (X : K.In h) (G : h.Ns mainGlobals mg) (e : PySem.W.nsIn K mainGlobals x = some (some (.int i t))) : ∃ u v, mg x = some u ∧ RelV v u ∧ ∀ B, Rp K B v (.int i) :=
  ⟨_, .int i, PySem.W.mg_of X G e, ⟨t, rfl⟩, fun _ => .int i⟩
def bltNames : List Str := ["len", "sum", "all", "any", "int", "abs", "list", "tuple", "sorted", "max", "min", "repr", "isinstance", "range", "enumerate", "zip", "bool", "str", "dict"]
def BltOk (K : PySem.W.Frag) (l : List Str) : Prop := ∀ x, x ∈ l → PySem.W.nsIn K mainGlobals x = some none
theorem blt_nil : BltOk K [] := fun x h => by cases h
theorem blt_cons {x : Str} {l : List Str} (e : PySem.W.nsIn K mainGlobals x = some none) (r : BltOk K l) : BltOk K (x :: l) := fun y hy => by
  rcases List.mem_cons.mp hy with rfl | hy
  · exact e
  · exact r y hy
/-- a def as the top leaves it -/
structure DfK (K : PySem.W.Frag) (x : Str) (st : Stmt) (f : Addr) (fd : FuncData) : Prop where
  ns : PySem.W.nsIn K mainGlobals x = some (some (.ref f))
  fn : Fun K x x st f fd
theorem df_mk {x : Str} {st : Stmt} {f : Addr} {oc : Value} {od an : Option Addr} {osl : Array (Option Value)} {kV doc pm cdv ct : Value} (a : PySem.W.nsIn K mainGlobals x = some (some (.ref f)))
    (l : K.lookup f = some ⟨oc, od, .func (PySem.W.fnOf x x (defArgs st) (defBody st) (defScope st) .none kV doc pm an cdv ct), osl⟩) (c : PySem.W.codeIn K cdv x = true) (k : PySem.W.keepIn K (.ref f) = true) :
    ∃ f fd, DfK K x st f fd := ⟨f, _, a, fun_mk l c k⟩
/-- its arguments -/
def Bd (x : Str) (st : Stmt) (ps : List Str) : Prop := ∀ (kV doc pm : Value) (an : Option Addr) (cdv ct : Value) (us : List Value), us.length = ps.length → bindArgs (PySem.W.fnOf x x (defArgs st) (defBody st) (defScope st) .none kV doc pm an cdv ct) ⟨us, []⟩ = pure (ps.zip us)
theorem MF.zero (X : K.In h) (G : h.Ns mainGlobals mg) (b : BltOk K bltNames) (c : CstOk K mg cst) : MF nms cst (PhiR []) P w K mg base 0 :=
  ⟨fun x hx => PySem.W.mg_none_of X G (b x hx), fun i x as r _ z => (by cases z), c⟩
theorem MF.step {x : Str} {st : Stmt} {N ps : List Str} {dt : Pos → Bool} {fuel ne ns : Nat} {d : DF} (X : K.In h) (G : h.Ns mainGlobals mg) (M : MF nms cst (PhiR ds) P w K mg base k) (hx : nms[ds.length]? = some x) (Df : ∃ f fd, DfK K x st f fd) (Sc : FnScope N ps (defScope st)) (bd : Bd x st ps)
    (hb : (cSs ne ⟨defScope st, N, fun _ => true, cst, nms, dt, fuel⟩ ns (defBody st)).1 = d.body) (hp : d.np = ps.length) (hn : d.n = N.length) : MF nms cst (PhiR (d :: ds)) P w K mg base (k + 1) := by
  obtain ⟨f, fd, D⟩ := Df
  have G1 := fn_G M D.fn Sc (cSs ne ⟨defScope st, N, fun _ => true, cst, nms, dt, fuel⟩ ns (defBody st)).2
  rw [hb] at G1
  refine ⟨M.blt, fun i y as r hi hr => ?_, M.cst⟩
  by_cases e : i = ds.length
  · subst e
    rw [hx] at hi
    cases hi
    rw [PhiR_top] at hr ⊢
    rw [hp, hn]
    exact ⟨f, fd, ps, PySem.W.mg_of X G D.ns, D.fn.kp, D.fn.binds bd, G1⟩
  · rw [PhiR_lt d ds e] at hr ⊢
    obtain ⟨f, fd, ps, h1, h2, h3, h4⟩ := M.fns i y as r hi hr
    exact ⟨f, fd, ps, h1, h2, h3, h4.mono (Nat.le_succ k)⟩
/-- the law's own def, the last -/
theorem MF.law {x : Str} {st : Stmt} {N : List Str} {p : Str} {dt : Pos → Bool} {fuel ne ns : Nat} {b : S} {fa : Addr} (X : K.In h) (G : h.Ns mainGlobals mg) (hfa : mg x = some (.ref fa)) (Df : ∃ f fd, DfK K x st f fd) (Sc : FnScope N [p] (defScope st)) (bd : Bd x st [p])
    (hb : (cSs ne ⟨defScope st, N, fun _ => true, cst, nms, dt, fuel⟩ ns (defBody st)).1 = b)
    (M : ∀ base : Heap, K.In base → base.Ns mainGlobals mg → MF nms cst (PhiR ds) P w K mg base k) :
    ∃ fd : FuncData, (∀ (s : Shared) (u : Value), BindsTo s fd ⟨[u], []⟩ [(p, u)]) ∧ ∀ base : Heap, K.In base → base.Ns mainGlobals mg → FnG P w K mg base (k + 1) fa fd [p] (semF (PhiR ds) 1 N.length b) := by
  obtain ⟨f, fd, D⟩ := Df
  have e := hfa.symm.trans (PySem.W.mg_of X G D.ns)
  cases e
  refine ⟨fd, fun s u => ?_, fun base X2 G2 => ?_⟩
  · obtain ⟨oc, od, kV, doc, pm, an, cdv, ct, osl, rfl, _, _⟩ := D.fn.ex
    exact .of_eq (bd kV doc pm an cdv ct [u] rfl)
  · have G1 := fn_G (M base X2 G2) D.fn Sc (cSs ne ⟨defScope st, N, fun _ => true, cst, nms, dt, fuel⟩ ns (defBody st)).2
    rw [hb] at G1
    exact G1
end
end Mi

/-! MiDraw: how the laws draw: _law_cells, _law_pot, _law_take, _law_of (the same texts in every law). -/
namespace Mi
open PySem PySem.Spec PyProof.Rows L2

theorem lg2 {n k : Nat} (h : n < 2 ^ k) : n.log2 ≤ k := by
  by_cases z : n = 0
  · subst z; exact Nat.zero_le _
  · exact Nat.le_of_lt ((Nat.log2_lt z).mpr h)
/-- small -/
def sm (i : Int) : Prop := i.natAbs < 2 ^ 200
theorem mul_ev {i j : Int} (hi : sm i) (hj : sm j) : binOp .mul (.int i) (.int j) = some (.val (.int (i * j))) := by
  have h1 := lg2 hi
  have h2 := lg2 hj
  simp only [binOp]
  rw [if_pos (by omega)]
theorem mod_ev {i j : Int} (h : j ≠ 0) : binOp .mod (.int i) (.int j) = some (.val (.int (i.fmod j))) := by
  simp only [binOp]
  rw [if_pos h]
theorem fdiv_ev {i j : Int} (h : j ≠ 0) (hj : sm j) : binOp .fdiv (.int i) (.int j) = some (.val (.int (i.fdiv j))) := by
  have h2 := lg2 hj
  simp only [binOp]
  rw [if_pos ⟨h, by omega⟩]
theorem add_ev {i j : Int} : binOp .add (.int i) (.int j) = some (.val (.int (i + j))) := rfl
theorem cube_ev {i : Int} (h : 2 ≤ i) (hi : sm i) : binOp .pow (.int i) (.int 3) = some (.val (.int (i ^ 3))) := by
  have h2 := lg2 hi
  simp only [binOp]
  rw [if_pos ⟨h, by decide, by decide, by omega⟩]
  rfl
theorem ixl0 {a : D} {l : List D} : ixOp (.lst (a :: l)) (.int 0) = some a := by
  simp only [ixOp, atI, ixN, List.length_cons]
  rw [if_pos (by decide), if_pos (by omega)]
  rfl
theorem ixl1 {a b : D} {l : List D} : ixOp (.lst (a :: b :: l)) (.int 1) = some b := by
  simp only [ixOp, atI, ixN, List.length_cons]
  rw [if_pos (by decide), if_pos (by omega)]
  rfl
theorem ixl2 {a b c : D} {l : List D} : ixOp (.lst (a :: b :: c :: l)) (.int 2) = some c := by
  simp only [ixOp, atI, ixN, List.length_cons]
  rw [if_pos (by decide), if_pos (by omega)]
  rfl
theorem ixt0 {a : D} {l : List D} : ixOp (.tup (a :: l)) (.int 0) = some a := by
  simp only [ixOp, atI, ixN, List.length_cons]
  rw [if_pos (by decide), if_pos (by omega)]
  rfl
theorem ixt1 {a b : D} {l : List D} : ixOp (.tup (a :: b :: l)) (.int 1) = some b := by
  simp only [ixOp, atI, ixN, List.length_cons]
  rw [if_pos (by decide), if_pos (by omega)]
  rfl
/-- the pot: own, seed, count -/
def Pot (c : Nat) (m : MO) : Prop := ∃ o s n : Int, m = .lst [.int o, .int s, .int n] ∧ 0 ≤ o ∧ 0 ≤ s ∧ s < 2 ^ 61 ∧ 0 ≤ n ∧ n ≤ c
/-- _law_take -/
def takeB : S :=
  (.seq (.ite (.cmp .gt (.ix (.var 0) (.cst (.int 0))) (.cst (.int 0))) (.seq (.asg (.nm 4) (.bin .mod (.bi .int (.acons (.ix (.var 0) (.cst (.int 0))) .anil)) (.var 1)))
  (.seq (.put (.var 0) (.cst (.int 0)) (.bin .fdiv (.ix (.var 0) (.cst (.int 0))) (.var 1)))
  (.seq (.ret (.var 4))
  .nop))) .nop)
  (.seq (.put (.var 0) (.cst (.int 2)) (.bin .add (.ix (.var 0) (.cst (.int 2))) (.cst (.int 1))))
  (.seq (.asg (.nm 2) (.ix (.lst (.acons (.cst (.int 2147482367)) (.acons (.cst (.int 2147482361)) (.acons (.cst (.int 2147482351)) (.acons (.cst (.int 2147482343)) (.acons (.cst (.int 2147482327)) .anil)))))) (.bin .mod (.bi .int (.acons (.ix (.var 0) (.cst (.int 2))) .anil)) (.cst (.int 5)))))
  (.seq (.asg (.nm 3) (.bin .mod (.bi .int (.acons (.bin .pow (.bi .int (.acons (.bin .add (.bin .add (.ix (.var 0) (.cst (.int 1))) (.bin .mul (.bin .mul (.cst (.int 74897)) (.ix (.var 0) (.cst (.int 2)))) (.ix (.var 0) (.cst (.int 2))))) (.cst (.int 1931))) .anil)) (.cst (.int 3))) .anil)) (.var 2)))
  (.seq (.asg (.nm 3) (.bin .mod (.bi .int (.acons (.bin .mul (.var 3) (.bin .add (.bin .mod (.bi .int (.acons (.var 3) .anil)) (.cst (.int 8053))) (.bin .mul (.cst (.int 263)) (.ix (.var 0) (.cst (.int 2)))))) .anil)) (.cst (.int 2305843009213693907))))
  (.seq (.ret (.bin .mod (.bi .int (.acons (.bin .fdiv (.var 3) (.cst (.int 163))) .anil)) (.var 1)))
  .nop))))))
theorem fmod_pos {i j : Int} (h : 0 < j) : 0 ≤ i.fmod j ∧ i.fmod j < j := ⟨Int.fmod_nonneg_of_pos i h, Int.fmod_lt_of_pos i h⟩
theorem fdiv_nn {i j : Int} (h : 0 ≤ i) (hj : 0 < j) : 0 ≤ i.fdiv j := by
  rw [Int.fdiv_eq_ediv_of_nonneg _ (Int.le_of_lt hj)]
  exact Int.ediv_nonneg h (Int.le_of_lt hj)
theorem take1 (Φ : Nat → Fn) {o s n u : Int} (ho : 0 < o) (hu : 0 < u) (hsm : sm u) : semF Φ 2 5 takeB [.own (.lst [.int o, .int s, .int n]), .dat (.int u)] = some (.val (.int (o.fmod u)), [.lst [.int (o.fdiv u), .int s, .int n]]) := by
  have h1 := mod_ev (i := o) (j := u) (by omega)
  have h2 := fdiv_ev (i := o) (j := u) (by omega) hsm
  simp [semF, takeB, evS, evT, evE, evA, Arg.slot, pk, ixOp, atI, ixN, cmpOp, dix, biOp, pks, setP, fz, setD, setS, Slot.free, retOf, outsOf, putAt, ho, h1, h2, List.replicate]
def primeOf (k : Int) : Int := if k = 0 then 2147482367 else if k = 1 then 2147482361 else if k = 2 then 2147482351 else if k = 3 then 2147482343 else 2147482327
theorem prime_ix {k : Int} (h0 : 0 ≤ k) (h5 : k < 5) : ixOp (.lst [.int 2147482367, .int 2147482361, .int 2147482351, .int 2147482343, .int 2147482327]) (.int k) = some (.int (primeOf k)) := by
  have : k = 0 ∨ k = 1 ∨ k = 2 ∨ k = 3 ∨ k = 4 := by omega
  rcases this with rfl | rfl | rfl | rfl | rfl <;> rfl
theorem prime_pos {k : Int} : 0 < primeOf k ∧ primeOf k < 2 ^ 31 := by
  unfold primeOf
  repeat' split
  all_goals omega
theorem mul_lt {i j : Int} {a b c : Nat} (hi : i.natAbs < 2 ^ a) (hj : j.natAbs < 2 ^ b) (h : a + b ≤ c) : (i * j).natAbs < 2 ^ c := by
  rw [Int.natAbs_mul]
  refine Nat.lt_of_lt_of_le ?_ (Nat.pow_le_pow_right (by decide) h)
  rw [Nat.pow_add]
  exact Nat.mul_lt_mul'' hi hj
theorem sm_of {i : Int} {a : Nat} (h : i.natAbs < 2 ^ a) (ha : a ≤ 200) : sm i := Nat.lt_of_lt_of_le h (Nat.pow_le_pow_right (by decide) ha)
theorem take2 (Φ : Nat → Fn) {o s n u : Int} (ho : ¬ 0 < o) (hu : 0 < u) (hs : 0 ≤ s) (hs2 : s < 2 ^ 61) (hn : 0 ≤ n) (hn2 : n < 2 ^ 21) : ∃ r : Int, 0 ≤ r ∧ r < u ∧ semF Φ 2 5 takeB [.own (.lst [.int o, .int s, .int n]), .dat (.int u)] = some (.val (.int r), [.lst [.int o, .int s, .int (n + 1)]]) := by
  obtain ⟨k0, k5⟩ := fmod_pos (i := n + 1) (j := 5) (by decide)
  have e1 := mod_ev (i := n + 1) (j := 5) (by decide)
  have e2 := prime_ix k0 k5
  obtain ⟨p0, p31⟩ := prime_pos (k := (n + 1).fmod 5)
  generalize hp : primeOf ((n + 1).fmod 5) = p at *
  have m1 : (74897 * (n + 1)).natAbs < 2 ^ 40 := by omega
  have m2 : (74897 * (n + 1) * (n + 1)).natAbs < 2 ^ 62 := mul_lt m1 (show (n + 1).natAbs < 2 ^ 22 by omega) (by decide)
  have e3 := mul_ev (i := 74897) (j := n + 1) (by unfold sm; omega) (by unfold sm; omega)
  have e4 := mul_ev (i := 74897 * (n + 1)) (j := n + 1) (sm_of m1 (by decide)) (by unfold sm; omega)
  have q0 : 0 ≤ 74897 * (n + 1) * (n + 1) := Int.mul_nonneg (by omega) (by omega)
  generalize hq : 74897 * (n + 1) * (n + 1) = q at *
  have e5 := cube_ev (i := s + q + 1931) (by omega) (by unfold sm; omega)
  have e6 := mod_ev (i := (s + q + 1931) ^ 3) (j := p) (by omega)
  obtain ⟨b0, b1⟩ := fmod_pos (i := (s + q + 1931) ^ 3) (j := p) p0
  generalize hb : ((s + q + 1931) ^ 3).fmod p = b at *
  have e7 := mod_ev (i := b) (j := 8053) (by decide)
  obtain ⟨c0, c1⟩ := fmod_pos (i := b) (j := 8053) (by decide)
  generalize hc : b.fmod 8053 = c at *
  have e8 := mul_ev (i := 263) (j := n + 1) (by unfold sm; omega) (by unfold sm; omega)
  have e9 := mul_ev (i := b) (j := c + 263 * (n + 1)) (by unfold sm; omega) (by unfold sm; omega)
  have e10 := mod_ev (i := b * (c + 263 * (n + 1))) (j := 2305843009213693907) (by decide)
  generalize hd : (b * (c + 263 * (n + 1))).fmod 2305843009213693907 = d at *
  have e11 := fdiv_ev (i := d) (j := 163) (by decide) (by unfold sm; omega)
  have e12 := mod_ev (i := d.fdiv 163) (j := u) (by omega)
  obtain ⟨r0, r1⟩ := fmod_pos (i := d.fdiv 163) (j := u) hu
  refine ⟨(d.fdiv 163).fmod u, r0, r1, ?_⟩
  simp [semF, takeB, evS, evT, evE, evA, fzs, Arg.slot, pk, ixl0, ixl1, ixl2, lim, cmpOp, biOp, pks, setP, fz, setD, setS, Slot.free, retOf, outsOf, putAt, ho, add_ev, e1, e2, e3, e4, e5, e6, e7, e8, e9, e10, e11, e12, hq, hb, hc, hd, List.replicate]
theorem take_ok (Φ : Nat → Fn) {c : Nat} {m : MO} (h : Pot c m) (hc : c < 2 ^ 20) {u : Int} (hu : 0 < u) (hsm : sm u) : ∃ (r : Int) (m' : MO), 0 ≤ r ∧ r < u ∧ Pot (c + 1) m' ∧ semF Φ 2 5 takeB [.own m, .dat (.int u)] = some (.val (.int r), [m']) := by
  obtain ⟨o, s, n, rfl, h1, h2, h3, h4, h5⟩ := h
  by_cases ho : 0 < o
  · obtain ⟨r0, r1⟩ := fmod_pos (i := o) hu
    exact ⟨_, _, r0, r1, ⟨_, _, _, rfl, fdiv_nn h1 hu, h2, h3, h4, by omega⟩, take1 Φ ho hu hsm⟩
  · obtain ⟨r, r0, r1, e⟩ := take2 Φ ho hu h2 h3 h4 (by omega)
    exact ⟨r, _, r0, r1, ⟨_, _, _, rfl, h1, h2, h3, by omega, by omega⟩, e⟩
theorem intsOf_mapI : ∀ ns : List Int, intsOf (ns.map D.int) = some ns
  | [] => rfl
  | n :: ns => by
    simp only [List.map_cons, intsOf, D.toInt?, intsOf_mapI ns]
/-- _law_pot -/
def potB : S :=
  (.seq (.asg (.nm 2) (.ite (.cmp .lt (.var 1) (.bi .len (.acons (.var 0) .anil))) (.ix (.var 0) (.var 1)) (.bin .add (.bin .add (.bin .mod (.bi .sum (.acons (.slc (.var 0) .gone (.acons (.cst (.int 1)) .anil)) .anil)) (.cst (.int 1000253))) (.bin .mul (.cst (.int 6011)) (.var 1))) (.cst (.int 733)))))
  (.seq (.asg (.nm 3) (.bin .mul (.bin .mod (.bi .int (.acons (.bi .abs (.acons (.var 2) .anil)) .anil)) (.bin .pow (.bin .pow (.cst (.int 10)) (.cst (.int 60))) (.cst (.int 5)))) (.bi .int (.acons (.cmp .ge (.bi .abs (.acons (.var 2) .anil)) (.bin .pow (.cst (.int 10)) (.cst (.int 18)))) .anil))))
  (.seq (.asg (.nm 4) (.bin .mod (.bi .int (.acons (.var 2) .anil)) (.cst (.int 2305843009213693951))))
  (.seq (.ret (.lst (.acons (.var 3) (.acons (.bin .mod (.bi .int (.acons (.bin .add (.bin .add (.bin .mul (.var 4) (.cst (.int 70843))) (.bin .mul (.bin .mul (.cst (.int 7477)) (.var 1)) (.var 1))) (.cst (.int 1181))) .anil)) (.cst (.int 2305843009213693921))) (.acons (.cst (.int 0)) .anil)))))
  .nop))))
theorem pow1 : binOp .pow (.int 10) (.int 60) = some (.val (.int (10 ^ 60))) := by
  simp only [binOp]
  rw [if_pos (by decide +kernel)]
  rfl
theorem pow2 : binOp .pow (.int (10 ^ 60)) (.int 5) = some (.val (.int ((10 ^ 60) ^ 5))) := by
  simp only [binOp]
  rw [if_pos (by decide +kernel)]
  rfl
theorem pow3 : binOp .pow (.int 10) (.int 18) = some (.val (.int (10 ^ 18))) := by
  simp only [binOp]
  rw [if_pos (by decide +kernel)]
  rfl
theorem own_mul {a : Int} (h0 : 0 ≤ a) (h : a < (10 ^ 60) ^ 5) (b : Bool) : binOp .mul (.int a) (.int (if b = true then 1 else 0)) = some (.val (.int (a * if b = true then 1 else 0))) := by
  have h1 : a.natAbs.log2 ≤ 1000 := by
    refine lg2 ?_
    have h2 : a.natAbs < (10 ^ 60) ^ 5 := by
      have e : ((a.natAbs : Nat) : Int) = a := Int.natAbs_of_nonneg h0
      have h3 : ((a.natAbs : Nat) : Int) < (((10 ^ 60) ^ 5 : Nat) : Int) := by rw [e]; exact h
      exact Int.ofNat_lt.mp h3
    exact Nat.lt_trans h2 (by decide +kernel)
  have h2 : (if b = true then (1 : Int) else 0).natAbs.log2 ≤ 1 := by cases b <;> decide
  simp only [binOp]
  rw [if_pos (by omega)]
theorem pot_ok (Φ : Nat → Fn) {ns : List Int} {pl : Nat} (hp : pl < 2 ^ 10) : ∃ m, Pot 0 m ∧ semF Φ 2 5 potB [.dat (.scr ns), .dat (.int pl)] = some (.new m, []) := by
  -- the cell
  obtain ⟨cell, hcell⟩ : ∃ cell : Int, evE Φ (.ite (.cmp .lt (.var 1) (.bi .len (.acons (.var 0) .anil))) (.ix (.var 0) (.var 1)) (.bin .add (.bin .add (.bin .mod (.bi .sum (.acons (.slc (.var 0) .gone (.acons (.cst (.int 1)) .anil)) .anil)) (.cst (.int 1000253))) (.bin .mul (.cst (.int 6011)) (.var 1))) (.cst (.int 733))))
      [.dat (.scr ns), .dat (.int pl), .un, .un, .un] = some (.val (.int cell), [.dat (.scr ns), .dat (.int pl), .un, .un, .un]) := by
    by_cases h : pl < ns.length
    · refine ⟨ns[pl], ?_⟩
      have hx : ixOp (.scr ns) (.int pl) = some (.int ns[pl]) := by
        simp only [ixOp, atI, ixN]
        rw [if_pos (by omega), if_pos (by omega)]
        simp [h]
      simp [evE, evA, pk, pks, biOp, cmpOp, h, hx]
    · have e3 := mul_ev (i := 6011) (j := pl) (by unfold sm; omega) (by unfold sm; omega)
      have hs : cutD (ns.map D.int) none (some 1) = (ns.take 1).map D.int := by
        unfold cutD HT.sIx
        cases ns <;> simp
      have e4 := mod_ev (i := (ns.take 1).sum) (j := 1000253) (by decide)
      refine ⟨(ns.take 1).sum.fmod 1000253 + 6011 * pl + 733, ?_⟩
      simp [evE, evA, evO, pk, pks, biOp, cmpOp, h, slcOp, hs, -List.map_take, intsOf_mapI, e3, e4, add_ev]
  -- what is drawn by hand
  obtain ⟨ow, ow0, how⟩ : ∃ ow : Int, 0 ≤ ow ∧ evE Φ (.bin .mul (.bin .mod (.bi .int (.acons (.bi .abs (.acons (.var 2) .anil)) .anil)) (.bin .pow (.bin .pow (.cst (.int 10)) (.cst (.int 60))) (.cst (.int 5)))) (.bi .int (.acons (.cmp .ge (.bi .abs (.acons (.var 2) .anil)) (.bin .pow (.cst (.int 10)) (.cst (.int 18)))) .anil)))
      [.dat (.scr ns), .dat (.int pl), .dat (.int cell), .un, .un] = some (.val (.int ow), [.dat (.scr ns), .dat (.int pl), .dat (.int cell), .un, .un]) := by
    generalize hab : (if cell < 0 then -cell else cell) = ab
    have a0 := fmod_pos (i := ab) (j := (10 ^ 60) ^ 5) (by decide +kernel)
    have e1 := mod_ev (i := ab) (j := (10 ^ 60) ^ 5) (by decide +kernel)
    have e2 := own_mul a0.1 a0.2 (decide ((10 : Int) ^ 18 ≤ ab))
    refine ⟨_, Int.mul_nonneg a0.1 (b := if decide ((10 : Int) ^ 18 ≤ ab) = true then 1 else 0) (by split <;> decide), ?_⟩
    simp only [evE, evA, pks, pk, biOp, List.getElem?_cons_succ, List.getElem?_cons_zero, hab, pow1, pow2, pow3, e1, cmpOp, e2]
  have e3 := mod_ev (i := cell) (j := 2305843009213693951) (by decide)
  obtain ⟨s0, s1⟩ := fmod_pos (i := cell) (j := 2305843009213693951) (by decide)
  generalize hs : cell.fmod 2305843009213693951 = sml at *
  have e4 := mul_ev (i := sml) (j := 70843) (by unfold sm; omega) (by unfold sm; omega)
  have m1 : (7477 * (pl : Int)).natAbs < 2 ^ 40 := by omega
  have e5 := mul_ev (i := 7477) (j := pl) (by unfold sm; omega) (by unfold sm; omega)
  have e6 := mul_ev (i := 7477 * pl) (j := pl) (sm_of m1 (by decide)) (by unfold sm; omega)
  have e7 := mod_ev (i := sml * 70843 + 7477 * pl * pl + 1181) (j := 2305843009213693921) (by decide)
  obtain ⟨t0, t1⟩ := fmod_pos (i := sml * 70843 + 7477 * pl * pl + 1181) (j := 2305843009213693921) (by decide)
  generalize hq : (sml * 70843 + 7477 * (pl : Int) * pl + 1181).fmod 2305843009213693921 = sd at *
  refine ⟨.lst [.int ow, .int sd, .int 0], ⟨_, _, _, rfl, ow0, t0, by omega, by decide, by decide⟩, ?_⟩
  unfold semF potB
  simp only [List.length_cons, List.length_nil, Nat.reduceAdd, if_true, List.map_cons, List.map_nil, Arg.slot, List.replicate, Nat.reduceSub, List.cons_append, List.nil_append]
  simp only [evS, hcell, setP, fz, setD, setS, Slot.free, List.getElem?_cons_succ, List.getElem?_cons_zero, if_true, List.set_cons_succ, List.set_cons_zero, how]
  simp [evE, evA, fzs, pk, lim, cmpOp, biOp, pks, setP, fz, setD, setS, Slot.free, retOf, outsOf, add_ev, e3, hs, e4, e5, e6, e7, hq]
end Mi

/-! MiLot: lots (strictly ascending lists), sums by oddness. Plain Lean. -/
namespace Mi

abbrev Asc (l : List Int) : Prop := l.Pairwise (· < ·)
theorem asc_ext : ∀ {a b : List Int}, Asc a → Asc b → (∀ x, x ∈ a ↔ x ∈ b) → a = b
  | [], [], _, _, _ => rfl
  | [], y :: b, _, _, h => by have := (h y).mpr List.mem_cons_self; cases this
  | x :: a, [], _, _, h => by have := (h x).mp List.mem_cons_self; cases this
  | x :: a, y :: b, ha, hb, h => by
    obtain ⟨a1, a2⟩ := List.pairwise_cons.mp ha
    obtain ⟨b1, b2⟩ := List.pairwise_cons.mp hb
    have e : x = y := by
      rcases List.mem_cons.mp ((h x).mp List.mem_cons_self) with e | e
      · exact e
      · rcases List.mem_cons.mp ((h y).mpr List.mem_cons_self) with e' | e'
        · exact e'.symm
        · have := b1 x e
          have := a1 y e'
          omega
    subst e
    rw [asc_ext a2 b2 fun z => ?_]
    have hz := h z
    simp only [List.mem_cons] at hz
    constructor
    · intro q
      have := a1 z q
      rcases hz.mp (.inr q) with rfl | w
      · omega
      · exact w
    · intro q
      have := b1 z q
      rcases hz.mpr (.inr q) with rfl | w
      · omega
      · exact w
/-- how often, oddly -/
def par (l : List Int) (x : Int) : Bool := l.count x % 2 == 1
theorem par_nil (x : Int) : par [] x = false := rfl
theorem par_app (a b : List Int) (x : Int) : par (a ++ b) x = (par a x ^^ par b x) := by
  unfold par
  rw [List.count_append]
  have h1 : a.count x % 2 = 0 ∨ a.count x % 2 = 1 := by omega
  have h2 : b.count x % 2 = 0 ∨ b.count x % 2 = 1 := by omega
  rcases h1 with h1 | h1 <;> rcases h2 with h2 | h2 <;> simp [Nat.add_mod, h1, h2]
theorem par_cons (a x : Int) (l : List Int) : par (a :: l) x = (decide (a = x) ^^ par l x) := by
  have := par_app [a] l x
  rw [List.singleton_append] at this
  rw [this]
  congr 1
  unfold par
  by_cases h : a = x
  · subst h; simp
  · simp [h, List.count_cons]
theorem par_perm {a b : List Int} (h : a.Perm b) (x : Int) : par a x = par b x := by
  unfold par
  rw [h.count_eq]
theorem count_asc {l : List Int} (h : Asc l) (x : Int) : l.count x = if x ∈ l then 1 else 0 := by
  induction l with
  | nil => rfl
  | cons y l ih =>
    obtain ⟨h1, h2⟩ := List.pairwise_cons.mp h
    rw [List.count_cons, ih h2]
    by_cases e : y = x
    · subst e
      have : y ∉ l := fun z => by have := h1 y z; omega
      simp [this]
    · have : ¬ x = y := fun z => e z.symm
      simp [e, this]
theorem par_asc {l : List Int} (h : Asc l) (x : Int) : par l x = decide (x ∈ l) := by
  unfold par
  rw [count_asc h]
  by_cases e : x ∈ l <;> simp [e]
/-- each once, of a list that does not fall -/
def dd : Option Int → List Int → List Int
  | _, [] => []
  | p, x :: r => if p = some x then dd (some x) r else x :: dd (some x) r
theorem dd_spec : ∀ {l : List Int} {p : Option Int}, l.Pairwise (· ≤ ·) → (∀ q, p = some q → ∀ x ∈ l, q ≤ x) → Asc (dd p l) ∧ ∀ x, x ∈ dd p l ↔ x ∈ l ∧ p ≠ some x
  | [], p, _, _ => ⟨.nil, fun x => by simp [dd]⟩
  | y :: r, p, h, hp => by
    obtain ⟨h1, h2⟩ := List.pairwise_cons.mp h
    obtain ⟨i1, i2⟩ := dd_spec (l := r) (p := some y) h2 fun q e x hx => by cases e; exact h1 x hx
    unfold dd
    split
    · rename_i e
      subst e
      refine ⟨i1, fun x => ?_⟩
      rw [i2]
      simp only [List.mem_cons, ne_eq, Option.some.injEq]
      constructor
      · intro ⟨a, b⟩; exact ⟨.inr a, b⟩
      · intro ⟨a, b⟩
        rcases a with rfl | a
        · exact absurd rfl b
        · exact ⟨a, b⟩
    · rename_i e
      refine ⟨List.pairwise_cons.mpr ⟨fun x hx => ?_, i1⟩, fun x => ?_⟩
      · obtain ⟨a, b⟩ := (i2 x).mp hx
        have := h1 x a
        have : y ≠ x := fun z => b (by rw [z])
        omega
      · simp only [List.mem_cons, i2, ne_eq, Option.some.injEq]
        constructor
        · rintro (rfl | ⟨a, b⟩)
          · exact ⟨.inl rfl, e⟩
          · refine ⟨.inr a, fun z => ?_⟩
            have q1 := hp x z y List.mem_cons_self
            have q2 := h1 x a
            exact b (by omega)
        · rintro ⟨rfl | a, b⟩
          · exact .inl rfl
          · by_cases z : y = x
            · exact .inl z.symm
            · exact .inr ⟨a, z⟩
/-- the sum by oddness -/
def oddS (l : List Int) : List Int := (dd none (sortI l)).filter fun x => par l x
theorem oddS_asc (l : List Int) : Asc (oddS l) := List.Pairwise.filter _ (dd_spec (sortI_asc l) (fun q e => by cases e)).1
theorem mem_oddS {l : List Int} {x : Int} : x ∈ oddS l ↔ par l x = true := by
  unfold oddS
  rw [List.mem_filter, (dd_spec (sortI_asc l) (fun q e => by cases e)).2, (sortI_perm l).mem_iff]
  constructor
  · intro h; exact h.2
  · intro h
    refine ⟨⟨?_, by simp⟩, h⟩
    unfold par at h
    refine List.count_pos_iff.mp ?_
    have : l.count x % 2 = 1 := by simpa using h
    omega
theorem par_oddS (l : List Int) (x : Int) : par (oddS l) x = par l x := by
  rw [par_asc (oddS_asc l)]
  cases h : par l x with
  | true => simpa using mem_oddS.mpr h
  | false => simp [mem_oddS, h]
theorem oddS_of {l r : List Int} (hr : Asc r) (h : ∀ x, par r x = par l x) : oddS l = r :=
  asc_ext (oddS_asc l) hr fun x => by
    rw [mem_oddS, ← h x, par_asc hr]
    simp
theorem oddS_congr {a b : List Int} (h : ∀ x, par a x = par b x) : oddS a = oddS b :=
  oddS_of (oddS_asc b) fun x => by rw [par_oddS, h]
theorem oddS_self {l : List Int} (h : Asc l) : oddS l = l := oddS_of h fun _ => rfl
end Mi

/-! MiEv: the evaluator, form by form. -/
namespace Mi
open PySem PySem.Spec PyProof.Rows L2
section
variable {Φ : Nat → Fn}
@[simp] theorem q_var0 (i) (env : En) : evE Φ (.var i) env = match env[i]? with
    | some (.dat d) => some (.val d, env)
    | some (.own _ _) => some (.slot i, env)
    | some (.lck _ _) => some (.slot i, env)
    | _ => none := rfl
@[simp] theorem q_cst1 (d) (env : En) : evE Φ (.cst d) env = some (.val d, env) := rfl
@[simp] theorem q_tup2 (es) (env : En) : evE Φ (.tup es) env = match evA Φ es env with
    | some (ps, e1) => match fzs ps e1 with
      | some (ds, e2) => if ds.length ≤ lim then some (.val (.tup ds), e2) else none
      | none => none
    | none => none := rfl
@[simp] theorem q_lst3 (es) (env : En) : evE Φ (.lst es) env = match evA Φ es env with
    | some (ps, e1) => match fzs ps e1 with
      | some (ds, e2) => if ds.length ≤ lim then some (.new (.lst ds), e2) else none
      | none => none
    | none => none := rfl
@[simp] theorem q_bin4 (o) (a) (b) (env : En) : evE Φ (.bin o a b) env = match evE Φ a env with
    | some (p, e1) => match evE Φ b e1 with
      | some (q, e2) => match pk p e2, pk q e2 with
        | some x, some y => match binOp o x y with
          | some z => some (z, e2)
          | none => none
        | _, _ => none
      | none => none
    | none => none := rfl
@[simp] theorem q_neg5 (a) (env : En) : evE Φ (.neg a) env = match evE Φ a env with
    | some (.val (.int i), e1) => some (.val (.int (-i)), e1)
    | _ => none := rfl
@[simp] theorem q_cmp6 (o) (a) (b) (env : En) : evE Φ (.cmp o a b) env = match evE Φ a env with
    | some (p, e1) => match evE Φ b e1 with
      | some (q, e2) => match pk p e2, pk q e2 with
        | some x, some y => match cmpOp o x y with
          | some z => some (.val (.bl z), e2)
          | none => none
        | _, _ => dcmp o p q e2
      | none => none
    | none => none := rfl
@[simp] theorem q_chn7 (o) (o') (a) (b) (c) (env : En) : evE Φ (.chn o o' a b c) env = match evE Φ a env with
    | some (.val x, e1) => match evE Φ b e1 with
      | some (.val y, e2) => match cmpOp o x y with
        | some true => match evE Φ c e2 with
          | some (.val z, e3) => match cmpOp o' y z with
            | some r => some (.val (.bl r), e3)
            | none => none
          | _ => none
        | some false => some (.val (.bl false), e2)
        | none => none
      | _ => none
    | _ => none := rfl
@[simp] theorem q_and8 (a) (b) (env : En) : evE Φ (.and a b) env = match evE Φ a env with
    | some (.val (.bl true), e1) => match evE Φ b e1 with
      | some (.val (.bl r), e2) => some (.val (.bl r), e2)
      | _ => none
    | some (.val (.bl false), e1) => some (.val (.bl false), e1)
    | _ => none := rfl
@[simp] theorem q_or9 (a) (b) (env : En) : evE Φ (.or a b) env = match evE Φ a env with
    | some (.val (.bl false), e1) => match evE Φ b e1 with
      | some (.val (.bl r), e2) => some (.val (.bl r), e2)
      | _ => none
    | some (.val (.bl true), e1) => some (.val (.bl true), e1)
    | _ => none := rfl
@[simp] theorem q_not10 (a) (env : En) : evE Φ (.not a) env = match evE Φ a env with
    | some (.val (.bl r), e1) => some (.val (.bl (!r)), e1)
    | _ => none := rfl
@[simp] theorem q_ite11 (c) (a) (b) (env : En) : evE Φ (.ite c a b) env = match evE Φ c env with
    | some (.val (.bl true), e1) => evE Φ a e1
    | some (.val (.bl false), e1) => evE Φ b e1
    | _ => none := rfl
@[simp] theorem q_ix12 (a) (i) (env : En) : evE Φ (.ix a i) env = match evE Φ a env with
    | some (p, e1) => match evE Φ i e1 with
      | some (.val k, e2) => match pk p e2 with
        | some x => match ixOp x k with
          | some d => some (.val d, e2)
          | none => none
        | none => match dix p k e2 with
          | some d => some (.val d, e2)
          | none => none
      | _ => none
    | none => none := rfl
@[simp] theorem q_slc13 (a) (lo) (hi) (env : En) : evE Φ (.slc a lo hi) env = match evE Φ a env with
    | some (p, e1) => match evO Φ lo e1 with
      | some (l, e2) => match evO Φ hi e2 with
        | some (h, e3) => match pk p e3 with
          | some x => match slcOp x l h with
            | some r => some (r, e3)
            | none => none
          | none => none
        | none => none
      | none => none
    | none => none := rfl
@[simp] theorem q_call14 (f) (es) (env : En) : evE Φ (.call f es) env = match evA Φ es env with
    | some (ps, e1) => match toArgs ps e1 with
      | some (as, is) => match Φ f as with
        | some (r, ms) => match putBack is ms e1 with
          | some e2 => some (r.p, e2)
          | none => none
        | none => none
      | none => none
    | none => none := rfl
@[simp] theorem q_bi15 (b) (es) (env : En) : evE Φ (.bi b es) env = match evA Φ es env with
    | some (ps, e1) => match pks ps e1 with
      | some ds => match biOp b ds with
        | some r => some (r, e1)
        | none => none
      | none => none
    | none => none := rfl
@[simp] theorem q_mth16 (m) (r) (es) (env : En) : evE Φ (.mth m r es) env = match evE Φ r env with
    | some (.slot i, e1) => if lstIn i e1 then match evA Φ es e1 with
      | some (ps, e2) => match m, ps with
        | .append, [p] => match fz p e2 with
          | some (d, e3) => match e3[i]? with
            | some (.own f (.lst ds)) => if ds.length < lim then some (.val .non, e3.set i (.own f (.lst (ds ++ [d])))) else none
            | _ => none
          | none => none
        | .extend, [p] => match fz p e2 with
          | some (.lst zs, e3) => match e3[i]? with
            | some (.own f (.lst ds)) => if ds.length + zs.length ≤ lim then some (.val .non, e3.set i (.own f (.lst (ds ++ zs)))) else none
            | _ => none
          | _ => none
        | .pop, [] => match e2[i]? with
          | some (.own f (.lst ds)) => match ds[ds.length - 1]? with
            | some d => some (.val d, e2.set i (.own f (.lst ds.dropLast)))
            | none => none
          | _ => none
        | .popAt, [.val (.int k)] => match e2[i]? with
          | some (.own f (.lst ds)) => if 0 ≤ k ∧ k ≤ 2 ^ 40 then match ds[k.toNat]? with
              | some d => some (.val d, e2.set i (.own f (.lst (ds.eraseIdx k.toNat))))
              | none => none
            else none
          | _ => none
        | _, _ => none
      | none => none
      else none
    | _ => none := rfl
@[simp] theorem q_lrng18 (es) (env : En) : evE Φ (.lrng es) env = match evA Φ es env with
    | some (ps, e1) => match pks ps e1 with
      | some ds => match rngOf ds with
        | some xs => if xs.length ≤ lim then some (.new (.lst xs), e1) else none
        | none => none
      | none => none
    | none => none := rfl
@[simp] theorem q_sumL19 (e) (env : En) : evE Φ (.sumL e) env = match evE Φ e env with
    | some (p, e1) => match pk p e1 with
      | some (.lst ds) => match lstsOf ds with
        | some xs => if xs.flatten.length ≤ 1000000 then some (.new (.lst xs.flatten), e1) else none
        | none => none
      | _ => none
    | none => none := rfl
@[simp] theorem q_dnew20 (t) (env : En) : evE Φ (.dnew t) env = some (.new (if t then .dT [] else .dK []), env) := rfl
@[simp] theorem q_cnt21 (a) (b) (env : En) : evE Φ (.cnt a b) env = match evE Φ a env with
    | some (p, e1) => match pk p e1 with
      | some (.lst _) => match evE Φ b e1 with
        | some (.val (.int k), e2) => match pk p e2 with
          | some (.lst ds) => match intsOf ds with
            | some ns => some (.val (.int (ns.count k)), e2)
            | none => none
          | _ => none
        | _ => none
      | _ => none
    | none => none := rfl
@[simp] theorem q_dget22 (o) (k) (x) (env : En) : evE Φ (.dget o k x) env = match evE Φ o env with
    | some (.slot i, e1) => if dictIn i e1 then match evE Φ k e1 with
      | some (.val k, e2) => match evE Φ x e2 with
        | some (.val x, e3) => match e3[i]?.bind Slot.mo? with
          | some m => match dlook m k with
            | some r => some (.val (r.getD x), e3)
            | none => none
          | none => none
        | _ => none
      | _ => none
      else none
    | _ => none := rfl
@[simp] theorem q_anil23  (env : En) : evE Φ (.anil) env = none := rfl
@[simp] theorem q_acons24 (u0) (u1) (env : En) : evE Φ (.acons u0 u1) env = none := rfl
@[simp] theorem q_astar25 (u0) (u1) (env : En) : evE Φ (.astar u0 u1) env = none := rfl
@[simp] theorem q_gone26  (env : En) : evE Φ (.gone) env = none := rfl
@[simp] theorem q_rng27 (es) (env : En) : evE Φ (.rng es) env = match evA Φ es env with
    | some (ps, e1) => match pks ps e1 with
      | some ds => match rngOf ds with
        | some xs => some (.its xs, e1)
        | none => none
      | none => none
    | none => none := rfl
@[simp] theorem q_enm28 (e) (env : En) : evE Φ (.enm e) env = match evE Φ e env with
    | some (p, e1) => match fz p e1 with
      | some (.lst ds, e2) => some (.its (enumD ds), e2)
      | _ => none
    | none => none := rfl
@[simp] theorem q_zip29 (a) (b) (env : En) : evE Φ (.zip a b) env = match evE Φ a env with
    | some (p, e1) => match evE Φ b e1 with
      | some (q, e2) => match fz p e2 with
        | some (x, e3) => match fz q e3 with
          | some (y, e4) => match zipOp x y with
            | some ds => some (.its ds, e4)
            | none => none
          | none => none
        | none => none
      | none => none
    | none => none := rfl
@[simp] theorem q_items30 (u0) (env : En) : evE Φ (.items u0) env = none := rfl
@[simp] theorem qa_anil0  (env : En) : evA Φ (.anil) env = some ([], env) := rfl
@[simp] theorem qa_acons1 (e) (es) (env : En) : evA Φ (.acons e es) env = match evE Φ e env with
    | some (p, e1) => match evA Φ es e1 with
      | some (ps, e2) => some (p :: ps, e2)
      | none => none
    | none => none := rfl
@[simp] theorem qa_astar2 (e) (es) (env : En) : evA Φ (.astar e es) env = match evE Φ e env with
    | some (p, e1) => match pk p e1 with
      | some x => match x.seq? with
        | some ds => match evA Φ es e1 with
          | some (ps, e2) => some (ds.map P.val ++ ps, e2)
          | none => none
        | none => none
      | none => none
    | none => none := rfl
@[simp] theorem qo_gone0  (env : En) : evO Φ (.gone) env = some (none, env) := rfl
@[simp] theorem qo_acons1 (e) (u0) (env : En) : evO Φ (.acons e u0) env = match evE Φ e env with
    | some (.val (.int i), e1) => some (some i, e1)
    | _ => none := rfl
@[simp] theorem qc_anil0  (env : En) : evC Φ (.anil) env = some (true, env) := rfl
@[simp] theorem qc_acons1 (e) (env : En) : evC Φ (.acons e .anil) env = match evE Φ e env with
    | some (.val (.bl b), e1) => some (b, e1)
    | _ => none := rfl
@[simp] theorem qs_nop0  (env : En) : evS Φ (.nop) env = some (.nx env) := rfl
@[simp] theorem qs_never1  (env : En) : evS Φ (.never) env = none := rfl
@[simp] theorem qs_brk2  (env : En) : evS Φ (.brk) env = some (.bk env) := rfl
@[simp] theorem qs_cnt3  (env : En) : evS Φ (.cnt) env = some (.ct env) := rfl
@[simp] theorem qs_seq4 (a) (b) (env : En) : evS Φ (.seq a b) env = match evS Φ a env with
    | some (.nx e) => evS Φ b e
    | o => o := rfl
@[simp] theorem qs_exp5 (e) (env : En) : evS Φ (.exp e) env = match evE Φ e env with
    | some (_, e1) => some (.nx e1)
    | none => none := rfl
@[simp] theorem qs_asg6 (t) (e) (env : En) : evS Φ (.asg t e) env = match evE Φ e env with
    | some (p, e1) => match setP t p e1 with
      | some e2 => some (.nx e2)
      | none => none
    | none => none := rfl
@[simp] theorem qs_par7 (is) (es) (env : En) : evS Φ (.par is es) env = match evA Φ es env with
    | some (ps, e1) => match rsPs ps e1 with
      | some (qs, e2) => match setVs is qs e2 with
        | some e3 => some (.nx e3)
        | none => none
      | none => none
    | none => none := rfl
@[simp] theorem qs_put8 (o) (i) (v) (env : En) : evS Φ (.put o i v) env = match evE Φ v env with
    | some (pv, e1) => match evE Φ o e1 with
      | some (.slot s, e2) => match evE Φ i e2 with
        | some (.val k, e3) => match fz pv e3 with
          | some (d, e4) => match e4[s]? with
            | some (.own f m) => match putAt m k d with
              | some m' => some (.nx (e4.set s (.own f m')))
              | none => none
            | _ => none
          | none => none
        | _ => none
      | _ => none
    | none => none := rfl
@[simp] theorem qs_ret9 (e) (env : En) : evS Φ (.ret e) env = match evE Φ e env with
    | some (p, e1) => match retOf p e1 with
      | some (r, e2) => some (.rt r e2)
      | none => none
    | none => none := rfl
@[simp] theorem qs_retN10  (env : En) : evS Φ (.retN) env = some (.rt (.val .non) env) := rfl
@[simp] theorem qs_ite11 (c) (a) (b) (env : En) : evS Φ (.ite c a b) env = match evT Φ c env with
    | some (true, e1) => evS Φ a e1
    | some (false, e1) => evS Φ b e1
    | none => none := rfl
@[simp] theorem qs_whl12 (n) (c) (b) (env : En) : evS Φ (.whl n c b) env = whlGo (evT Φ c) (evS Φ b) n env := rfl
end
end Mi
namespace Mi
open PySem PySem.Spec PyProof.Rows L2
@[simp] theorem q_lc {Φ : Nat → Fn} (vs tg it cs elt) (env : En) : evE Φ (.lc vs tg it cs elt) env = match itStart Φ it env with
    | some (xs, lk, e1) => if xs.length ≤ lim then
        match lcGo (lcF Φ vs tg cs elt) xs (wipeS e1 vs) with
        | some (ds, e2) => some (.new (.lst ds), freeS lk (backS e1 e2 vs))
        | none => none
      else none
    | none => none := rfl
@[simp] theorem qs_for {Φ : Nat → Fn} (t it b) (env : En) : evS Φ (.for_ t it b) env = match itStart Φ it env with
    | some (xs, lk, e1) => match forGo (forF Φ t b) xs e1 with
      | some (.nx e2) => some (.nx (freeS lk e2))
      | some (.rt r e2) => some (.rt r (freeS lk e2))
      | _ => none
    | none => none := rfl
@[simp] theorem free_un : Slot.un.free = true := rfl
@[simp] theorem free_dat (d : D) : (Slot.dat d).free = true := rfl
@[simp] theorem free_own (m : MO) : (Slot.own true m).free = true := rfl
end Mi

namespace G
open PySem PySem.Spec PyProof.Rows L2 Mi
def top (i : Nat) : Stmt := PySem.Challenge.pw_whicheverlit_k44_whole_grids_chased.main.body.getD i (.Pass ⟨0, 0, 0, 0⟩)
def nms : List Str := [(Str.ofString "_law_cells"), (Str.ofString "_law_pot"), (Str.ofString "_law_take"), (Str.ofString "_law_of"), (Str.ofString "_law_sum"), (Str.ofString "_law_side"), (Str.ofString "_law_behind"), (Str.ofString "_law_chase"), (Str.ofString "_law_some"), (Str.ofString "_law_line"), (Str.ofString "_law_shades"), (Str.ofString "is_integer"), (Str.ofString "is_between"), (Str.ofString "are_between"), (Str.ofString "check_grid"), (Str.ofString "check_kind_alone"), (Str.ofString "check_chase"), (Str.ofString "sum_by"), (Str.ofString "in_row"), (Str.ofString "chase"), (Str.ofString "dark"), (Str.ofString "lefts"), (Str.ofString "left_rows"), (Str.ofString "is_ascending"), (Str.ofString "is_line"), (Str.ofString "are_lines"), (Str.ofString "check_shades"), (Str.ofString "behind_strokes"), (Str.ofString "strokes_behind"), (Str.ofString "check_line"), (Str.ofString "chased"), (Str.ofString "_law_right"), (Str.ofString "law")]
def cst : List (Str × D) := [((Str.ofString "OWN"), (.str (Str.ofString "own"))), ((Str.ofString "SHUT"), (.str (Str.ofString "shut"))), ((Str.ofString "MOST_SIDE"), (.int (12)))]
abbrev s0 : Stmt := top 39
def n0 : List Str := [(Str.ofString "script"), (Str.ofString "most")]
def p0 : List Str := [(Str.ofString "script"), (Str.ofString "most")]
abbrev s1 : Stmt := top 35
def n1 : List Str := [(Str.ofString "script"), (Str.ofString "place"), (Str.ofString "cell"), (Str.ofString "own"), (Str.ofString "small")]
def p1 : List Str := [(Str.ofString "script"), (Str.ofString "place")]
abbrev s2 : Stmt := top 36
def n2 : List Str := [(Str.ofString "pot"), (Str.ofString "upto"), (Str.ofString "prime"), (Str.ofString "blend"), (Str.ofString "digit")]
def p2 : List Str := [(Str.ofString "pot"), (Str.ofString "upto")]
abbrev s3 : Stmt := top 37
def n3 : List Str := [(Str.ofString "pot"), (Str.ofString "some")]
def p3 : List Str := [(Str.ofString "pot"), (Str.ofString "some")]
abbrev s4 : Stmt := top 42
def n4 : List Str := [(Str.ofString "lots"), (Str.ofString "every"), (Str.ofString "lot"), (Str.ofString "at"), (Str.ofString "room")]
def p4 : List Str := [(Str.ofString "lots")]
abbrev s5 : Stmt := top 40
def n5 : List Str := [(Str.ofString "columns"), (Str.ofString "kind"), (Str.ofString "line"), (Str.ofString "lots"), (Str.ofString "column"), (Str.ofString "step")]
def p5 : List Str := [(Str.ofString "columns"), (Str.ofString "kind"), (Str.ofString "line")]
abbrev s6 : Stmt := top 41
def n6 : List Str := [(Str.ofString "grid"), (Str.ofString "kind"), (Str.ofString "shades"), (Str.ofString "strokes"), (Str.ofString "row"), (Str.ofString "rows"), (Str.ofString "found"), (Str.ofString "near"), (Str.ofString "at")]
def p6 : List Str := [(Str.ofString "grid"), (Str.ofString "kind"), (Str.ofString "shades"), (Str.ofString "strokes")]
abbrev s7 : Stmt := top 43
def n7 : List Str := [(Str.ofString "grid"), (Str.ofString "kind"), (Str.ofString "shades"), (Str.ofString "first"), (Str.ofString "row"), (Str.ofString "strokes"), (Str.ofString "now")]
def p7 : List Str := [(Str.ofString "grid"), (Str.ofString "kind"), (Str.ofString "shades"), (Str.ofString "first")]
abbrev s8 : Stmt := top 38
def n8 : List Str := [(Str.ofString "pot"), (Str.ofString "some"), (Str.ofString "many"), (Str.ofString "lap"), (Str.ofString "left"), (Str.ofString "found")]
def p8 : List Str := [(Str.ofString "pot"), (Str.ofString "some"), (Str.ofString "many")]
abbrev s9 : Stmt := top 44
def n9 : List Str := [(Str.ofString "pot"), (Str.ofString "columns")]
def p9 : List Str := [(Str.ofString "pot"), (Str.ofString "columns")]
abbrev s10 : Stmt := top 45
def n10 : List Str := [(Str.ofString "pot"), (Str.ofString "grid"), (Str.ofString "row")]
def p10 : List Str := [(Str.ofString "pot"), (Str.ofString "grid")]
abbrev s11 : Stmt := top 8
def n11 : List Str := [(Str.ofString "value")]
def p11 : List Str := [(Str.ofString "value")]
abbrev s12 : Stmt := top 9
def n12 : List Str := [(Str.ofString "value"), (Str.ofString "low"), (Str.ofString "high")]
def p12 : List Str := [(Str.ofString "value"), (Str.ofString "low"), (Str.ofString "high")]
abbrev s13 : Stmt := top 10
def n13 : List Str := [(Str.ofString "value"), (Str.ofString "low"), (Str.ofString "high"), (Str.ofString "one")]
def p13 : List Str := [(Str.ofString "value"), (Str.ofString "low"), (Str.ofString "high")]
abbrev s14 : Stmt := top 20
def n14 : List Str := [(Str.ofString "value")]
def p14 : List Str := [(Str.ofString "value")]
abbrev s15 : Stmt := top 17
def n15 : List Str := [(Str.ofString "kind")]
def p15 : List Str := [(Str.ofString "kind")]
abbrev s16 : Stmt := top 24
def n16 : List Str := [(Str.ofString "grid"), (Str.ofString "kind")]
def p16 : List Str := [(Str.ofString "grid"), (Str.ofString "kind")]
abbrev s17 : Stmt := top 15
def n17 : List Str := [(Str.ofString "lots"), (Str.ofString "count"), (Str.ofString "lot"), (Str.ofString "room")]
def p17 : List Str := [(Str.ofString "lots")]
abbrev s18 : Stmt := top 26
def n18 : List Str := [(Str.ofString "columns"), (Str.ofString "kind"), (Str.ofString "line"), (Str.ofString "lots"), (Str.ofString "column"), (Str.ofString "step")]
def p18 : List Str := [(Str.ofString "columns"), (Str.ofString "kind"), (Str.ofString "line")]
abbrev s19 : Stmt := top 29
def n19 : List Str := [(Str.ofString "grid"), (Str.ofString "kind"), (Str.ofString "shades"), (Str.ofString "first"), (Str.ofString "shade"), (Str.ofString "before"), (Str.ofString "line"), (Str.ofString "found")]
def p19 : List Str := [(Str.ofString "grid"), (Str.ofString "kind"), (Str.ofString "shades"), (Str.ofString "first")]
abbrev s20 : Stmt := top 31
def n20 : List Str := [(Str.ofString "grid")]
def p20 : List Str := [(Str.ofString "grid")]
abbrev s21 : Stmt := top 32
def n21 : List Str := [(Str.ofString "grid"), (Str.ofString "kind"), (Str.ofString "column")]
def p21 : List Str := [(Str.ofString "grid"), (Str.ofString "kind")]
abbrev s22 : Stmt := top 33
def n22 : List Str := [(Str.ofString "grid"), (Str.ofString "kind")]
def p22 : List Str := [(Str.ofString "grid"), (Str.ofString "kind")]
abbrev s23 : Stmt := top 11
def n23 : List Str := [(Str.ofString "items"), (Str.ofString "one"), (Str.ofString "other")]
def p23 : List Str := [(Str.ofString "items")]
abbrev s24 : Stmt := top 21
def n24 : List Str := [(Str.ofString "columns"), (Str.ofString "value")]
def p24 : List Str := [(Str.ofString "columns"), (Str.ofString "value")]
abbrev s25 : Stmt := top 23
def n25 : List Str := [(Str.ofString "grid"), (Str.ofString "value"), (Str.ofString "line")]
def p25 : List Str := [(Str.ofString "grid"), (Str.ofString "value")]
abbrev s26 : Stmt := top 25
def n26 : List Str := [(Str.ofString "grid"), (Str.ofString "kind"), (Str.ofString "shades")]
def p26 : List Str := [(Str.ofString "grid"), (Str.ofString "kind"), (Str.ofString "shades")]
abbrev s27 : Stmt := top 27
def n27 : List Str := [(Str.ofString "grid"), (Str.ofString "kind"), (Str.ofString "shades"), (Str.ofString "strokes"), (Str.ofString "row"), (Str.ofString "rows"), (Str.ofString "found"), (Str.ofString "near"), (Str.ofString "at")]
def p27 : List Str := [(Str.ofString "grid"), (Str.ofString "kind"), (Str.ofString "shades"), (Str.ofString "strokes")]
abbrev s28 : Stmt := top 28
def n28 : List Str := [(Str.ofString "grid"), (Str.ofString "kind"), (Str.ofString "shades"), (Str.ofString "strokes")]
def p28 : List Str := [(Str.ofString "grid"), (Str.ofString "kind"), (Str.ofString "shades"), (Str.ofString "strokes")]
abbrev s29 : Stmt := top 22
def n29 : List Str := [(Str.ofString "columns"), (Str.ofString "value")]
def p29 : List Str := [(Str.ofString "columns"), (Str.ofString "value")]
abbrev s30 : Stmt := top 30
def n30 : List Str := [(Str.ofString "grid"), (Str.ofString "kind"), (Str.ofString "shades"), (Str.ofString "first")]
def p30 : List Str := [(Str.ofString "grid"), (Str.ofString "kind"), (Str.ofString "shades"), (Str.ofString "first")]
abbrev s31 : Stmt := top 46
def n31 : List Str := [(Str.ofString "pot"), (Str.ofString "most"), (Str.ofString "column"), (Str.ofString "grid"), (Str.ofString "kind"), (Str.ofString "shades"), (Str.ofString "strokes"), (Str.ofString "first"), (Str.ofString "due"), (Str.ofString "now"), (Str.ofString "rows"), (Str.ofString "dark_v"), (Str.ofString "line"), (Str.ofString "one")]
def p31 : List Str := [(Str.ofString "pot")]
abbrev s32 : Stmt := top 47
def n32 : List Str := [(Str.ofString "script"), (Str.ofString "place"), (Str.ofString "pot"), (Str.ofString "lap")]
def p32 : List Str := [(Str.ofString "script")]
def dt : Pos → Bool := fun _ => false
/-- _law_cells -/
def b0 : S :=
  (.seq (.ret (.lrng (.acons (.bi .max2 (.acons (.cst (.int 1)) (.acons (.bi .min2 (.acons (.var 1) (.acons (.bi .len (.acons (.var 0) .anil)) .anil))) .anil))) .anil)))
    .nop)
/-- _law_pot -/
def b1 : S :=
  (.seq (.asg (.nm 2) (.ite (.cmp .lt (.var 1) (.bi .len (.acons (.var 0) .anil))) (.ix (.var 0) (.var 1)) (.bin .add (.bin .add (.bin .mod (.bi .sum (.acons (.slc (.var 0) .gone (.acons (.cst (.int 1)) .anil)) .anil)) (.cst (.int 1000253))) (.bin .mul (.cst (.int 6011)) (.var 1))) (.cst (.int 733)))))
    (.seq (.asg (.nm 3) (.bin .mul (.bin .mod (.bi .int (.acons (.bi .abs (.acons (.var 2) .anil)) .anil)) (.bin .pow (.bin .pow (.cst (.int 10)) (.cst (.int 60))) (.cst (.int 5)))) (.bi .int (.acons (.cmp .ge (.bi .abs (.acons (.var 2) .anil)) (.bin .pow (.cst (.int 10)) (.cst (.int 18)))) .anil))))
    (.seq (.asg (.nm 4) (.bin .mod (.bi .int (.acons (.var 2) .anil)) (.cst (.int 2305843009213693951))))
    (.seq (.ret (.lst (.acons (.var 3) (.acons (.bin .mod (.bi .int (.acons (.bin .add (.bin .add (.bin .mul (.var 4) (.cst (.int 70843))) (.bin .mul (.bin .mul (.cst (.int 7477)) (.var 1)) (.var 1))) (.cst (.int 1181))) .anil)) (.cst (.int 2305843009213693921))) (.acons (.cst (.int 0)) .anil)))))
    .nop))))
/-- _law_take -/
def b2 : S :=
  (.seq (.ite (.cmp .gt (.ix (.var 0) (.cst (.int 0))) (.cst (.int 0))) (.seq (.asg (.nm 4) (.bin .mod (.bi .int (.acons (.ix (.var 0) (.cst (.int 0))) .anil)) (.var 1)))
    (.seq (.put (.var 0) (.cst (.int 0)) (.bin .fdiv (.ix (.var 0) (.cst (.int 0))) (.var 1)))
    (.seq (.ret (.var 4))
    .nop))) .nop)
    (.seq (.put (.var 0) (.cst (.int 2)) (.bin .add (.ix (.var 0) (.cst (.int 2))) (.cst (.int 1))))
    (.seq (.asg (.nm 2) (.ix (.lst (.acons (.cst (.int 2147482367)) (.acons (.cst (.int 2147482361)) (.acons (.cst (.int 2147482351)) (.acons (.cst (.int 2147482343)) (.acons (.cst (.int 2147482327)) .anil)))))) (.bin .mod (.bi .int (.acons (.ix (.var 0) (.cst (.int 2))) .anil)) (.cst (.int 5)))))
    (.seq (.asg (.nm 3) (.bin .mod (.bi .int (.acons (.bin .pow (.bi .int (.acons (.bin .add (.bin .add (.ix (.var 0) (.cst (.int 1))) (.bin .mul (.bin .mul (.cst (.int 74897)) (.ix (.var 0) (.cst (.int 2)))) (.ix (.var 0) (.cst (.int 2))))) (.cst (.int 1931))) .anil)) (.cst (.int 3))) .anil)) (.var 2)))
    (.seq (.asg (.nm 3) (.bin .mod (.bi .int (.acons (.bin .mul (.var 3) (.bin .add (.bin .mod (.bi .int (.acons (.var 3) .anil)) (.cst (.int 8053))) (.bin .mul (.cst (.int 263)) (.ix (.var 0) (.cst (.int 2)))))) .anil)) (.cst (.int 2305843009213693907))))
    (.seq (.ret (.bin .mod (.bi .int (.acons (.bin .fdiv (.var 3) (.cst (.int 163))) .anil)) (.var 1)))
    .nop))))))
/-- _law_of -/
def b3 : S :=
  (.seq (.ret (.ix (.var 1) (.call 2 (.acons (.var 0) (.acons (.bi .len (.acons (.var 1) .anil)) .anil)))))
    .nop)
/-- _law_sum -/
def b4 : S :=
  (.seq (.asg (.nm 1) (.bi .sorted (.acons (.sumL (.lc [2] (.nm 2) (.var 0) .anil (.bi .list (.acons (.var 2) .anil)))) .anil)))
    (.seq (.ret (.bi .tuple (.acons (.lc [3, 4] (.tp (.cons (.nm 3) (.cons (.nm 4) .nil))) (.enm (.var 1)) (.acons (.and (.cmp .ne (.slc (.var 1) (.acons (.bin .sub (.var 3) (.cst (.int 1))) .anil) (.acons (.var 3) .anil)) (.lst (.acons (.var 4) .anil))) (.cmp .eq (.bin .mod (.cnt (.var 1) (.var 4)) (.cst (.int 2))) (.cst (.int 1)))) .anil) (.var 4)) .anil)))
    .nop))
/-- _law_side -/
def b5 : S :=
  (.seq (.asg (.nm 3) (.lc [4] (.nm 4) (.var 2) .anil (.lc [5] (.nm 5) (.tup (.acons (.neg (.cst (.int 1))) (.acons (.cst (.int 1)) .anil))) (.acons (.chn .le .lt (.cst (.int 0)) (.bin .add (.var 4) (.var 5)) (.var 0)) .anil) (.bin .add (.var 4) (.var 5)))))
    (.seq (.ret (.call 4 (.acons (.bin .add (.var 3) (.ite (.cmp .eq (.var 1) (.cst (.str (Str.ofString "own")))) (.lst (.acons (.var 2) .anil)) (.lst .anil))) .anil)))
    .nop))
/-- _law_behind -/
def b6 : S :=
  (.seq (.par [5, 6] (.acons (.ix (.var 0) (.cst (.int 0))) (.acons (.lst .anil) .anil)))
    (.seq (.for_ (.nm 4) (.rng (.acons (.var 5) .anil)) (.seq (.asg (.nm 7) (.lc [8] (.nm 8) (.tup (.acons (.bin .sub (.var 4) (.cst (.int 1))) (.acons (.bin .add (.var 4) (.cst (.int 1))) .anil))) (.acons (.chn .le .lt (.cst (.int 0)) (.var 8) (.var 5)) .anil) (.ix (.var 3) (.var 8))))
    (.seq (.exp (.mth .append (.var 6) (.acons (.call 4 (.acons (.bin .add (.lst (.acons (.ix (.var 2) (.var 4)) (.acons (.call 5 (.acons (.ix (.var 0) (.cst (.int 1))) (.acons (.var 1) (.acons (.ix (.var 3) (.var 4)) .anil)))) .anil))) (.var 7)) .anil)) .anil)))
    .nop)))
    (.seq (.ret (.bi .tuple (.acons (.var 6) .anil)))
    .nop)))
/-- _law_chase -/
def b7 : S :=
  (.seq (.par [5, 6] (.acons (.bin .mul (.lst (.acons (.tup .anil) .anil)) (.ix (.var 0) (.cst (.int 0)))) (.acons (.var 2) .anil)))
    (.seq (.for_ (.nm 4) (.rng (.acons (.ix (.var 0) (.cst (.int 0))) .anil)) (.seq (.put (.var 5) (.var 4) (.ite (.cmp .eq (.var 4) (.cst (.int 0))) (.var 3) (.ix (.var 6) (.bin .sub (.var 4) (.cst (.int 1))))))
    (.seq (.asg (.nm 6) (.call 6 (.acons (.var 0) (.acons (.var 1) (.acons (.var 2) (.acons (.var 5) .anil))))))
    .nop)))
    (.seq (.ret (.tup (.acons (.bi .tuple (.acons (.var 5) .anil)) (.acons (.var 6) .anil))))
    .nop)))
/-- _law_some -/
def b8 : S :=
  (.seq (.par [4, 5] (.acons (.bi .list (.acons (.var 1) .anil)) (.acons (.lst .anil) .anil)))
    (.seq (.for_ (.nm 3) (.rng (.acons (.var 2) .anil)) (.seq (.exp (.mth .append (.var 5) (.acons (.mth .popAt (.var 4) (.acons (.call 2 (.acons (.var 0) (.acons (.bi .len (.acons (.var 4) .anil)) .anil))) .anil)) .anil)))
    .nop))
    (.seq (.ret (.var 5))
    .nop)))
/-- _law_line -/
def b9 : S :=
  (.seq (.ret (.bi .tuple (.acons (.bi .sorted (.acons (.call 8 (.acons (.var 0) (.acons (.lrng (.acons (.var 1) .anil)) (.acons (.call 2 (.acons (.var 0) (.acons (.bin .add (.var 1) (.cst (.int 1))) .anil))) .anil)))) .anil)) .anil)))
    .nop)
/-- _law_shades -/
def b10 : S :=
  (.seq (.ret (.bi .tuple (.acons (.lc [2] (.nm 2) (.rng (.acons (.ix (.var 1) (.cst (.int 0))) .anil)) .anil (.call 9 (.acons (.var 0) (.acons (.ix (.var 1) (.cst (.int 1))) .anil)))) .anil)))
    .nop)
/-- is_integer -/
def b11 : S :=
  (.seq (.ret (.and (.bi (.isi "int") (.acons (.var 0) .anil)) (.not (.bi (.isi "bool") (.acons (.var 0) .anil)))))
    .nop)
/-- is_between -/
def b12 : S :=
  (.seq (.ret (.and (.call 11 (.acons (.var 0) .anil)) (.chn .le .le (.var 1) (.var 0) (.var 2))))
    .nop)
/-- are_between -/
def b13 : S :=
  (.seq (.ret (.and (.bi (.isi "tuple") (.acons (.var 0) .anil)) (.bi .all (.acons (.lc [3] (.nm 3) (.var 0) .anil (.call 12 (.acons (.var 3) (.acons (.var 1) (.acons (.var 2) .anil))))) .anil))))
    .nop)
/-- check_grid -/
def b14 : S :=
  (.seq (.ite (.or (.not (.call 13 (.acons (.var 0) (.acons (.cst (.int 1)) (.acons (.cst (.int 12)) .anil))))) (.cmp .ne (.bi .len (.acons (.var 0) .anil)) (.cst (.int 2)))) (.seq .never
    .nop) .nop)
    .nop)
/-- check_kind_alone -/
def b15 : S :=
  (.seq (.ite (.or (.not (.bi (.isi "str") (.acons (.var 0) .anil))) (.cmp .nin (.var 0) (.tup (.acons (.cst (.str (Str.ofString "own"))) (.acons (.cst (.str (Str.ofString "shut"))) .anil))))) (.seq .never
    .nop) .nop)
    .nop)
/-- check_chase -/
def b16 : S :=
  (.seq (.exp (.call 14 (.acons (.var 0) .anil)))
    (.seq (.exp (.call 15 (.acons (.var 1) .anil)))
    .nop))
/-- sum_by -/
def b17 : S :=
  (.seq (.asg (.nm 1) (.dnew false))
    (.seq (.for_ (.nm 2) (.var 0) (.seq (.for_ (.nm 3) (.var 2) (.seq (.put (.var 1) (.var 3) (.bin .add (.dget (.var 1) (.var 3) (.cst (.int 0))) (.cst (.int 1))))
    .nop))
    .nop))
    (.seq (.ret (.bi .tuple (.acons (.bi .sorted (.acons (.lc [3] (.nm 3) (.var 1) (.acons (.cmp .eq (.bin .mod (.ix (.var 1) (.var 3)) (.cst (.int 2))) (.cst (.int 1))) .anil) (.var 3)) .anil)) .anil)))
    .nop)))
/-- in_row -/
def b18 : S :=
  (.seq (.asg (.nm 3) (.lc [4] (.nm 4) (.var 2) .anil (.lc [5] (.nm 5) (.tup (.acons (.neg (.cst (.int 1))) (.acons (.cst (.int 1)) .anil))) (.acons (.chn .le .lt (.cst (.int 0)) (.bin .add (.var 4) (.var 5)) (.var 0)) .anil) (.bin .add (.var 4) (.var 5)))))
    (.seq (.ret (.ite (.cmp .eq (.var 1) (.cst (.str (Str.ofString "own")))) (.call 17 (.acons (.lst (.astar (.var 3) (.acons (.var 2) .anil))) .anil)) (.call 17 (.acons (.var 3) .anil))))
    .nop))
/-- chase -/
def b19 : S :=
  (.seq (.par [5, 6, 7] (.acons (.tup .anil) (.acons (.var 3) (.acons (.lst .anil) .anil))))
    (.seq (.for_ (.nm 4) (.var 2) (.seq (.exp (.mth .append (.var 7) (.acons (.var 6) .anil)))
    (.seq (.par [5, 6] (.acons (.var 6) (.acons (.call 17 (.acons (.lst (.acons (.var 4) (.acons (.call 18 (.acons (.ix (.var 0) (.cst (.int 1))) (.acons (.var 1) (.acons (.var 6) .anil)))) (.acons (.var 5) .anil)))) .anil)) .anil)))
    .nop)))
    (.seq (.ret (.tup (.acons (.bi .tuple (.acons (.var 7) .anil)) (.acons (.var 6) .anil))))
    .nop)))
/-- dark -/
def b20 : S :=
  (.seq (.ret (.bin .mul (.tup (.acons (.tup .anil) .anil)) (.ix (.var 0) (.cst (.int 0)))))
    .nop)
/-- lefts -/
def b21 : S :=
  (.seq (.ret (.lc [2] (.nm 2) (.rng (.acons (.ix (.var 0) (.cst (.int 1))) .anil)) .anil (.ix (.call 19 (.acons (.var 0) (.acons (.var 1) (.acons (.call 20 (.acons (.var 0) .anil)) (.acons (.tup (.acons (.var 2) .anil)) .anil))))) (.cst (.int 1)))))
    .nop)
/-- left_rows -/
def b22 : S :=
  (.seq (.exp (.call 16 (.acons (.var 0) (.acons (.var 1) .anil))))
    (.seq (.ret (.bi .tuple (.acons (.call 21 (.acons (.var 0) (.acons (.var 1) .anil))) .anil)))
    .nop))
/-- is_ascending -/
def b23 : S :=
  (.seq (.ret (.bi .all (.acons (.lc [1, 2] (.tp (.cons (.nm 1) (.cons (.nm 2) .nil))) (.zip (.var 0) (.slc (.var 0) (.acons (.cst (.int 1)) .anil) .gone)) .anil (.cmp .lt (.var 1) (.var 2))) .anil)))
    .nop)
/-- is_line -/
def b24 : S :=
  (.seq (.ret (.and (.call 13 (.acons (.var 1) (.acons (.cst (.int 0)) (.acons (.bin .sub (.var 0) (.cst (.int 1))) .anil)))) (.call 23 (.acons (.var 1) .anil))))
    .nop)
/-- are_lines -/
def b25 : S :=
  (.seq (.ret (.and (.bi (.isi "tuple") (.acons (.var 1) .anil)) (.and (.cmp .eq (.bi .len (.acons (.var 1) .anil)) (.ix (.var 0) (.cst (.int 0)))) (.bi .all (.acons (.lc [2] (.nm 2) (.var 1) .anil (.call 24 (.acons (.ix (.var 0) (.cst (.int 1))) (.acons (.var 2) .anil)))) .anil)))))
    .nop)
/-- check_shades -/
def b26 : S :=
  (.seq (.exp (.call 16 (.acons (.var 0) (.acons (.var 1) .anil))))
    (.seq (.ite (.not (.call 25 (.acons (.var 0) (.acons (.var 2) .anil)))) (.seq .never
    .nop) .nop)
    .nop))
/-- behind_strokes -/
def b27 : S :=
  (.seq (.par [5, 6] (.acons (.ix (.var 0) (.cst (.int 0))) (.acons (.lst .anil) .anil)))
    (.seq (.for_ (.nm 4) (.rng (.acons (.var 5) .anil)) (.seq (.asg (.nm 7) (.lc [8] (.nm 8) (.tup (.acons (.bin .sub (.var 4) (.cst (.int 1))) (.acons (.bin .add (.var 4) (.cst (.int 1))) .anil))) (.acons (.chn .le .lt (.cst (.int 0)) (.var 8) (.var 5)) .anil) (.ix (.var 3) (.var 8))))
    (.seq (.exp (.mth .append (.var 6) (.acons (.call 17 (.acons (.lst (.acons (.ix (.var 2) (.var 4)) (.acons (.call 18 (.acons (.ix (.var 0) (.cst (.int 1))) (.acons (.var 1) (.acons (.ix (.var 3) (.var 4)) .anil)))) (.astar (.var 7) .anil)))) .anil)) .anil)))
    .nop)))
    (.seq (.ret (.bi .tuple (.acons (.var 6) .anil)))
    .nop)))
/-- strokes_behind -/
def b28 : S :=
  (.seq (.exp (.call 26 (.acons (.var 0) (.acons (.var 1) (.acons (.var 2) .anil)))))
    (.seq (.ite (.not (.call 25 (.acons (.var 0) (.acons (.var 3) .anil)))) (.seq .never
    .nop) .nop)
    (.seq (.ret (.call 27 (.acons (.var 0) (.acons (.var 1) (.acons (.var 2) (.acons (.var 3) .anil))))))
    .nop)))
/-- check_line -/
def b29 : S :=
  (.seq (.ite (.not (.call 24 (.acons (.var 0) (.acons (.var 1) .anil)))) (.seq .never
    .nop) .nop)
    .nop)
/-- chased -/
def b30 : S :=
  (.seq (.exp (.call 26 (.acons (.var 0) (.acons (.var 1) (.acons (.var 2) .anil)))))
    (.seq (.exp (.call 29 (.acons (.ix (.var 0) (.cst (.int 1))) (.acons (.var 3) .anil))))
    (.seq (.ret (.call 19 (.acons (.var 0) (.acons (.var 1) (.acons (.var 2) (.acons (.var 3) .anil))))))
    .nop)))
/-- _law_right -/
def b31 : S :=
  (.seq (.asg (.nm 1) (.call 3 (.acons (.var 0) (.acons (.lst (.acons (.cst (.int 5)) (.acons (.cst (.int 12)) .anil))) .anil))))
    (.seq (.par [3, 4] (.acons (.tup (.acons (.bin .add (.cst (.int 1)) (.call 2 (.acons (.var 0) (.acons (.var 1) .anil)))) (.acons (.bin .add (.cst (.int 1)) (.call 2 (.acons (.var 0) (.acons (.var 1) .anil)))) .anil))) (.acons (.call 3 (.acons (.var 0) (.acons (.lst (.acons (.cst (.str (Str.ofString "own"))) (.acons (.cst (.str (Str.ofString "shut"))) .anil))) .anil))) .anil)))
    (.seq (.par [5, 6, 7] (.acons (.call 10 (.acons (.var 0) (.acons (.var 3) .anil))) (.acons (.call 10 (.acons (.var 0) (.acons (.var 3) .anil))) (.acons (.call 9 (.acons (.var 0) (.acons (.ix (.var 3) (.cst (.int 1))) .anil))) .anil))))
    (.seq (.ite (.cmp .ne (.bi .repr (.acons (.call 28 (.acons (.var 3) (.acons (.var 4) (.acons (.var 5) (.acons (.var 6) .anil))))) .anil)) (.bi .repr (.acons (.call 6 (.acons (.var 3) (.acons (.var 4) (.acons (.var 5) (.acons (.var 6) .anil))))) .anil))) (.seq (.ret (.cst (.bl false)))
    .nop) .nop)
    (.seq (.asg (.tp (.cons (.nm 8) (.cons (.nm 9) .nil))) (.call 7 (.acons (.var 3) (.acons (.var 4) (.acons (.var 5) (.acons (.var 7) .anil))))))
    (.seq (.ite (.or (.cmp .ne (.bi .repr (.acons (.call 30 (.acons (.var 3) (.acons (.var 4) (.acons (.var 5) (.acons (.var 7) .anil))))) .anil)) (.bi .repr (.acons (.tup (.acons (.var 8) (.acons (.ix (.var 9) (.neg (.cst (.int 1)))) .anil))) .anil))) (.bi .any (.acons (.lc [12] (.nm 12) (.slc (.var 9) .gone (.acons (.neg (.cst (.int 1))) .anil)) .anil (.cmp .ne (.var 12) (.tup .anil))) .anil))) (.seq (.ret (.cst (.bl false)))
    .nop) .nop)
    (.seq (.ite (.or (.cmp .ne (.call 28 (.acons (.var 3) (.acons (.var 4) (.acons (.var 5) (.acons (.var 8) .anil))))) (.var 9)) (.cmp .ne (.call 28 (.acons (.var 3) (.acons (.var 4) (.acons (.var 9) (.acons (.var 8) .anil))))) (.var 5))) (.seq (.ret (.cst (.bl false)))
    .nop) .nop)
    (.seq (.par [10, 11] (.acons (.call 22 (.acons (.var 3) (.acons (.var 4) .anil))) (.acons (.bin .mul (.tup (.acons (.tup .anil) .anil)) (.ix (.var 3) (.cst (.int 0)))) .anil)))
    (.seq (.asg (.nm 2) (.call 2 (.acons (.var 0) (.acons (.ix (.var 3) (.cst (.int 1))) .anil))))
    (.seq (.ite (.or (.cmp .ne (.bi .len (.acons (.var 10) .anil)) (.ix (.var 3) (.cst (.int 1)))) (.cmp .ne (.bi .repr (.acons (.ix (.var 10) (.var 2)) .anil)) (.bi .repr (.acons (.ix (.ix (.call 7 (.acons (.var 3) (.acons (.var 4) (.acons (.var 11) (.acons (.tup (.acons (.var 2) .anil)) .anil))))) (.cst (.int 1))) (.neg (.cst (.int 1)))) .anil)))) (.seq (.ret (.cst (.bl false)))
    .nop) .nop)
    (.seq (.ret (.cmp .eq (.call 4 (.acons (.bin .add (.lst (.acons (.ix (.call 30 (.acons (.var 3) (.acons (.var 4) (.acons (.var 5) (.acons (.tup .anil) .anil))))) (.cst (.int 1))) .anil)) (.lc [13] (.nm 13) (.var 7) .anil (.ix (.var 10) (.var 13)))) .anil)) (.ix (.var 9) (.neg (.cst (.int 1))))))
    .nop)))))))))))
/-- law -/
def b32 : S :=
  (.seq (.for_ (.nm 1) (.call 0 (.acons (.var 0) (.acons (.cst (.int 3)) .anil))) (.seq (.asg (.nm 2) (.call 1 (.acons (.var 0) (.acons (.var 1) .anil))))
    (.seq (.ite (.not (.bi .all (.acons (.lc [3] (.nm 3) (.rng (.acons (.cst (.int 5)) .anil)) .anil (.call 31 (.acons (.var 2) .anil))) .anil))) (.seq (.ret (.cst (.bl false)))
    .nop) .nop)
    .nop)))
    (.seq (.ret (.cst (.bl true)))
    .nop))
theorem c0 : (cSs 40 ⟨defScope s0, n0, fun _ => true, cst, nms, dt, 1000000⟩ 12 (defBody s0)).1 = b0 := by kernel_rfl
theorem f0 : FnScope n0 p0 (defScope s0) := ⟨rfl, rfl, rfl, by decide +kernel, by decide +kernel, by decide +kernel, by decide +kernel⟩
theorem c1 : (cSs 40 ⟨defScope s1, n1, fun _ => true, cst, nms, dt, 1000000⟩ 12 (defBody s1)).1 = b1 := by kernel_rfl
theorem f1 : FnScope n1 p1 (defScope s1) := ⟨rfl, rfl, rfl, by decide +kernel, by decide +kernel, by decide +kernel, by decide +kernel⟩
theorem c2 : (cSs 40 ⟨defScope s2, n2, fun _ => true, cst, nms, dt, 1000000⟩ 12 (defBody s2)).1 = b2 := by kernel_rfl
theorem f2 : FnScope n2 p2 (defScope s2) := ⟨rfl, rfl, rfl, by decide +kernel, by decide +kernel, by decide +kernel, by decide +kernel⟩
theorem c3 : (cSs 40 ⟨defScope s3, n3, fun _ => true, cst, nms, dt, 1000000⟩ 12 (defBody s3)).1 = b3 := by kernel_rfl
theorem f3 : FnScope n3 p3 (defScope s3) := ⟨rfl, rfl, rfl, by decide +kernel, by decide +kernel, by decide +kernel, by decide +kernel⟩
theorem c4 : (cSs 40 ⟨defScope s4, n4, fun _ => true, cst, nms, dt, 1000000⟩ 12 (defBody s4)).1 = b4 := by kernel_rfl
theorem f4 : FnScope n4 p4 (defScope s4) := ⟨rfl, rfl, rfl, by decide +kernel, by decide +kernel, by decide +kernel, by decide +kernel⟩
theorem c5 : (cSs 40 ⟨defScope s5, n5, fun _ => true, cst, nms, dt, 1000000⟩ 12 (defBody s5)).1 = b5 := by kernel_rfl
theorem f5 : FnScope n5 p5 (defScope s5) := ⟨rfl, rfl, rfl, by decide +kernel, by decide +kernel, by decide +kernel, by decide +kernel⟩
theorem c6 : (cSs 40 ⟨defScope s6, n6, fun _ => true, cst, nms, dt, 1000000⟩ 12 (defBody s6)).1 = b6 := by kernel_rfl
theorem f6 : FnScope n6 p6 (defScope s6) := ⟨rfl, rfl, rfl, by decide +kernel, by decide +kernel, by decide +kernel, by decide +kernel⟩
theorem c7 : (cSs 40 ⟨defScope s7, n7, fun _ => true, cst, nms, dt, 1000000⟩ 12 (defBody s7)).1 = b7 := by kernel_rfl
theorem f7 : FnScope n7 p7 (defScope s7) := ⟨rfl, rfl, rfl, by decide +kernel, by decide +kernel, by decide +kernel, by decide +kernel⟩
theorem c8 : (cSs 40 ⟨defScope s8, n8, fun _ => true, cst, nms, dt, 1000000⟩ 12 (defBody s8)).1 = b8 := by kernel_rfl
theorem f8 : FnScope n8 p8 (defScope s8) := ⟨rfl, rfl, rfl, by decide +kernel, by decide +kernel, by decide +kernel, by decide +kernel⟩
theorem c9 : (cSs 40 ⟨defScope s9, n9, fun _ => true, cst, nms, dt, 1000000⟩ 12 (defBody s9)).1 = b9 := by kernel_rfl
theorem f9 : FnScope n9 p9 (defScope s9) := ⟨rfl, rfl, rfl, by decide +kernel, by decide +kernel, by decide +kernel, by decide +kernel⟩
theorem c10 : (cSs 40 ⟨defScope s10, n10, fun _ => true, cst, nms, dt, 1000000⟩ 12 (defBody s10)).1 = b10 := by kernel_rfl
theorem f10 : FnScope n10 p10 (defScope s10) := ⟨rfl, rfl, rfl, by decide +kernel, by decide +kernel, by decide +kernel, by decide +kernel⟩
theorem c11 : (cSs 40 ⟨defScope s11, n11, fun _ => true, cst, nms, dt, 1000000⟩ 12 (defBody s11)).1 = b11 := by kernel_rfl
theorem f11 : FnScope n11 p11 (defScope s11) := ⟨rfl, rfl, rfl, by decide +kernel, by decide +kernel, by decide +kernel, by decide +kernel⟩
theorem c12 : (cSs 40 ⟨defScope s12, n12, fun _ => true, cst, nms, dt, 1000000⟩ 12 (defBody s12)).1 = b12 := by kernel_rfl
theorem f12 : FnScope n12 p12 (defScope s12) := ⟨rfl, rfl, rfl, by decide +kernel, by decide +kernel, by decide +kernel, by decide +kernel⟩
theorem c13 : (cSs 40 ⟨defScope s13, n13, fun _ => true, cst, nms, dt, 1000000⟩ 12 (defBody s13)).1 = b13 := by kernel_rfl
theorem f13 : FnScope n13 p13 (defScope s13) := ⟨rfl, rfl, rfl, by decide +kernel, by decide +kernel, by decide +kernel, by decide +kernel⟩
theorem c14 : (cSs 40 ⟨defScope s14, n14, fun _ => true, cst, nms, dt, 1000000⟩ 12 (defBody s14)).1 = b14 := by kernel_rfl
theorem f14 : FnScope n14 p14 (defScope s14) := ⟨rfl, rfl, rfl, by decide +kernel, by decide +kernel, by decide +kernel, by decide +kernel⟩
theorem c15 : (cSs 40 ⟨defScope s15, n15, fun _ => true, cst, nms, dt, 1000000⟩ 12 (defBody s15)).1 = b15 := by kernel_rfl
theorem f15 : FnScope n15 p15 (defScope s15) := ⟨rfl, rfl, rfl, by decide +kernel, by decide +kernel, by decide +kernel, by decide +kernel⟩
theorem c16 : (cSs 40 ⟨defScope s16, n16, fun _ => true, cst, nms, dt, 1000000⟩ 12 (defBody s16)).1 = b16 := by kernel_rfl
theorem f16 : FnScope n16 p16 (defScope s16) := ⟨rfl, rfl, rfl, by decide +kernel, by decide +kernel, by decide +kernel, by decide +kernel⟩
theorem c17 : (cSs 40 ⟨defScope s17, n17, fun _ => true, cst, nms, dt, 1000000⟩ 12 (defBody s17)).1 = b17 := by kernel_rfl
theorem f17 : FnScope n17 p17 (defScope s17) := ⟨rfl, rfl, rfl, by decide +kernel, by decide +kernel, by decide +kernel, by decide +kernel⟩
theorem c18 : (cSs 40 ⟨defScope s18, n18, fun _ => true, cst, nms, dt, 1000000⟩ 12 (defBody s18)).1 = b18 := by kernel_rfl
theorem f18 : FnScope n18 p18 (defScope s18) := ⟨rfl, rfl, rfl, by decide +kernel, by decide +kernel, by decide +kernel, by decide +kernel⟩
theorem c19 : (cSs 40 ⟨defScope s19, n19, fun _ => true, cst, nms, dt, 1000000⟩ 12 (defBody s19)).1 = b19 := by kernel_rfl
theorem f19 : FnScope n19 p19 (defScope s19) := ⟨rfl, rfl, rfl, by decide +kernel, by decide +kernel, by decide +kernel, by decide +kernel⟩
theorem c20 : (cSs 40 ⟨defScope s20, n20, fun _ => true, cst, nms, dt, 1000000⟩ 12 (defBody s20)).1 = b20 := by kernel_rfl
theorem f20 : FnScope n20 p20 (defScope s20) := ⟨rfl, rfl, rfl, by decide +kernel, by decide +kernel, by decide +kernel, by decide +kernel⟩
theorem c21 : (cSs 40 ⟨defScope s21, n21, fun _ => true, cst, nms, dt, 1000000⟩ 12 (defBody s21)).1 = b21 := by kernel_rfl
theorem f21 : FnScope n21 p21 (defScope s21) := ⟨rfl, rfl, rfl, by decide +kernel, by decide +kernel, by decide +kernel, by decide +kernel⟩
theorem c22 : (cSs 40 ⟨defScope s22, n22, fun _ => true, cst, nms, dt, 1000000⟩ 12 (defBody s22)).1 = b22 := by kernel_rfl
theorem f22 : FnScope n22 p22 (defScope s22) := ⟨rfl, rfl, rfl, by decide +kernel, by decide +kernel, by decide +kernel, by decide +kernel⟩
theorem c23 : (cSs 40 ⟨defScope s23, n23, fun _ => true, cst, nms, dt, 1000000⟩ 12 (defBody s23)).1 = b23 := by kernel_rfl
theorem f23 : FnScope n23 p23 (defScope s23) := ⟨rfl, rfl, rfl, by decide +kernel, by decide +kernel, by decide +kernel, by decide +kernel⟩
theorem c24 : (cSs 40 ⟨defScope s24, n24, fun _ => true, cst, nms, dt, 1000000⟩ 12 (defBody s24)).1 = b24 := by kernel_rfl
theorem f24 : FnScope n24 p24 (defScope s24) := ⟨rfl, rfl, rfl, by decide +kernel, by decide +kernel, by decide +kernel, by decide +kernel⟩
theorem c25 : (cSs 40 ⟨defScope s25, n25, fun _ => true, cst, nms, dt, 1000000⟩ 12 (defBody s25)).1 = b25 := by kernel_rfl
theorem f25 : FnScope n25 p25 (defScope s25) := ⟨rfl, rfl, rfl, by decide +kernel, by decide +kernel, by decide +kernel, by decide +kernel⟩
theorem c26 : (cSs 40 ⟨defScope s26, n26, fun _ => true, cst, nms, dt, 1000000⟩ 12 (defBody s26)).1 = b26 := by kernel_rfl
theorem f26 : FnScope n26 p26 (defScope s26) := ⟨rfl, rfl, rfl, by decide +kernel, by decide +kernel, by decide +kernel, by decide +kernel⟩
theorem c27 : (cSs 40 ⟨defScope s27, n27, fun _ => true, cst, nms, dt, 1000000⟩ 12 (defBody s27)).1 = b27 := by kernel_rfl
theorem f27 : FnScope n27 p27 (defScope s27) := ⟨rfl, rfl, rfl, by decide +kernel, by decide +kernel, by decide +kernel, by decide +kernel⟩
theorem c28 : (cSs 40 ⟨defScope s28, n28, fun _ => true, cst, nms, dt, 1000000⟩ 12 (defBody s28)).1 = b28 := by kernel_rfl
theorem f28 : FnScope n28 p28 (defScope s28) := ⟨rfl, rfl, rfl, by decide +kernel, by decide +kernel, by decide +kernel, by decide +kernel⟩
theorem c29 : (cSs 40 ⟨defScope s29, n29, fun _ => true, cst, nms, dt, 1000000⟩ 12 (defBody s29)).1 = b29 := by kernel_rfl
theorem f29 : FnScope n29 p29 (defScope s29) := ⟨rfl, rfl, rfl, by decide +kernel, by decide +kernel, by decide +kernel, by decide +kernel⟩
theorem c30 : (cSs 40 ⟨defScope s30, n30, fun _ => true, cst, nms, dt, 1000000⟩ 12 (defBody s30)).1 = b30 := by kernel_rfl
theorem f30 : FnScope n30 p30 (defScope s30) := ⟨rfl, rfl, rfl, by decide +kernel, by decide +kernel, by decide +kernel, by decide +kernel⟩
theorem c31 : (cSs 40 ⟨defScope s31, n31, fun _ => true, cst, nms, dt, 1000000⟩ 12 (defBody s31)).1 = b31 := by kernel_rfl
theorem f31 : FnScope n31 p31 (defScope s31) := ⟨rfl, rfl, rfl, by decide +kernel, by decide +kernel, by decide +kernel, by decide +kernel⟩
theorem c32 : (cSs 40 ⟨defScope s32, n32, fun _ => true, cst, nms, dt, 1000000⟩ 12 (defBody s32)).1 = b32 := by kernel_rfl
theorem f32 : FnScope n32 p32 (defScope s32) := ⟨rfl, rfl, rfl, by decide +kernel, by decide +kernel, by decide +kernel, by decide +kernel⟩
end G

namespace G
open PySem PySem.Spec PyProof.Rows L2 Mi
theorem a0 : Bd (Str.ofString "_law_cells") s0 p0 := fun _ _ _ _ _ _ us hl => match us, hl with | [_, _], _ => rfl
def d0 : DF := ⟨2, 2, b0⟩
theorem a1 : Bd (Str.ofString "_law_pot") s1 p1 := fun _ _ _ _ _ _ us hl => match us, hl with | [_, _], _ => rfl
def d1 : DF := ⟨2, 5, b1⟩
theorem a2 : Bd (Str.ofString "_law_take") s2 p2 := fun _ _ _ _ _ _ us hl => match us, hl with | [_, _], _ => rfl
def d2 : DF := ⟨2, 5, b2⟩
theorem a3 : Bd (Str.ofString "_law_of") s3 p3 := fun _ _ _ _ _ _ us hl => match us, hl with | [_, _], _ => rfl
def d3 : DF := ⟨2, 2, b3⟩
theorem a4 : Bd (Str.ofString "_law_sum") s4 p4 := fun _ _ _ _ _ _ us hl => match us, hl with | [_], _ => rfl
def d4 : DF := ⟨1, 5, b4⟩
theorem a5 : Bd (Str.ofString "_law_side") s5 p5 := fun _ _ _ _ _ _ us hl => match us, hl with | [_, _, _], _ => rfl
def d5 : DF := ⟨3, 6, b5⟩
theorem a6 : Bd (Str.ofString "_law_behind") s6 p6 := fun _ _ _ _ _ _ us hl => match us, hl with | [_, _, _, _], _ => rfl
def d6 : DF := ⟨4, 9, b6⟩
theorem a7 : Bd (Str.ofString "_law_chase") s7 p7 := fun _ _ _ _ _ _ us hl => match us, hl with | [_, _, _, _], _ => rfl
def d7 : DF := ⟨4, 7, b7⟩
theorem a8 : Bd (Str.ofString "_law_some") s8 p8 := fun _ _ _ _ _ _ us hl => match us, hl with | [_, _, _], _ => rfl
def d8 : DF := ⟨3, 6, b8⟩
theorem a9 : Bd (Str.ofString "_law_line") s9 p9 := fun _ _ _ _ _ _ us hl => match us, hl with | [_, _], _ => rfl
def d9 : DF := ⟨2, 2, b9⟩
theorem a10 : Bd (Str.ofString "_law_shades") s10 p10 := fun _ _ _ _ _ _ us hl => match us, hl with | [_, _], _ => rfl
def d10 : DF := ⟨2, 3, b10⟩
theorem a11 : Bd (Str.ofString "is_integer") s11 p11 := fun _ _ _ _ _ _ us hl => match us, hl with | [_], _ => rfl
def d11 : DF := ⟨1, 1, b11⟩
theorem a12 : Bd (Str.ofString "is_between") s12 p12 := fun _ _ _ _ _ _ us hl => match us, hl with | [_, _, _], _ => rfl
def d12 : DF := ⟨3, 3, b12⟩
theorem a13 : Bd (Str.ofString "are_between") s13 p13 := fun _ _ _ _ _ _ us hl => match us, hl with | [_, _, _], _ => rfl
def d13 : DF := ⟨3, 4, b13⟩
theorem a14 : Bd (Str.ofString "check_grid") s14 p14 := fun _ _ _ _ _ _ us hl => match us, hl with | [_], _ => rfl
def d14 : DF := ⟨1, 1, b14⟩
theorem a15 : Bd (Str.ofString "check_kind_alone") s15 p15 := fun _ _ _ _ _ _ us hl => match us, hl with | [_], _ => rfl
def d15 : DF := ⟨1, 1, b15⟩
theorem a16 : Bd (Str.ofString "check_chase") s16 p16 := fun _ _ _ _ _ _ us hl => match us, hl with | [_, _], _ => rfl
def d16 : DF := ⟨2, 2, b16⟩
theorem a17 : Bd (Str.ofString "sum_by") s17 p17 := fun _ _ _ _ _ _ us hl => match us, hl with | [_], _ => rfl
def d17 : DF := ⟨1, 4, b17⟩
theorem a18 : Bd (Str.ofString "in_row") s18 p18 := fun _ _ _ _ _ _ us hl => match us, hl with | [_, _, _], _ => rfl
def d18 : DF := ⟨3, 6, b18⟩
theorem a19 : Bd (Str.ofString "chase") s19 p19 := fun _ _ _ _ _ _ us hl => match us, hl with | [_, _, _, _], _ => rfl
def d19 : DF := ⟨4, 8, b19⟩
theorem a20 : Bd (Str.ofString "dark") s20 p20 := fun _ _ _ _ _ _ us hl => match us, hl with | [_], _ => rfl
def d20 : DF := ⟨1, 1, b20⟩
theorem a21 : Bd (Str.ofString "lefts") s21 p21 := fun _ _ _ _ _ _ us hl => match us, hl with | [_, _], _ => rfl
def d21 : DF := ⟨2, 3, b21⟩
theorem a22 : Bd (Str.ofString "left_rows") s22 p22 := fun _ _ _ _ _ _ us hl => match us, hl with | [_, _], _ => rfl
def d22 : DF := ⟨2, 2, b22⟩
theorem a23 : Bd (Str.ofString "is_ascending") s23 p23 := fun _ _ _ _ _ _ us hl => match us, hl with | [_], _ => rfl
def d23 : DF := ⟨1, 3, b23⟩
theorem a24 : Bd (Str.ofString "is_line") s24 p24 := fun _ _ _ _ _ _ us hl => match us, hl with | [_, _], _ => rfl
def d24 : DF := ⟨2, 2, b24⟩
theorem a25 : Bd (Str.ofString "are_lines") s25 p25 := fun _ _ _ _ _ _ us hl => match us, hl with | [_, _], _ => rfl
def d25 : DF := ⟨2, 3, b25⟩
theorem a26 : Bd (Str.ofString "check_shades") s26 p26 := fun _ _ _ _ _ _ us hl => match us, hl with | [_, _, _], _ => rfl
def d26 : DF := ⟨3, 3, b26⟩
theorem a27 : Bd (Str.ofString "behind_strokes") s27 p27 := fun _ _ _ _ _ _ us hl => match us, hl with | [_, _, _, _], _ => rfl
def d27 : DF := ⟨4, 9, b27⟩
theorem a28 : Bd (Str.ofString "strokes_behind") s28 p28 := fun _ _ _ _ _ _ us hl => match us, hl with | [_, _, _, _], _ => rfl
def d28 : DF := ⟨4, 4, b28⟩
theorem a29 : Bd (Str.ofString "check_line") s29 p29 := fun _ _ _ _ _ _ us hl => match us, hl with | [_, _], _ => rfl
def d29 : DF := ⟨2, 2, b29⟩
theorem a30 : Bd (Str.ofString "chased") s30 p30 := fun _ _ _ _ _ _ us hl => match us, hl with | [_, _, _, _], _ => rfl
def d30 : DF := ⟨4, 4, b30⟩
theorem a31 : Bd (Str.ofString "_law_right") s31 p31 := fun _ _ _ _ _ _ us hl => match us, hl with | [_], _ => rfl
def d31 : DF := ⟨1, 14, b31⟩
theorem a32 : Bd (Str.ofString "law") s32 p32 := fun _ _ _ _ _ _ us hl => match us, hl with | [_], _ => rfl
def d32 : DF := ⟨1, 4, b32⟩
def ds0 : List DF := []
def ds1 : List DF := d0 :: ds0
def ds2 : List DF := d1 :: ds1
def ds3 : List DF := d2 :: ds2
def ds4 : List DF := d3 :: ds3
def ds5 : List DF := d4 :: ds4
def ds6 : List DF := d5 :: ds5
def ds7 : List DF := d6 :: ds6
def ds8 : List DF := d7 :: ds7
def ds9 : List DF := d8 :: ds8
def ds10 : List DF := d9 :: ds9
def ds11 : List DF := d10 :: ds10
def ds12 : List DF := d11 :: ds11
def ds13 : List DF := d12 :: ds12
def ds14 : List DF := d13 :: ds13
def ds15 : List DF := d14 :: ds14
def ds16 : List DF := d15 :: ds15
def ds17 : List DF := d16 :: ds16
def ds18 : List DF := d17 :: ds17
def ds19 : List DF := d18 :: ds18
def ds20 : List DF := d19 :: ds19
def ds21 : List DF := d20 :: ds20
def ds22 : List DF := d21 :: ds21
def ds23 : List DF := d22 :: ds22
def ds24 : List DF := d23 :: ds23
def ds25 : List DF := d24 :: ds24
def ds26 : List DF := d25 :: ds25
def ds27 : List DF := d26 :: ds26
def ds28 : List DF := d27 :: ds27
def ds29 : List DF := d28 :: ds28
def ds30 : List DF := d29 :: ds29
def ds31 : List DF := d30 :: ds30
def ds32 : List DF := d31 :: ds31
theorem table {P : Program} {w : World} {K : PySem.W.Frag} {mg : Str → Option Value} {base h : Heap} (X : K.In h) (G : h.Ns mainGlobals mg) (bl : BltOk K bltNames) (cs : CstOk K mg cst) (q0 : ∃ f fd, DfK K (Str.ofString "_law_cells") s0 f fd) (q1 : ∃ f fd, DfK K (Str.ofString "_law_pot") s1 f fd) (q2 : ∃ f fd, DfK K (Str.ofString "_law_take") s2 f fd) (q3 : ∃ f fd, DfK K (Str.ofString "_law_of") s3 f fd) (q4 : ∃ f fd, DfK K (Str.ofString "_law_sum") s4 f fd) (q5 : ∃ f fd, DfK K (Str.ofString "_law_side") s5 f fd) (q6 : ∃ f fd, DfK K (Str.ofString "_law_behind") s6 f fd) (q7 : ∃ f fd, DfK K (Str.ofString "_law_chase") s7 f fd) (q8 : ∃ f fd, DfK K (Str.ofString "_law_some") s8 f fd) (q9 : ∃ f fd, DfK K (Str.ofString "_law_line") s9 f fd) (q10 : ∃ f fd, DfK K (Str.ofString "_law_shades") s10 f fd) (q11 : ∃ f fd, DfK K (Str.ofString "is_integer") s11 f fd) (q12 : ∃ f fd, DfK K (Str.ofString "is_between") s12 f fd) (q13 : ∃ f fd, DfK K (Str.ofString "are_between") s13 f fd) (q14 : ∃ f fd, DfK K (Str.ofString "check_grid") s14 f fd) (q15 : ∃ f fd, DfK K (Str.ofString "check_kind_alone") s15 f fd) (q16 : ∃ f fd, DfK K (Str.ofString "check_chase") s16 f fd) (q17 : ∃ f fd, DfK K (Str.ofString "sum_by") s17 f fd) (q18 : ∃ f fd, DfK K (Str.ofString "in_row") s18 f fd) (q19 : ∃ f fd, DfK K (Str.ofString "chase") s19 f fd) (q20 : ∃ f fd, DfK K (Str.ofString "dark") s20 f fd) (q21 : ∃ f fd, DfK K (Str.ofString "lefts") s21 f fd) (q22 : ∃ f fd, DfK K (Str.ofString "left_rows") s22 f fd) (q23 : ∃ f fd, DfK K (Str.ofString "is_ascending") s23 f fd) (q24 : ∃ f fd, DfK K (Str.ofString "is_line") s24 f fd) (q25 : ∃ f fd, DfK K (Str.ofString "are_lines") s25 f fd) (q26 : ∃ f fd, DfK K (Str.ofString "check_shades") s26 f fd) (q27 : ∃ f fd, DfK K (Str.ofString "behind_strokes") s27 f fd) (q28 : ∃ f fd, DfK K (Str.ofString "strokes_behind") s28 f fd) (q29 : ∃ f fd, DfK K (Str.ofString "check_line") s29 f fd) (q30 : ∃ f fd, DfK K (Str.ofString "chased") s30 f fd) (q31 : ∃ f fd, DfK K (Str.ofString "_law_right") s31 f fd) : MF nms cst (PhiR ds32) P w K mg base 32 := by
  have M0 : MF nms cst (PhiR ds0) P w K mg base 0 := MF.zero X G bl cs
  have M1 : MF nms cst (PhiR ds1) P w K mg base 1 := M0.step X G (nms := nms) (d := d0) rfl q0 f0 a0 c0 rfl rfl
  have M2 : MF nms cst (PhiR ds2) P w K mg base 2 := M1.step X G (nms := nms) (d := d1) rfl q1 f1 a1 c1 rfl rfl
  have M3 : MF nms cst (PhiR ds3) P w K mg base 3 := M2.step X G (nms := nms) (d := d2) rfl q2 f2 a2 c2 rfl rfl
  have M4 : MF nms cst (PhiR ds4) P w K mg base 4 := M3.step X G (nms := nms) (d := d3) rfl q3 f3 a3 c3 rfl rfl
  have M5 : MF nms cst (PhiR ds5) P w K mg base 5 := M4.step X G (nms := nms) (d := d4) rfl q4 f4 a4 c4 rfl rfl
  have M6 : MF nms cst (PhiR ds6) P w K mg base 6 := M5.step X G (nms := nms) (d := d5) rfl q5 f5 a5 c5 rfl rfl
  have M7 : MF nms cst (PhiR ds7) P w K mg base 7 := M6.step X G (nms := nms) (d := d6) rfl q6 f6 a6 c6 rfl rfl
  have M8 : MF nms cst (PhiR ds8) P w K mg base 8 := M7.step X G (nms := nms) (d := d7) rfl q7 f7 a7 c7 rfl rfl
  have M9 : MF nms cst (PhiR ds9) P w K mg base 9 := M8.step X G (nms := nms) (d := d8) rfl q8 f8 a8 c8 rfl rfl
  have M10 : MF nms cst (PhiR ds10) P w K mg base 10 := M9.step X G (nms := nms) (d := d9) rfl q9 f9 a9 c9 rfl rfl
  have M11 : MF nms cst (PhiR ds11) P w K mg base 11 := M10.step X G (nms := nms) (d := d10) rfl q10 f10 a10 c10 rfl rfl
  have M12 : MF nms cst (PhiR ds12) P w K mg base 12 := M11.step X G (nms := nms) (d := d11) rfl q11 f11 a11 c11 rfl rfl
  have M13 : MF nms cst (PhiR ds13) P w K mg base 13 := M12.step X G (nms := nms) (d := d12) rfl q12 f12 a12 c12 rfl rfl
  have M14 : MF nms cst (PhiR ds14) P w K mg base 14 := M13.step X G (nms := nms) (d := d13) rfl q13 f13 a13 c13 rfl rfl
  have M15 : MF nms cst (PhiR ds15) P w K mg base 15 := M14.step X G (nms := nms) (d := d14) rfl q14 f14 a14 c14 rfl rfl
  have M16 : MF nms cst (PhiR ds16) P w K mg base 16 := M15.step X G (nms := nms) (d := d15) rfl q15 f15 a15 c15 rfl rfl
  have M17 : MF nms cst (PhiR ds17) P w K mg base 17 := M16.step X G (nms := nms) (d := d16) rfl q16 f16 a16 c16 rfl rfl
  have M18 : MF nms cst (PhiR ds18) P w K mg base 18 := M17.step X G (nms := nms) (d := d17) rfl q17 f17 a17 c17 rfl rfl
  have M19 : MF nms cst (PhiR ds19) P w K mg base 19 := M18.step X G (nms := nms) (d := d18) rfl q18 f18 a18 c18 rfl rfl
  have M20 : MF nms cst (PhiR ds20) P w K mg base 20 := M19.step X G (nms := nms) (d := d19) rfl q19 f19 a19 c19 rfl rfl
  have M21 : MF nms cst (PhiR ds21) P w K mg base 21 := M20.step X G (nms := nms) (d := d20) rfl q20 f20 a20 c20 rfl rfl
  have M22 : MF nms cst (PhiR ds22) P w K mg base 22 := M21.step X G (nms := nms) (d := d21) rfl q21 f21 a21 c21 rfl rfl
  have M23 : MF nms cst (PhiR ds23) P w K mg base 23 := M22.step X G (nms := nms) (d := d22) rfl q22 f22 a22 c22 rfl rfl
  have M24 : MF nms cst (PhiR ds24) P w K mg base 24 := M23.step X G (nms := nms) (d := d23) rfl q23 f23 a23 c23 rfl rfl
  have M25 : MF nms cst (PhiR ds25) P w K mg base 25 := M24.step X G (nms := nms) (d := d24) rfl q24 f24 a24 c24 rfl rfl
  have M26 : MF nms cst (PhiR ds26) P w K mg base 26 := M25.step X G (nms := nms) (d := d25) rfl q25 f25 a25 c25 rfl rfl
  have M27 : MF nms cst (PhiR ds27) P w K mg base 27 := M26.step X G (nms := nms) (d := d26) rfl q26 f26 a26 c26 rfl rfl
  have M28 : MF nms cst (PhiR ds28) P w K mg base 28 := M27.step X G (nms := nms) (d := d27) rfl q27 f27 a27 c27 rfl rfl
  have M29 : MF nms cst (PhiR ds29) P w K mg base 29 := M28.step X G (nms := nms) (d := d28) rfl q28 f28 a28 c28 rfl rfl
  have M30 : MF nms cst (PhiR ds30) P w K mg base 30 := M29.step X G (nms := nms) (d := d29) rfl q29 f29 a29 c29 rfl rfl
  have M31 : MF nms cst (PhiR ds31) P w K mg base 31 := M30.step X G (nms := nms) (d := d30) rfl q30 f30 a30 c30 rfl rfl
  have M32 : MF nms cst (PhiR ds32) P w K mg base 32 := M31.step X G (nms := nms) (d := d31) rfl q31 f31 a31 c31 rfl rfl
  exact M32
theorem finish {P : Program} {w : World} {K : PySem.W.Frag} {mg : Str → Option Value} {h : Heap} {fa : Addr} (X : K.In h) (G : h.Ns mainGlobals mg) (hfa : mg (Str.ofString "law") = some (.ref fa)) (bl : BltOk K bltNames) (cs : CstOk K mg cst) (q0 : ∃ f fd, DfK K (Str.ofString "_law_cells") s0 f fd) (q1 : ∃ f fd, DfK K (Str.ofString "_law_pot") s1 f fd) (q2 : ∃ f fd, DfK K (Str.ofString "_law_take") s2 f fd) (q3 : ∃ f fd, DfK K (Str.ofString "_law_of") s3 f fd) (q4 : ∃ f fd, DfK K (Str.ofString "_law_sum") s4 f fd) (q5 : ∃ f fd, DfK K (Str.ofString "_law_side") s5 f fd) (q6 : ∃ f fd, DfK K (Str.ofString "_law_behind") s6 f fd) (q7 : ∃ f fd, DfK K (Str.ofString "_law_chase") s7 f fd) (q8 : ∃ f fd, DfK K (Str.ofString "_law_some") s8 f fd) (q9 : ∃ f fd, DfK K (Str.ofString "_law_line") s9 f fd) (q10 : ∃ f fd, DfK K (Str.ofString "_law_shades") s10 f fd) (q11 : ∃ f fd, DfK K (Str.ofString "is_integer") s11 f fd) (q12 : ∃ f fd, DfK K (Str.ofString "is_between") s12 f fd) (q13 : ∃ f fd, DfK K (Str.ofString "are_between") s13 f fd) (q14 : ∃ f fd, DfK K (Str.ofString "check_grid") s14 f fd) (q15 : ∃ f fd, DfK K (Str.ofString "check_kind_alone") s15 f fd) (q16 : ∃ f fd, DfK K (Str.ofString "check_chase") s16 f fd) (q17 : ∃ f fd, DfK K (Str.ofString "sum_by") s17 f fd) (q18 : ∃ f fd, DfK K (Str.ofString "in_row") s18 f fd) (q19 : ∃ f fd, DfK K (Str.ofString "chase") s19 f fd) (q20 : ∃ f fd, DfK K (Str.ofString "dark") s20 f fd) (q21 : ∃ f fd, DfK K (Str.ofString "lefts") s21 f fd) (q22 : ∃ f fd, DfK K (Str.ofString "left_rows") s22 f fd) (q23 : ∃ f fd, DfK K (Str.ofString "is_ascending") s23 f fd) (q24 : ∃ f fd, DfK K (Str.ofString "is_line") s24 f fd) (q25 : ∃ f fd, DfK K (Str.ofString "are_lines") s25 f fd) (q26 : ∃ f fd, DfK K (Str.ofString "check_shades") s26 f fd) (q27 : ∃ f fd, DfK K (Str.ofString "behind_strokes") s27 f fd) (q28 : ∃ f fd, DfK K (Str.ofString "strokes_behind") s28 f fd) (q29 : ∃ f fd, DfK K (Str.ofString "check_line") s29 f fd) (q30 : ∃ f fd, DfK K (Str.ofString "chased") s30 f fd) (q31 : ∃ f fd, DfK K (Str.ofString "_law_right") s31 f fd) (ql : ∃ f fd, DfK K (Str.ofString "law") s32 f fd) :
    ∃ fd : FuncData, (∀ (s : Shared) (u : Value), BindsTo s fd ⟨[u], []⟩ [((Str.ofString "script"), u)]) ∧ ∀ base : Heap, K.In base → base.Ns mainGlobals mg → FnG P w K mg base 33 fa fd [(Str.ofString "script")] (semF (PhiR ds32) 1 n32.length b32) :=
  MF.law X G hfa ql f32 a32 c32 fun base X2 G2 => table X2 G2 bl cs q0 q1 q2 q3 q4 q5 q6 q7 q8 q9 q10 q11 q12 q13 q14 q15 q16 q17 q18 q19 q20 q21 q22 q23 q24 q25 q26 q27 q28 q29 q30 q31
end G

/-! K44: the defs of law k44, by what they give. -/
namespace Lw
open PySem PySem.Spec PyProof.Rows L2 Mi G

abbrev dI (ns : List Int) : D := .tup (ns.map D.int)
theorem lcGo_all {f : D → En → Option (Option D × En)} {env : En} : ∀ {xs : List D} (o : D → Option D), (∀ x ∈ xs, f x env = some (o x, env)) → lcGo f xs env = some (xs.filterMap o, env)
  | [], _, _ => rfl
  | x :: xs, o, h => by
    unfold lcGo
    rw [h x List.mem_cons_self]
    simp only
    rw [lcGo_all o fun y hy => h y (List.mem_cons_of_mem _ hy)]
    simp only [List.filterMap_cons]
    cases o x <;> rfl
theorem lcGo_map {f : D → En → Option (Option D × En)} {env : En} : ∀ {xs : List D} (o : D → D), (∀ x ∈ xs, f x env = some (some (o x), env)) → lcGo f xs env = some (xs.map o, env)
  | [], _, _ => rfl
  | x :: xs, o, h => by
    unfold lcGo
    rw [h x List.mem_cons_self]
    simp only
    rw [lcGo_map o fun y hy => h y (List.mem_cons_of_mem _ hy)]
    rfl
theorem paired_map {α β γ : Type} {F : β → γ → Prop} {f : α → β} {g : α → γ} : ∀ (l : List α), (∀ x ∈ l, F (f x) (g x)) → Paired F (l.map f) (l.map g)
  | [], _ => .nil
  | x :: l, h => .cons (h x List.mem_cons_self) (paired_map l fun y hy => h y (List.mem_cons_of_mem _ hy))
theorem paired_app {β γ : Type} {F : β → γ → Prop} : ∀ {a : List β} {b : List γ} {a' : List β} {b' : List γ}, Paired F a b → Paired F a' b' → Paired F (a ++ a') (b ++ b')
  | _, _, _, _, .nil, h => h
  | _, _, _, _, .cons r t, h => .cons r (paired_app t h)
/-- a lot as a tuple or a list -/
def LotD (d : D) (ns : List Int) : Prop := d = .tup (ns.map D.int) ∨ d = .lst (ns.map D.int)
theorem LotD.lst {d : D} {ns : List Int} (h : LotD d ns) : biOp .list [d] = some (.new (.lst (ns.map D.int))) := by
  rcases h with rfl | rfl <;> rfl
theorem lstsOf_map : ∀ nss : List (List Int), lstsOf (nss.map fun ns => D.lst (ns.map D.int)) = some (nss.map fun ns => ns.map D.int)
  | [] => rfl
  | ns :: nss => by
    simp only [List.map_cons, lstsOf, D.lstOf?, lstsOf_map nss]
theorem flat_map (nss : List (List Int)) : (nss.map fun ns => ns.map D.int).flatten = nss.flatten.map D.int := by
  rw [List.map_flatten]
def cellOf (d : D) : Option D := match d with
  | .tup ds => some (.lst ds)
  | .lst ds => some (.lst ds)
  | _ => none
theorem lots_map : ∀ {lots : List D} {nss : List (List Int)}, Paired LotD lots nss → lots.filterMap cellOf = nss.map fun ns => D.lst (ns.map D.int)
  | _, _, .nil => rfl
  | _, _, .cons r t => by
    rw [List.filterMap_cons]
    rcases r with rfl | rfl <;> simp [cellOf, lots_map t]
theorem eqv_ints : ∀ a b : List Int, PyData.eqvAll (D.pyA (a.map D.int)) (D.pyA (b.map D.int)) = decide (a = b)
  | [], [] => rfl
  | [], _ :: _ => by simp [D.pyA, PyData.eqvAll]
  | _ :: _, [] => by simp [D.pyA, PyData.eqvAll]
  | x :: a, y :: b => by
    simp only [List.map_cons, D.pyA, PyData.eqvAll, D.py, PyData.eqv, eqv_ints a b]
    by_cases h : x = y <;> by_cases h2 : a = b <;> simp [h, h2]
theorem ok_ints (n : Nat) (a : List Int) : (a.map D.int).all (D.ok n) = true := by
  induction a with
  | nil => rfl
  | cons x a ih => rw [List.map_cons, List.all_cons, ih]; cases n <;> rfl
theorem cmp_lst (a b : List Int) : eqOp (.lst (a.map D.int)) (.lst (b.map D.int)) = some (decide (a = b)) := by
  unfold eqOp
  rw [if_pos (by simp only [D.ok, ok_ints]; rfl)]
  simp only [D.py, PyData.eqv, eqv_ints]
theorem cmp_int (a b : Int) : eqOp (.int a) (.int b) = some (decide (a = b)) := by
  unfold eqOp
  rw [if_pos (show (D.ok 9 (D.int a) && D.ok 9 (D.int b)) = true from rfl)]
  simp only [D.py, PyData.eqv]
  rfl
theorem cmp_tup (a b : List Int) : eqOp (dI a) (dI b) = some (decide (a = b)) := by
  unfold eqOp
  rw [if_pos (by simp only [D.ok, ok_ints]; rfl)]
  simp only [D.py, PyData.eqv, eqv_ints]
/-- what stands ahead -/
def ahead (ev : List Int) : Nat → Option Int
  | 0 => none
  | j + 1 => ev[j]?
theorem cut_at {ev : List Int} {i : Nat} {r : Int} (h : ev[i]? = some r) : Mi.cutD (ev.map D.int) (some ((i : Int) - 1)) (some (i : Int)) = (ahead ev i).toList.map D.int := by
  have lt := get_lt h
  unfold Mi.cutD
  rw [List.length_map]
  cases i with
  | zero =>
    have e2 : HT.sIx ev.length ev.length (some ((0 : Nat) : Int)) = 0 := by rw [HT.sIx_nat]; omega
    rw [e2]
    simp [ahead]
  | succ j =>
    have e1 : HT.sIx ev.length 0 (some (((j + 1 : Nat) : Int) - 1)) = j := by
      have : (((j + 1 : Nat) : Int) - 1) = ((j : Nat) : Int) := by omega
      rw [this, HT.sIx_nat]; omega
    have e2 : HT.sIx ev.length ev.length (some ((j + 1 : Nat) : Int)) = j + 1 := by rw [HT.sIx_nat]; omega
    rw [e1, e2, ← List.map_drop, ← List.map_take]
    have e3 : j + 1 - j = 1 := by omega
    rw [e3]
    have lt' : j < ev.length := by omega
    have e4 : ahead ev (j + 1) = some ev[j] := List.getElem?_eq_getElem lt'
    rw [List.drop_eq_getElem_cons lt', e4]
    rfl
def sumTurn (ev : List Int) (d : D) : Option D := match d with
  | .tup [.int i, .int r] => if ahead ev i.toNat ≠ some r ∧ par ev r = true then some (.int r) else none
  | _ => none
theorem dd_turn (ev : List Int) : ∀ (r : List Int) (k : Nat), (∀ j, r[j]? = ev[k + j]?) → ((r.map D.int).mapIdx fun i d => D.tup [.int ((k + i : Nat) : Int), d]).filterMap (sumTurn ev) = ((dd (ahead ev k) r).filter fun x => par ev x).map D.int
  | [], _, _ => rfl
  | x :: r, k, h => by
    have h0 : ev[k]? = some x := by have := h 0; simpa using this.symm
    have ih := dd_turn ev r (k + 1) fun j => by
      have := h (j + 1)
      rw [List.getElem?_cons_succ] at this
      rw [this]
      congr 1
      omega
    have ha : ahead ev (k + 1) = some x := h0
    rw [ha] at ih
    rw [List.map_cons, List.mapIdx_cons, List.filterMap_cons]
    have e : (fun i d => D.tup [D.int ((k + (i + 1) : Nat) : Int), d]) = fun i d => D.tup [D.int ((k + 1 + i : Nat) : Int), d] := by
      funext i d
      congr 3
      omega
    rw [e, ih]
    have et : sumTurn ev (D.tup [.int ((k + 0 : Nat) : Int), .int x]) = if ahead ev k ≠ some x ∧ par ev x = true then some (D.int x) else none := by
      rfl
    rw [et]
    have ed : dd (ahead ev k) (x :: r) = if ahead ev k = some x then dd (some x) r else x :: dd (some x) r := rfl
    rw [ed]
    by_cases c1 : ahead ev k = some x
    · simp [c1]
    · by_cases c2 : par ev x = true
      · simp [c1, c2]
      · simp [c1, c2]
/-- _law_sum -/
theorem s4 (Φ : Nat → Fn) {lots : List D} {nss : List (List Int)} (h : Paired LotD lots nss) (h1 : lots.length ≤ lim) (h2 : nss.flatten.length ≤ 1000000) : semF Φ 1 5 b4 [.dat (.lst lots)] = some (.val (dI (oddS nss.flatten)), []) := by
  have ev1 : lcGo (lcF Φ [2] (.nm 2) .anil (.bi .list (.acons (.var 2) .anil))) lots [.dat (.lst lots), .un, .un, .un, .un] = some (nss.map fun ns => D.lst (ns.map D.int), [.dat (.lst lots), .un, .un, .un, .un]) := by
    rw [lcGo_all cellOf, lots_map h]
    intro d hd
    obtain ⟨ns, _, r⟩ := paired_mem h d hd
    rcases r with rfl | rfl <;> simp [lcF, setD, setS, Slot.free, evC, evE, evA, pks, pk, biOp, fz, wipeS, cellOf]
  generalize hev : sortI nss.flatten = ev
  have evl : ev.length ≤ lim := by
    rw [← hev, (sortI_perm _).length_eq]
    exact Nat.le_trans h2 (by decide)
  have ev2 : lcGo (lcF Φ [3, 4] (.tp (.cons (.nm 3) (.cons (.nm 4) .nil))) (.acons (.and (.cmp .ne (.slc (.var 1) (.acons (.bin .sub (.var 3) (.cst (.int 1))) .anil) (.acons (.var 3) .anil)) (.lst (.acons (.var 4) .anil))) (.cmp .eq (.bin .mod (.cnt (.var 1) (.var 4)) (.cst (.int 2))) (.cst (.int 1)))) .anil) (.var 4)) (enumD (ev.map D.int)) [.dat (.lst lots), .dat (.lst (ev.map D.int)), .un, .un, .un]
      = some ((oddS nss.flatten).map D.int, [.dat (.lst lots), .dat (.lst (ev.map D.int)), .un, .un, .un]) := by
    have main : (enumD (ev.map D.int)).filterMap (sumTurn ev) = (oddS nss.flatten).map D.int := by
      have := dd_turn ev ev 0 fun j => by rw [Nat.zero_add]
      simp only [Nat.zero_add] at this
      unfold enumD
      rw [this]
      unfold oddS
      rw [hev]
      congr 1
      refine List.filter_congr fun x _ => ?_
      rw [← hev]
      exact par_perm (sortI_perm _) x
    rw [lcGo_all (sumTurn ev), main]
    intro d hd
    obtain ⟨i, hi⟩ := List.getElem?_of_mem hd
    obtain ⟨x, hx, rfl⟩ := enum_get hi
    rw [List.getElem?_map] at hx
    cases hr : ev[i]? with
    | none => rw [hr] at hx; cases hx
    | some r =>
      rw [hr] at hx
      cases hx
      have hc := cut_at hr
      have hm : (((ev.count r : Nat) : Int).fmod 2 = 1) ↔ par ev r = true := by
        unfold par
        rw [Int.fmod_eq_emod_of_nonneg _ (by decide)]
        simp
        omega
      have hcmp : eqOp (D.lst ((ahead ev i).toList.map D.int)) (D.lst [D.int r]) = some (decide ((ahead ev i).toList = [r])) := cmp_lst _ [r]
      have hmod := mod_ev (i := ((ev.count r : Nat) : Int)) (j := 2) (by decide)
      have hah : (ahead ev i).toList = [r] ↔ ahead ev i = some r := by cases ahead ev i <;> simp
      have hst : sumTurn ev (D.tup [D.int i, D.int r]) = if ahead ev i ≠ some r ∧ par ev r = true then some (D.int r) else none := rfl
      rw [hst]
      by_cases c1 : ahead ev i = some r
      · have hr2 : eqOp (D.lst [D.int r]) (D.lst [D.int r]) = some true := by simpa using cmp_lst [r] [r]
        simp [lcF, setD, setDs, setS, Slot.free, evC, evE, evA, evO, fzs, pks, pk, cmpOp, slcOp, hc, hr2, c1, lim, fz, wipeS, show binOp .sub (.int i) (.int 1) = some (.val (.int ((i : Int) - 1))) from rfl]
      · by_cases c2 : par ev r = true
        · have c3 := hm.mpr c2
          simp [lcF, setD, setDs, setS, Slot.free, evC, evE, evA, evO, fzs, pks, pk, hmod, cmpOp, slcOp, hc, hcmp, hah, c1, c2, c3, intsOf_mapI, lim, fz, wipeS, cmp_int, show binOp .sub (.int i) (.int 1) = some (.val (.int ((i : Int) - 1))) from rfl]
        · have c3 : ¬ (((ev.count r : Nat) : Int).fmod 2 = 1) := fun z => c2 (hm.mp z)
          simp [lcF, setD, setDs, setS, Slot.free, evC, evE, evA, evO, fzs, pks, pk, hmod, cmpOp, slcOp, hc, hcmp, hah, c1, c2, c3, intsOf_mapI, lim, fz, wipeS, cmp_int, show binOp .sub (.int i) (.int 1) = some (.val (.int ((i : Int) - 1))) from rfl]
  have hs : biOp .sorted [.lst (nss.flatten.map D.int)] = some (.new (.lst (ev.map D.int))) := by
    simp only [biOp, intsOf_mapI, hev]
  have hl : (enumD (ev.map D.int)).length ≤ lim := by simpa [enumD] using evl
  have h2' := h2
  rw [List.length_flatten] at h2'
  simp [semF, b4, Mi.Arg.slot, List.replicate, itStart, dictIt, itsOf, D.seq?, h1, wipeS, ev1, backS, freeS, pk, lstsOf_map, flat_map, -List.map_flatten, h2', pks, intsOf_mapI, hev, setP, setS, Slot.free, fz, hl, ev2, biOp, retOf, outsOf]

/-! ### the side -/
def kindD (o : Bool) : D := .str (if o then Str.ofString "own" else Str.ofString "shut")
theorem cmp_kind (o : Bool) : eqOp (kindD o) (.str (Str.ofString "own")) = some o := by cases o <;> decide +kernel
def nbC (c x : Int) : List Int := [x + -1, x + 1].filter fun y => decide (0 ≤ y) && decide (y < c)
def sideL (c : Int) (o : Bool) (line : List Int) : List Int := oddS ((line.map (nbC c)).flatten ++ if o then line else [])
def nbE : E := (.lc [5] (.nm 5) (.tup (.acons (.neg (.cst (.int 1))) (.acons (.cst (.int 1)) .anil))) (.acons (.chn .le .lt (.cst (.int 0)) (.bin .add (.var 4) (.var 5)) (.var 0)) .anil) (.bin .add (.var 4) (.var 5)))
theorem set_id {α : Type} {l : List α} {i : Nat} {a : α} (h : l[i]? = some a) : l.set i a = l := by
  apply List.ext_getElem?
  intro j
  by_cases e : j = i
  · subst e; rw [set_self (get_lt h), h]
  · rw [List.getElem?_set_ne (Ne.symm e)]
theorem nb_turn (Φ : Nat → Fn) (c x : Int) {env : En} (h0 : env[0]? = some (.dat (.int c))) (h4 : env[4]? = some (.dat (.int x))) (h5 : env[5]? = some .un) : evE Φ nbE env = some (.new (.lst ((nbC c x).map D.int)), env) := by
  have l5 := get_lt h5
  have turn : ∀ s : Int, lcF Φ [5] (.nm 5) (.acons (.chn .le .lt (.cst (.int 0)) (.bin .add (.var 4) (.var 5)) (.var 0)) .anil) (.bin .add (.var 4) (.var 5)) (.int s) (env.set 5 .un) = some (if 0 ≤ x + s ∧ x + s < c then some (.int (x + s)) else none, env.set 5 .un) := by
    intro s
    have g0 : ((env.set 5 .un).set 5 (.dat (.int s)))[0]? = some (.dat (.int c)) := by simp [h0]
    have g4 : ((env.set 5 .un).set 5 (.dat (.int s)))[4]? = some (.dat (.int x)) := by simp [h4]
    have g5 : ((env.set 5 .un).set 5 (.dat (.int s)))[5]? = some (.dat (.int s)) := by simp [l5]
    have g6 : (env.set 5 .un)[5]? = some .un := by simp [l5]
    by_cases c1 : 0 ≤ x + s
    · by_cases c2 : x + s < c
      · simp [lcF, setD, setS, g6, Slot.free, l5, h0, h4, pk, add_ev, cmpOp, c1, c2, fz, wipeS]
      · simp [lcF, setD, setS, g6, Slot.free, l5, h0, h4, pk, add_ev, cmpOp, c1, c2, fz, wipeS]
    · simp [lcF, setD, setS, g6, Slot.free, l5, h0, h4, pk, add_ev, cmpOp, c1, fz, wipeS]
  have e1 := turn (-1)
  have e2 := turn 1
  have hb : backS env (env.set 5 .un) [5] = env := by
    simp only [backS, h5]
    rw [List.set_set]
    exact set_id h5
  unfold nbE
  simp only [q_lc, itStart, dictIt, q_tup2, qa_acons1, q_neg5, q_cst1, qa_anil0, fzs, fz, List.length_cons, List.length_nil, lim]
  simp only [Nat.reduceAdd, Nat.reduceLeDiff, if_true, itsOf, D.seq?, List.length_cons, List.length_nil, wipeS, lcGo, e1, e2, Int.reduceNeg, hb, freeS]
  unfold nbC
  by_cases a1 : 0 ≤ x + -1 ∧ x + -1 < c <;> by_cases a2 : 0 ≤ x + 1 ∧ x + 1 < c <;> simp [a1, a2, List.filter_cons]
theorem side_len (c : Int) (o : Bool) (line : List Int) : ((line.map (nbC c)).flatten ++ if o then line else []).length ≤ 3 * line.length := by
  have h1 : ∀ l : List Int, (l.map (nbC c)).flatten.length ≤ 2 * l.length := by
    intro l
    induction l with
    | nil => exact Nat.le_refl _
    | cons x l ih =>
      rw [List.map_cons, List.flatten_cons, List.length_append, List.length_cons]
      have : (nbC c x).length ≤ 2 := List.length_filter_le _ _
      omega
  have h2 := h1 line
  have h3 : (if o then line else []).length ≤ line.length := by cases o <;> simp
  rw [List.length_append]
  omega
def Sum4 (Φ : Nat → Fn) (i : Nat) : Prop := ∀ (lots : List D) (nss : List (List Int)), Paired LotD lots nss → lots.length ≤ lim → nss.flatten.length ≤ 1000000 → Φ i [.dat (.lst lots)] = some (.val (dI (oddS nss.flatten)), [])
theorem side_lots (Φ : Nat → Fn) (c : Int) (o : Bool) (line : List Int) : lcGo (lcF Φ [4] (.nm 4) .anil nbE) (line.map D.int) [.dat (.int c), .dat (kindD o), .dat (dI line), .un, .un, .un] = some (line.map fun x => D.lst ((nbC c x).map D.int), [.dat (.int c), .dat (kindD o), .dat (dI line), .un, .un, .un]) := by
  rw [lcGo_map fun d => match d with | .int x => .lst ((nbC c x).map D.int) | d => d]
  · rw [List.map_map]
    rfl
  · intro d hd
    obtain ⟨x, _, rfl⟩ := List.mem_map.mp hd
    have := nb_turn Φ c x (env := [.dat (.int c), .dat (kindD o), .dat (dI line), .un, .dat (.int x), .un]) rfl rfl rfl
    simp [lcF, setD, setS, Slot.free, this, fz, wipeS]
theorem side_paired (c : Int) (o : Bool) (line : List Int) : Paired LotD ((line.map fun x => D.lst ((nbC c x).map D.int)) ++ if o then [dI line] else []) (line.map (nbC c) ++ if o then [line] else []) := by
  refine paired_app (paired_map _ fun x _ => .inr rfl) ?_
  cases o
  · exact .nil
  · exact .cons (.inl rfl) .nil
theorem s5 (Φ : Nat → Fn) (h4 : Sum4 Φ 4) (c : Int) (o : Bool) (line : List Int) (hl : line.length ≤ 1000) : semF Φ 3 6 b5 [.dat (.int c), .dat (kindD o), .dat (dI line)] = some (.val (dI (sideL c o line)), []) := by
  have ev := side_lots Φ c o line
  have hp := side_paired c o line
  have hk := cmp_kind o
  have hfl : (line.map (nbC c) ++ if o then [line] else []).flatten = (line.map (nbC c)).flatten ++ if o then line else [] := by
    cases o <;> simp
  have h := h4 _ _ hp (by have := paired_len hp; rw [this]; cases o <;> simp [lim] <;> omega) (by rw [hfl]; have := side_len c o line; omega)
  rw [hfl] at h
  have hb5 : b5 = (.seq (.asg (.nm 3) (.lc [4] (.nm 4) (.var 2) .anil nbE)) (.seq (.ret (.call 4 (.acons (.bin .add (.var 3) (.ite (.cmp .eq (.var 1) (.cst (.str (Str.ofString "own")))) (.lst (.acons (.var 2) .anil)) (.lst .anil))) .anil))) .nop)) := rfl
  rw [hb5]
  cases o
  · simp at h
    simp [semF, Mi.Arg.slot, List.replicate, itStart, dictIt, itsOf, D.seq?, lim, hl, Nat.le_trans hl (by decide : 1000 ≤ 4000000), wipeS, ev, backS, freeS, setP, setS, Slot.free, cmpOp, hk, pk, fzs, binOp, toArgs, h, putBack, Ret.p, retOf, outsOf, sideL]
  · simp at h
    have hz : line.length + 1 ≤ 4000000 := by omega
    simp [semF, Mi.Arg.slot, List.replicate, itStart, dictIt, itsOf, D.seq?, lim, hl, Nat.le_trans hl (by decide : 1000 ≤ 4000000), wipeS, ev, backS, freeS, setP, setS, Slot.free, cmpOp, hk, pk, fzs, fz, binOp, hz, toArgs, h, putBack, Ret.p, retOf, outsOf, sideL]

/-! ### behind -/
theorem forGo_inv {f : D → En → Option Out} (Q : Nat → En → Prop) : ∀ (xs : List D) (k : Nat) (env : En), Q k env → (∀ (i : Nat) (x : D) (e : En), xs[i]? = some x → Q (k + i) e → ∃ e', f x e = some (.nx e') ∧ Q (k + i + 1) e') → ∃ e', forGo f xs env = some (.nx e') ∧ Q (k + xs.length) e'
  | [], k, env, h, _ => ⟨env, rfl, h⟩
  | x :: xs, k, env, h, step => by
    obtain ⟨e1, h1, q1⟩ := step 0 x env rfl h
    obtain ⟨e2, h2, q2⟩ := forGo_inv Q xs (k + 1) e1 q1 fun i y e hy hq => by
      have := step (i + 1) y e (by simpa using hy) (by rw [show k + (i + 1) = k + 1 + i by omega]; exact hq)
      rw [show k + (i + 1) + 1 = k + 1 + i + 1 by omega] at this
      exact this
    refine ⟨e2, ?_, by rw [List.length_cons, show k + (xs.length + 1) = k + 1 + xs.length by omega]; exact q2⟩
    unfold forGo
    rw [h1]
    exact h2
theorem ix_tup {l : List D} (i : Nat) : ixOp (.tup l) (.int i) = l[i]? := by
  simp only [ixOp, atI, ixN]
  rw [if_pos (by omega)]
  split
  · rfl
  · rename_i h
    rw [List.getElem?_eq_none (by omega)]
    rfl
theorem ix_lst {l : List D} (i : Nat) : ixOp (.lst l) (.int i) = l[i]? := by
  simp only [ixOp, atI, ixN]
  rw [if_pos (by omega)]
  split
  · rfl
  · rename_i h
    rw [List.getElem?_eq_none (by omega)]
    rfl
/-- strokes: a tuple, or a list that the caller keeps -/
def stA (own : Bool) (st : List (List Int)) : Mi.Arg := if own then .own (.lst (st.map dI)) else .dat (.tup (st.map dI))
def stO (own : Bool) (st : List (List Int)) : List MO := if own then [.lst (st.map dI)] else []
def gridD (r c : Nat) : D := .tup [.int r, .int c]
def line (st : List (List Int)) (i : Nat) : List Int := st.getD i []
def rowL (r c : Nat) (o : Bool) (sh st : List (List Int)) (i : Nat) : List Int :=
  oddS (line sh i ++ (sideL c o (line st i) ++ ((if 1 ≤ i then line st (i - 1) else []) ++ (if i + 1 < r then line st (i + 1) else []))))
def behindL (r c : Nat) (o : Bool) (sh st : List (List Int)) : List (List Int) := (List.range r).map (rowL r c o sh st)
theorem line_get {st : List (List Int)} {i : Nat} (h : i < st.length) : (st.map dI)[i]? = some (dI (line st i)) := by
  rw [List.getElem?_map, List.getElem?_eq_getElem h]
  unfold line
  rw [List.getD_eq_getElem?_getD, List.getElem?_eq_getElem h]
  rfl
def nearE : E := (.lc [8] (.nm 8) (.tup (.acons (.bin .sub (.var 4) (.cst (.int 1))) (.acons (.bin .add (.var 4) (.cst (.int 1))) .anil))) (.acons (.chn .le .lt (.cst (.int 0)) (.var 8) (.var 5)) .anil) (.ix (.var 3) (.var 8)))
def nearL (r : Nat) (st : List (List Int)) (i : Nat) : List (List Int) := (if 1 ≤ i then [line st (i - 1)] else []) ++ if i + 1 < r then [line st (i + 1)] else []
theorem near_ok (Φ : Nat → Fn) (own : Bool) {r i : Nat} {st : List (List Int)} {env : En} (hi : i < r) (hst : st.length = r) (h3 : env[3]? = some (stA own st).slot) (h4 : env[4]? = some (.dat (.int i))) (h5 : env[5]? = some (.dat (.int r))) (h8 : env[8]? = some .un) : evE Φ nearE env = some (.new (.lst ((nearL r st i).map dI)), env) := by
  have l8 := get_lt h8
  have turn : ∀ s : Int, lcF Φ [8] (.nm 8) (.acons (.chn .le .lt (.cst (.int 0)) (.var 8) (.var 5)) .anil) (.ix (.var 3) (.var 8)) (.int s) (env.set 8 .un) = some (if 0 ≤ s ∧ s < r then some (dI (line st s.toNat)) else none, env.set 8 .un) := by
    intro s
    have g6 : (env.set 8 .un)[8]? = some .un := by simp [l8]
    by_cases c1 : 0 ≤ s
    · by_cases c2 : s < r
      · have hx : s = ((s.toNat : Nat) : Int) := by omega
        have lx : s.toNat < st.length := by omega
        have i1 : ixOp (.tup (st.map dI)) (.int s) = some (dI (line st s.toNat)) := by rw [hx, ix_tup, line_get lx]; rfl
        have i2 : ixOp (.lst (st.map dI)) (.int s) = some (dI (line st s.toNat)) := by rw [hx, ix_lst, line_get lx]; rfl
        cases own
        · simp [lcF, setD, setS, g6, Slot.free, l8, h3, h5, stA, Mi.Arg.slot, pk, cmpOp, c1, c2, i1, fz, wipeS]
        · simp [lcF, setD, setS, g6, Slot.free, l8, h3, h5, stA, Mi.Arg.slot, pk, cmpOp, c1, c2, i2, fz, wipeS]
      · simp [lcF, setD, setS, g6, Slot.free, l8, h5, pk, cmpOp, c1, c2, fz, wipeS]
    · simp [lcF, setD, setS, g6, Slot.free, l8, h5, pk, cmpOp, c1, fz, wipeS]
  have e1 := turn ((i : Int) - 1)
  have e2 := turn ((i : Int) + 1)
  have b1 : (0 ≤ (i : Int) - 1 ∧ (i : Int) - 1 < r) ↔ 1 ≤ i := by omega
  have b2 : (0 ≤ (i : Int) + 1 ∧ (i : Int) + 1 < r) ↔ i + 1 < r := by omega
  have t1 : ((i : Int) - 1).toNat = i - 1 := by omega
  have t2 : ((i : Int) + 1).toNat = i + 1 := by omega
  simp only [b1, t1] at e1
  simp only [b2, t2] at e2
  have hb : backS env (env.set 8 .un) [8] = env := by
    simp only [backS, h8]
    rw [List.set_set]
    exact set_id h8
  have hsub : binOp .sub (.int i) (.int 1) = some (.val (.int ((i : Int) - 1))) := rfl
  unfold nearE
  simp [itStart, dictIt, h4, pk, hsub, add_ev, fzs, fz, lim, itsOf, D.seq?, wipeS, lcGo, e1, e2, hb, freeS]
  unfold nearL
  by_cases a1 : 1 ≤ i <;> by_cases a2 : i + 1 < r <;> simp [a1, a2]
/-- _law_behind: a turn -/
def behB : S := (.seq (.asg (.nm 7) nearE)
  (.seq (.exp (.mth .append (.var 6) (.acons (.call 4 (.acons (.bin .add (.lst (.acons (.ix (.var 2) (.var 4)) (.acons (.call 5 (.acons (.ix (.var 0) (.cst (.int 1))) (.acons (.var 1) (.acons (.ix (.var 3) (.var 4)) .anil)))) .anil))) (.var 7)) .anil)) .anil)))
  .nop))
theorem rowL_eq (r c : Nat) (o : Bool) (sh st : List (List Int)) (i : Nat) : rowL r c o sh st i = oddS ([line sh i, sideL c o (line st i)] ++ nearL r st i).flatten := by
  unfold rowL nearL
  congr 1
  by_cases a1 : 1 ≤ i <;> by_cases a2 : i + 1 < r <;> simp [a1, a2]
theorem dd_len : ∀ (l : List Int) (p : Option Int), (dd p l).length ≤ l.length
  | [], _ => Nat.le_refl _
  | x :: l, p => by
    unfold dd
    have := dd_len l (some x)
    split
    · rw [List.length_cons]; omega
    · rw [List.length_cons, List.length_cons]; omega
theorem len_oddS (l : List Int) : (oddS l).length ≤ l.length := by
  unfold oddS
  refine Nat.le_trans (List.length_filter_le _ _) (Nat.le_trans (dd_len _ _) ?_)
  rw [(sortI_perm l).length_eq]
  exact Nat.le_refl _
theorem line_len {st : List (List Int)} (hl : ∀ l ∈ st, l.length ≤ 1000) (i : Nat) : (line st i).length ≤ 1000 := by
  unfold line
  rw [List.getD_eq_getElem?_getD]
  cases e : st[i]? with
  | none => simp
  | some l => exact hl l (List.mem_of_getElem? e)
theorem side5_len (c : Int) (o : Bool) (l : List Int) : (sideL c o l).length ≤ 3 * l.length := Nat.le_trans (len_oddS _) (side_len c o l)
theorem near_len {r : Nat} {st : List (List Int)} {i : Nat} (hst : st.length = r) (hl : ∀ l ∈ st, l.length ≤ 1000) (hi : i < r) : (nearL r st i).flatten.length ≤ 2000 := by
  have a := line_len hl (i - 1)
  have b := line_len hl (i + 1)
  unfold nearL
  split <;> split <;> simp <;> omega
def Side5 (Φ : Nat → Fn) (i : Nat) : Prop := ∀ (c : Int) (o : Bool) (line : List Int), line.length ≤ 1000 → Φ i [.dat (.int c), .dat (kindD o), .dat (dI line)] = some (.val (dI (sideL c o line)), [])
theorem beh_turn (Φ : Nat → Fn) (h4 : Sum4 Φ 4) (h5 : Side5 Φ 5) (own : Bool) {r c : Nat} (o : Bool) {sh st : List (List Int)} (hr : r ≤ 100) (hsh : sh.length = r) (hst : st.length = r) (hl : ∀ l ∈ st, l.length ≤ 1000) (hl2 : ∀ l ∈ sh, l.length ≤ 1000) {i : Nat} (hi : i < r) {s4 s7 : Slot} (f4 : s4.free = true) (f7 : s7.free = true) (fs : List D) (hf : fs.length ≤ 100) :
    ∃ s7', s7'.free = true ∧ forF Φ (.nm 4) behB (.int i) [.dat (gridD r c), .dat (kindD o), .dat (.tup (sh.map dI)), (stA own st).slot, s4, .dat (.int r), .own true (.lst fs), s7, .un]
      = some (.nx [.dat (gridD r c), .dat (kindD o), .dat (.tup (sh.map dI)), (stA own st).slot, .dat (.int i), .dat (.int r), .own true (.lst (fs ++ [dI (rowL r c o sh st i)])), s7', .un]) := by
  refine ⟨.own true (.lst ((nearL r st i).map dI)), rfl, ?_⟩
  have hn := near_ok Φ own (env := [.dat (gridD r c), .dat (kindD o), .dat (.tup (sh.map dI)), (stA own st).slot, .dat (.int i), .dat (.int r), .own true (.lst fs), s7, .un]) hi hst rfl rfl rfl rfl
  have is_ : (line st i).length ≤ 1000 := by
    refine hl _ ?_
    unfold line
    rw [List.getD_eq_getElem?_getD, List.getElem?_eq_getElem (by omega)]
    exact List.getElem_mem _
  have h5' := h5 c o (line st i) is_
  have hsub : ixOp (.tup (sh.map dI)) (.int i) = some (dI (line sh i)) := by rw [ix_tup, line_get (by omega)]
  have hst1 : ixOp (.tup (st.map dI)) (.int i) = some (dI (line st i)) := by rw [ix_tup, line_get (by omega)]
  have hst2 : ixOp (.lst (st.map dI)) (.int i) = some (dI (line st i)) := by rw [ix_lst, line_get (by omega)]
  have nl : (nearL r st i).length ≤ 2 := by unfold nearL; split <;> split <;> simp
  have h4' := h4 ([dI (line sh i), dI (sideL c o (line st i))] ++ (nearL r st i).map dI) ([line sh i, sideL c o (line st i)] ++ nearL r st i) (by
    refine paired_app (.cons (.inl rfl) (.cons (.inl rfl) .nil)) ?_
    have := paired_map (F := LotD) (f := dI) (g := id) (nearL r st i) fun x _ => .inl rfl
    rw [List.map_id] at this
    exact this) (by simp [lim]; omega) (by
      have b1 : (line sh i).length ≤ 1000 := by
        refine hl2 _ ?_
        unfold line
        rw [List.getD_eq_getElem?_getD, List.getElem?_eq_getElem (by omega)]
        exact List.getElem_mem _
      have b2 := side5_len c o (line st i)
      have b3 := near_len hst hl hi
      simp only [List.flatten_append, List.length_append, List.flatten_cons, List.flatten_nil, List.append_nil]
      omega)
  rw [← rowL_eq] at h4'
  simp only [List.cons_append, List.nil_append] at h4'
  have hg : ixOp (gridD r c) (.int 1) = some (.int c) := ixt1
  have z1 : 2 + (nearL r st i).length ≤ 4000000 := by omega
  have z2 : fs.length < 4000000 := by omega
  cases own
  · have e : (stA false st).slot = .dat (.tup (st.map dI)) := rfl
    rw [e] at hn ⊢
    simp [forF, behB, setD, setS, f4, f7, hn, setP, pk, hsub, hst1, hg, fzs, fz, lim, toArgs, h5', putBack, Ret.p, binOp, z1, h4', lstIn, z2]
  · have e : (stA true st).slot = .own false (.lst (st.map dI)) := rfl
    rw [e] at hn ⊢
    simp [forF, behB, setD, setS, f4, f7, hn, setP, pk, hsub, hst2, hg, fzs, fz, lim, toArgs, h5', putBack, Ret.p, binOp, z1, h4', lstIn, z2]
theorem beh_len (r c : Nat) (o : Bool) (sh st : List (List Int)) : (behindL r c o sh st).length = r := by simp [behindL]
theorem range_D (r : Nat) : rangeD 0 r = (List.range r).map fun i => D.int ((i : Nat) : Int) := by
  unfold rangeD
  simp
theorem s6 (Φ : Nat → Fn) (h4 : Sum4 Φ 4) (h5 : Side5 Φ 5) (own : Bool) {r c : Nat} (o : Bool) {sh st : List (List Int)} (hr : r ≤ 100) (hsh : sh.length = r) (hst : st.length = r) (hl : ∀ l ∈ st, l.length ≤ 1000) (hl2 : ∀ l ∈ sh, l.length ≤ 1000) :
    semF Φ 4 9 b6 [.dat (gridD r c), .dat (kindD o), .dat (.tup (sh.map dI)), stA own st] = some (.val (.tup ((behindL r c o sh st).map dI)), stO own st) := by
  have loop := forGo_inv (f := forF Φ (.nm 4) behB) (fun i e => ∃ s4 s7 : Mi.Slot, s4.free = true ∧ s7.free = true ∧ e = [.dat (gridD r c), .dat (kindD o), .dat (.tup (sh.map dI)), (stA own st).slot, s4, .dat (.int r), .own true (.lst (((List.range i).map (rowL r c o sh st)).map dI)), s7, .un]) (rangeD 0 r) 0 [.dat (gridD r c), .dat (kindD o), .dat (.tup (sh.map dI)), (stA own st).slot, .un, .dat (.int r), .own true (.lst []), .un, .un]
    ⟨.un, .un, rfl, rfl, rfl⟩ (by
      rintro i x e hx ⟨s4, s7, f4, f7, rfl⟩
      obtain ⟨hi, rfl⟩ := range_get hx
      rw [Int.zero_add, Nat.zero_add]
      obtain ⟨s7', f7', ht⟩ := beh_turn Φ h4 h5 own o hr hsh hst hl hl2 hi f4 f7 (((List.range i).map (rowL r c o sh st)).map dI) (by simp; omega)
      refine ⟨_, ht, .dat (.int i), s7', rfl, f7', ?_⟩
      rw [List.range_succ, List.map_append, List.map_append]
      rfl)
  obtain ⟨e', hg, s4, s7, f4, f7, rfl⟩ := loop
  have hlen : (rangeD 0 r).length = r := by simp [rangeD]
  rw [Nat.zero_add, hlen] at hg
  have hb : b6 = (.seq (.par [5, 6] (.acons (.ix (.var 0) (.cst (.int 0))) (.acons (.lst .anil) .anil))) (.seq (.for_ (.nm 4) (.rng (.acons (.var 5) .anil)) behB) (.seq (.ret (.bi .tuple (.acons (.var 6) .anil))) .nop))) := rfl
  have hg0 : ixOp (gridD r c) (.int 0) = some (.int r) := ixt0
  have hrg : rngOf [.int r] = some (rangeD 0 r) := by
    simp only [rngOf]
    rw [if_pos (by omega)]
    simp
  rw [hb]
  cases own
  · have e : (stA false st).slot = .dat (.tup (st.map dI)) := rfl
    rw [e] at hg
    simp [semF, stA, stO, Mi.Arg.slot, List.replicate, hg0, pk, fzs, lim, rsPs, rsP, fz, setVs, setS, itStart, dictIt, pks, hrg, itsOf, hg, freeS, biOp, retOf, outsOf, behindL]
  · have e : (stA true st).slot = .own false (.lst (st.map dI)) := rfl
    rw [e] at hg
    simp [semF, stA, stO, Mi.Arg.slot, List.replicate, hg0, pk, fzs, lim, rsPs, rsP, fz, setVs, setS, itStart, dictIt, pks, hrg, itsOf, hg, freeS, biOp, retOf, outsOf, behindL]
end Lw

/-! K44b: sum_by, by a dict. -/
namespace Lw
open PySem PySem.Spec PyProof.Rows L2 Mi G

theorem valD_map {κ : Type} [DecidableEq κ] (k : κ) (v : D) (k' : κ) : ∀ kvs : List (κ × D), valD (kvs.map fun kv => if kv.1 = k then (kv.1, v) else kv) k' = if k = k' ∧ (valD kvs k').isSome then some v else valD kvs k'
  | [] => by simp [valD]
  | (a, d) :: r => by
    have ih := valD_map k v k' r
    rw [List.map_cons]
    by_cases h : a = k
    · subst h
      rw [if_pos rfl]
      simp only [valD]
      by_cases h2 : a = k'
      · simp [h2]
      · simp [h2, ih]
    · rw [if_neg h]
      simp only [valD]
      by_cases h2 : a = k'
      · subst h2
        have : ¬ k = a := fun z => h z.symm
        simp [this]
      · simp [h2, ih]
theorem valD_app {κ : Type} [DecidableEq κ] (k : κ) (v : D) (k' : κ) : ∀ kvs : List (κ × D), valD (kvs ++ [(k, v)]) k' = match valD kvs k' with | some d => some d | none => if k = k' then some v else none
  | [] => by simp [valD]
  | (a, d) :: r => by
    rw [List.cons_append]
    simp only [valD]
    by_cases h : a = k'
    · simp [h]
    · simp [h, valD_app k v k' r]
theorem any_valD {κ : Type} [DecidableEq κ] (k : κ) : ∀ kvs : List (κ × D), (kvs.any fun kv => decide (kv.1 = k)) = (valD kvs k).isSome
  | [] => rfl
  | (a, d) :: r => by
    rw [List.any_cons, any_valD k r]
    simp only [valD]
    by_cases h : a = k <;> simp [h]
theorem valD_put {κ : Type} [DecidableEq κ] (kvs : List (κ × D)) (k : κ) (v : D) (k' : κ) : valD (putD kvs k v) k' = if k = k' then some v else valD kvs k' := by
  unfold putD
  rw [any_valD]
  by_cases h : (valD kvs k).isSome = true
  · rw [if_pos h, valD_map]
    by_cases e : k = k'
    · subst e; simp [h]
    · simp [e]
  · rw [if_neg h, valD_app]
    by_cases e : k = k'
    · subst e
      have : valD kvs k = none := by simpa using h
      simp [this]
    · simp only [e, if_false]
      cases valD kvs k' <;> rfl
theorem keys_put {κ : Type} [DecidableEq κ] (kvs : List (κ × D)) (k : κ) (v : D) : (putD kvs k v).map (·.1) = if (valD kvs k).isSome = true then kvs.map (·.1) else kvs.map (·.1) ++ [k] := by
  unfold putD
  rw [any_valD]
  split
  · rw [List.map_map]
    refine List.map_congr_left fun a _ => ?_
    simp only [Function.comp]
    split <;> rfl
  · rw [List.map_append]; rfl
/-- the counts of l -/
structure Cnt (l : List Int) (kvs : List (Key × D)) : Prop where
  vl : ∀ x : Int, valD kvs (.inl x) = if x ∈ l then some (.int (l.count x : Nat)) else none
  ks : ∃ xs : List Int, kvs.map (·.1) = xs.map Sum.inl ∧ xs.Nodup ∧ ∀ x, x ∈ xs ↔ x ∈ l
theorem Cnt.nil : Cnt [] [] := ⟨fun x => by simp [valD], [], rfl, List.nodup_nil, fun x => Iff.rfl⟩
theorem Cnt.step {l : List Int} {kvs : List (Key × D)} (h : Cnt l kvs) (x : Int) : Cnt (l ++ [x]) (putD kvs (.inl x) (.int ((l.count x : Nat) + 1))) := by
  refine ⟨fun y => ?_, ?_⟩
  · rw [valD_put]
    by_cases e : x = y
    · subst e
      simp [List.count_append]
    · have e1 : ¬ (Sum.inl x : Key) = Sum.inl y := fun z => e (Sum.inl.inj z)
      have e2 : ¬ y = x := fun z => e z.symm
      rw [if_neg e1, h.vl]
      simp [List.count_append, e2, List.count_cons, e]
  · obtain ⟨xs, h1, h2, h3⟩ := h.ks
    rw [keys_put, h.vl]
    by_cases hx : x ∈ l
    · refine ⟨xs, by simp [hx, h1], h2, fun y => ?_⟩
      rw [h3]
      simp only [List.mem_append, List.mem_singleton]
      constructor
      · exact .inl
      · rintro (z | rfl)
        · exact z
        · exact hx
    · refine ⟨xs ++ [x], by simp [hx, h1], ?_, fun y => ?_⟩
      · refine List.nodup_append.mpr ⟨h2, by simp, fun a ha b hb => ?_⟩
        simp at hb
        subst hb
        exact fun z => hx ((h3 _).mp (z ▸ ha))
      · simp only [List.mem_append, List.mem_singleton, h3]
theorem nodup_len : ∀ {xs l : List Int}, xs.Nodup → (∀ x ∈ xs, x ∈ l) → xs.length ≤ l.length
  | [], _, _, _ => Nat.zero_le _
  | x :: xs, l, h, hs => by
    obtain ⟨h1, h2⟩ := List.nodup_cons.mp h
    have hx := hs x List.mem_cons_self
    have := nodup_len (l := l.erase x) h2 fun y hy => by
      have ne : y ≠ x := fun z => h1 (z ▸ hy)
      exact (List.mem_erase_of_ne ne).mpr (hs y (List.mem_cons_of_mem _ hy))
    rw [List.length_erase_of_mem hx] at this
    have : 0 < l.length := List.length_pos_of_mem hx
    rw [List.length_cons]
    omega
theorem Cnt.len {l : List Int} {kvs : List (Key × D)} (h : Cnt l kvs) : kvs.length ≤ l.length := by
  obtain ⟨xs, h1, h2, h3⟩ := h.ks
  have e : kvs.length = xs.length := by
    have := congrArg List.length h1
    simpa using this
  rw [e]
  exact nodup_len h2 fun x hx => (h3 x).mp hx
theorem asc_sortI {l : List Int} (h : l.Nodup) : Asc (sortI l) := by
  have h1 := sortI_asc l
  have h2 : (sortI l).Nodup := (sortI_perm l).nodup_iff.mpr h
  exact (h1.and h2).imp fun ⟨a, b⟩ => by omega
def putE : S := (.seq (.put (.var 1) (.var 3) (.bin .add (.dget (.var 1) (.var 3) (.cst (.int 0))) (.cst (.int 1)))) .nop)
theorem put_turn (Φ : Nat → Fn) (s0 : Mi.Slot) (lot : D) {l : List Int} {kvs : List (Key × D)} (h : Cnt l kvs) (hl : l.length < 4000000) (x : Int) {s3 : Mi.Slot} (f3 : s3.free = true) : ∃ kvs', Cnt (l ++ [x]) kvs' ∧ forF Φ (.nm 3) putE (.int x) [s0, .own true (.dK kvs), .dat lot, s3] = some (.nx [s0, .own true (.dK kvs'), .dat lot, .dat (.int x)]) := by
  refine ⟨_, h.step x, ?_⟩
  have hk := h.len
  have hz : kvs.length < 4000000 := by omega
  have hv : (valD kvs (.inl x)).getD (.int 0) = .int (l.count x : Nat) := by
    rw [h.vl]
    by_cases hx : x ∈ l
    · simp [hx]
    · simp [hx, List.count_eq_zero_of_not_mem hx]
  simp [forF, putE, setD, setS, f3, dictIn, Slot.mo?, dlook, hv, pk, add_ev, fz, Mi.putAt, Mi.dput, lim, hz]
theorem put_loop (Φ : Nat → Fn) (s0 : Mi.Slot) (lot : D) : ∀ (xs : List Int) {l : List Int} {kvs : List (Key × D)} {s3 : Mi.Slot}, Cnt l kvs → l.length + xs.length < 4000000 → s3.free = true →
    ∃ kvs' s3', Cnt (l ++ xs) kvs' ∧ s3'.free = true ∧ forGo (forF Φ (.nm 3) putE) (xs.map D.int) [s0, .own true (.dK kvs), .dat lot, s3] = some (.nx [s0, .own true (.dK kvs'), .dat lot, s3'])
  | [], l, kvs, s3, h, _, f3 => ⟨kvs, s3, by rw [List.append_nil]; exact h, f3, rfl⟩
  | x :: xs, l, kvs, s3, h, hl, f3 => by
    obtain ⟨k1, h1, e1⟩ := put_turn Φ s0 lot h (by rw [List.length_cons] at hl; omega) x f3
    obtain ⟨k2, s2, h2, f2, e2⟩ := put_loop Φ s0 lot xs (s3 := .dat (.int x)) h1 (by simp at hl ⊢; omega) rfl
    refine ⟨k2, s2, by simpa using h2, f2, ?_⟩
    rw [List.map_cons]
    unfold forGo
    rw [e1]
    exact e2
theorem lots_loop (Φ : Nat → Fn) (s0 : Mi.Slot) : ∀ {lots : List D} {nss : List (List Int)} {l : List Int} {kvs : List (Key × D)} {s2 s3 : Mi.Slot}, Paired LotD lots nss → Cnt l kvs → l.length + nss.flatten.length < 4000000 → s2.free = true → s3.free = true →
    ∃ kvs' s2' s3', Cnt (l ++ nss.flatten) kvs' ∧ s2'.free = true ∧ s3'.free = true ∧ forGo (forF Φ (.nm 2) (.seq (.for_ (.nm 3) (.var 2) putE) .nop)) lots [s0, .own true (.dK kvs), s2, s3] = some (.nx [s0, .own true (.dK kvs'), s2', s3'])
  | _, _, l, kvs, s2, s3, .nil, h, _, f2, f3 => ⟨kvs, s2, s3, by simpa using h, f2, f3, rfl⟩
  | _, _, l, kvs, s2, s3, .cons (a := d) (b := ns) (l₁ := lots) (l₂ := nss) r t, h, hl, f2, f3 => by
    rw [List.flatten_cons, List.length_append] at hl
    obtain ⟨k1, s3', h1, f3', e1⟩ := put_loop Φ s0 d ns (s3 := s3) h (by omega) f3
    obtain ⟨k2, s2', s3'', h2, g2, g3, e2⟩ := lots_loop Φ s0 (s2 := .dat d) (s3 := s3') t h1 (by rw [List.length_append]; omega) rfl f3'
    refine ⟨k2, s2', s3'', by rw [List.flatten_cons, ← List.append_assoc]; exact h2, g2, g3, ?_⟩
    have es : d.seq? = some (ns.map D.int) := by rcases r with rfl | rfl <;> rfl
    have e3 : forF Φ (.nm 2) (.seq (.for_ (.nm 3) (.var 2) putE) .nop) d [s0, .own true (.dK kvs), s2, s3] = some (.nx [s0, .own true (.dK k1), .dat d, s3']) := by
      simp [forF, setD, setS, f2, itStart, dictIt, itsOf, es, e1, freeS]
    unfold forGo
    rw [e3]
    exact e2
theorem s17 (Φ : Nat → Fn) (own : Bool) : ∀ (lots : List D) (nss : List (List Int)), Paired LotD lots nss → lots.length ≤ lim → nss.flatten.length ≤ 1000000 → semF Φ 1 4 b17 [if own then .own (.lst lots) else .dat (.lst lots)] = some (.val (dI (oddS nss.flatten)), if own then [.lst lots] else []) := by
  intro lots nss h h1 h2
  obtain ⟨kvs, s2, s3, hc, f2, f3, e1⟩ := lots_loop Φ (if own then .lck false (.lst lots) else .dat (.lst lots)) (s2 := .un) (s3 := .un) h Cnt.nil (by simp only [List.length_nil]; omega) rfl rfl
  rw [List.nil_append] at hc
  generalize hl : nss.flatten = l at *
  obtain ⟨xs, k1, k2, k3⟩ := hc.ks
  have hkeys : kvs.map (fun p => keyD p.1) = xs.map D.int := by
    have : kvs.map (fun p => keyD p.1) = (kvs.map (·.1)).map keyD := by rw [List.map_map]; rfl
    rw [this, k1, List.map_map]
    rfl
  have hlen := hc.len
  have hkl : kvs.length ≤ 4000000 := by omega
  have ev : ∀ s0 : Mi.Slot, lcGo (lcF Φ [3] (.nm 3) (.acons (.cmp .eq (.bin .mod (.ix (.var 1) (.var 3)) (.cst (.int 2))) (.cst (.int 1))) .anil) (.var 3)) (kvs.map fun p => keyD p.1) [s0, .lck true (.dK kvs), s2, .un] = some ((xs.filter fun x => par l x).map D.int, [s0, .lck true (.dK kvs), s2, .un]) := by
    intro s0
    rw [hkeys, lcGo_all fun d => match d with | .int x => if par l x = true then some (.int x) else none | _ => none]
    · congr 2
      clear k1 k2 k3 hkeys
      induction xs with
      | nil => rfl
      | cons x xs ih =>
        rw [List.map_cons, List.filterMap_cons, List.filter_cons]
        by_cases hp : par l x = true
        · simp [hp, ih]
        · simp [hp, ih]
    · intro d hd
      obtain ⟨x, hx, rfl⟩ := List.mem_map.mp hd
      have hv := hc.vl x
      rw [if_pos ((k3 x).mp hx)] at hv
      have hm := mod_ev (i := ((l.count x : Nat) : Int)) (j := 2) (by decide)
      have hp : (((l.count x : Nat) : Int).fmod 2 = 1) ↔ par l x = true := by
        unfold par
        rw [Int.fmod_eq_emod_of_nonneg _ (by decide)]
        simp
        omega
      by_cases c : par l x = true
      · have c' := hp.mpr c
        simp [lcF, setD, setS, pk, dix, Slot.mo?, dlook, hv, hm, cmpOp, cmp_int, c, c', fz, wipeS]
      · have c' : ¬ (((l.count x : Nat) : Int).fmod 2 = 1) := fun z => c (hp.mp z)
        simp [lcF, setD, setS, pk, dix, Slot.mo?, dlook, hv, hm, cmpOp, cmp_int, c, c', fz, wipeS]
  have hfin : sortI (xs.filter fun x => par l x) = oddS l := by
    refine asc_ext (asc_sortI (k2.filter _)) (oddS_asc l) fun x => ?_
    rw [(sortI_perm _).mem_iff, List.mem_filter, mem_oddS, k3]
    constructor
    · intro h; exact h.2
    · intro h
      refine ⟨?_, h⟩
      unfold par at h
      refine List.count_pos_iff.mp ?_
      have : l.count x % 2 = 1 := by simpa using h
      omega
  have hb : b17 = (.seq (.asg (.nm 1) (.dnew false)) (.seq (.for_ (.nm 2) (.var 0) (.seq (.for_ (.nm 3) (.var 2) putE) .nop)) (.seq (.ret (.bi .tuple (.acons (.bi .sorted (.acons (.lc [3] (.nm 3) (.var 1) (.acons (.cmp .eq (.bin .mod (.ix (.var 1) (.var 3)) (.cst (.int 2))) (.cst (.int 1))) .anil) (.var 3)) .anil)) .anil))) .nop))) := rfl
  rw [hb]
  cases own
  · simp at e1
    simp [semF, Mi.Arg.slot, List.replicate, setP, setS, itStart, dictIt, itsOf, D.seq?, e1, freeS, dkeys, lim, hkl, wipeS, ev, backS, pks, pk, biOp, intsOf_mapI, hfin, retOf, outsOf]
  · simp at e1
    simp [semF, Mi.Arg.slot, List.replicate, setP, setS, itStart, dictIt, itsOf, D.seq?, e1, freeS, dkeys, lim, hkl, wipeS, ev, backS, pks, pk, biOp, intsOf_mapI, hfin, retOf, outsOf]
theorem fzs_vals : ∀ (ds : List D) (env : En), fzs (ds.map P.val) env = some (ds, env)
  | [], _ => rfl
  | d :: ds, env => by
    rw [List.map_cons]
    unfold fzs
    simp only [fz, fzs_vals ds env]
theorem fzs_app1 {α : Type} (g : α → D) (l : List α) (ds : List D) (env : En) : fzs (l.map (P.val ∘ g) ++ ds.map P.val) env = some (l.map g ++ ds, env) := by
  have := fzs_vals (l.map g ++ ds) env
  rw [List.map_append, List.map_map] at this
  exact this
def Sum17 (Φ : Nat → Fn) (i : Nat) : Prop := ∀ (own : Bool) (lots : List D) (nss : List (List Int)), Paired LotD lots nss → lots.length ≤ lim → nss.flatten.length ≤ 1000000 → Φ i [if own then .own (.lst lots) else .dat (.lst lots)] = some (.val (dI (oddS nss.flatten)), if own then [.lst lots] else [])
theorem s18 (Φ : Nat → Fn) (h17 : Sum17 Φ 17) (c : Int) (o : Bool) (line : List Int) (hl : line.length ≤ 1000) : semF Φ 3 6 b18 [.dat (.int c), .dat (kindD o), .dat (dI line)] = some (.val (dI (sideL c o line)), []) := by
  have ev := side_lots Φ c o line
  have hk := cmp_kind o
  have hfl : (line.map (nbC c) ++ if o then [line] else []).flatten = (line.map (nbC c)).flatten ++ if o then line else [] := by
    cases o <;> simp
  have hlen := side_len c o line
  have h := h17 (!o) _ _ (side_paired c o line) (by rw [paired_len (side_paired c o line)]; cases o <;> simp [lim] <;> omega) (by rw [hfl]; omega)
  rw [hfl] at h
  have hb : b18 = (.seq (.asg (.nm 3) (.lc [4] (.nm 4) (.var 2) .anil nbE)) (.seq (.ret (.ite (.cmp .eq (.var 1) (.cst (.str (Str.ofString "own")))) (.call 17 (.acons (.lst (.astar (.var 3) (.acons (.var 2) .anil))) .anil)) (.call 17 (.acons (.var 3) .anil)))) .nop)) := rfl
  rw [hb]
  cases o
  · simp at h
    simp [semF, Mi.Arg.slot, List.replicate, itStart, dictIt, itsOf, D.seq?, lim, hl, Nat.le_trans hl (by decide : 1000 ≤ 4000000), wipeS, ev, backS, freeS, setP, setS, cmpOp, evT, hk, pk, toArgs, h, putBack, Ret.p, retOf, outsOf, sideL]
  · simp at h
    have hz : line.length + 1 ≤ 4000000 := by omega
    have hf := fun env => fzs_app1 (fun x => D.lst ((nbC c x).map D.int)) line [dI line] env
    simp only [List.map_cons, List.map_nil] at hf
    simp [semF, Mi.Arg.slot, List.replicate, itStart, dictIt, itsOf, D.seq?, lim, hl, Nat.le_trans hl (by decide : 1000 ≤ 4000000), wipeS, ev, backS, freeS, setP, setS, cmpOp, evT, hk, pk, hf, hz, toArgs, h, putBack, Ret.p, retOf, outsOf, sideL]
/-! ### behind_strokes -/
def behC : S := (.seq (.asg (.nm 7) nearE)
  (.seq (.exp (.mth .append (.var 6) (.acons (.call 17 (.acons (.lst (.acons (.ix (.var 2) (.var 4)) (.acons (.call 18 (.acons (.ix (.var 0) (.cst (.int 1))) (.acons (.var 1) (.acons (.ix (.var 3) (.var 4)) .anil)))) (.astar (.var 7) .anil)))) .anil)) .anil)))
  .nop))
theorem behC_turn (Φ : Nat → Fn) (h17 : Sum17 Φ 17) (h18 : Side5 Φ 18) {r c : Nat} (o : Bool) {sh st : List (List Int)} (hr : r ≤ 100) (hsh : sh.length = r) (hst : st.length = r) (hl : ∀ l ∈ st, l.length ≤ 1000) (hl2 : ∀ l ∈ sh, l.length ≤ 1000) {i : Nat} (hi : i < r) {s4 s7 : Mi.Slot} (f4 : s4.free = true) (f7 : s7.free = true) (fs : List D) (hf : fs.length ≤ 100) :
    ∃ s7', s7'.free = true ∧ forF Φ (.nm 4) behC (.int i) [.dat (gridD r c), .dat (kindD o), .dat (.tup (sh.map dI)), .dat (.tup (st.map dI)), s4, .dat (.int r), .own true (.lst fs), s7, .un]
      = some (.nx [.dat (gridD r c), .dat (kindD o), .dat (.tup (sh.map dI)), .dat (.tup (st.map dI)), .dat (.int i), .dat (.int r), .own true (.lst (fs ++ [dI (rowL r c o sh st i)])), s7', .un]) := by
  refine ⟨.own true (.lst ((nearL r st i).map dI)), rfl, ?_⟩
  have hn := near_ok Φ false (env := [.dat (gridD r c), .dat (kindD o), .dat (.tup (sh.map dI)), .dat (.tup (st.map dI)), .dat (.int i), .dat (.int r), .own true (.lst fs), s7, .un]) hi hst rfl rfl rfl rfl
  have h5' := h18 c o (line st i) (line_len hl i)
  have hsub : ixOp (.tup (sh.map dI)) (.int i) = some (dI (line sh i)) := by rw [ix_tup, line_get (by omega)]
  have hst1 : ixOp (.tup (st.map dI)) (.int i) = some (dI (line st i)) := by rw [ix_tup, line_get (by omega)]
  have nl : (nearL r st i).length ≤ 2 := by unfold nearL; split <;> split <;> simp
  have h4' := h17 false ([dI (line sh i), dI (sideL c o (line st i))] ++ (nearL r st i).map dI) ([line sh i, sideL c o (line st i)] ++ nearL r st i) (by
    refine paired_app (.cons (.inl rfl) (.cons (.inl rfl) .nil)) ?_
    have := paired_map (F := LotD) (f := dI) (g := id) (nearL r st i) fun x _ => .inl rfl
    rw [List.map_id] at this
    exact this) (by simp [lim]; omega) (by
      have b1 : (line sh i).length ≤ 1000 := line_len hl2 i
      have b2 := side5_len c o (line st i)
      have b4 := line_len hl i
      have b3 := near_len hst hl hi
      simp only [List.flatten_append, List.length_append, List.flatten_cons, List.flatten_nil, List.append_nil]
      omega)
  rw [← rowL_eq] at h4'
  simp only [List.cons_append, List.nil_append, if_neg Bool.false_ne_true, Bool.false_eq_true, if_false] at h4'
  have hg : ixOp (gridD r c) (.int 1) = some (.int c) := ixt1
  have z1 : (nearL r st i).length + 1 + 1 ≤ 4000000 := by omega
  have z2 : fs.length < 4000000 := by omega
  have hv := fun env => fzs_app1 dI (nearL r st i) [] env
  simp only [List.map_nil, List.append_nil] at hv
  simp [forF, behC, setD, setS, f4, f7, hn, setP, pk, hsub, hst1, hg, D.seq?, fzs, fz, hv, lim, toArgs, h5', putBack, Ret.p, z1, h4', lstIn, z2]
theorem s27 (Φ : Nat → Fn) (h17 : Sum17 Φ 17) (h18 : Side5 Φ 18) {r c : Nat} (o : Bool) {sh st : List (List Int)} (hr : r ≤ 100) (hsh : sh.length = r) (hst : st.length = r) (hl : ∀ l ∈ st, l.length ≤ 1000) (hl2 : ∀ l ∈ sh, l.length ≤ 1000) :
    semF Φ 4 9 b27 [.dat (gridD r c), .dat (kindD o), .dat (.tup (sh.map dI)), .dat (.tup (st.map dI))] = some (.val (.tup ((behindL r c o sh st).map dI)), []) := by
  have loop := forGo_inv (f := forF Φ (.nm 4) behC) (fun i e => ∃ s4 s7 : Mi.Slot, s4.free = true ∧ s7.free = true ∧ e = [.dat (gridD r c), .dat (kindD o), .dat (.tup (sh.map dI)), .dat (.tup (st.map dI)), s4, .dat (.int r), .own true (.lst (((List.range i).map (rowL r c o sh st)).map dI)), s7, .un]) (rangeD 0 r) 0 [.dat (gridD r c), .dat (kindD o), .dat (.tup (sh.map dI)), .dat (.tup (st.map dI)), .un, .dat (.int r), .own true (.lst []), .un, .un]
    ⟨.un, .un, rfl, rfl, rfl⟩ (by
      rintro i x e hx ⟨s4, s7, f4, f7, rfl⟩
      obtain ⟨hi, rfl⟩ := range_get hx
      rw [Int.zero_add, Nat.zero_add]
      obtain ⟨s7', f7', ht⟩ := behC_turn Φ h17 h18 o hr hsh hst hl hl2 hi f4 f7 (((List.range i).map (rowL r c o sh st)).map dI) (by simp; omega)
      refine ⟨_, ht, .dat (.int i), s7', rfl, f7', ?_⟩
      rw [List.range_succ, List.map_append, List.map_append]
      rfl)
  obtain ⟨e', hg, s4, s7, f4, f7, rfl⟩ := loop
  have hlen : (rangeD 0 r).length = r := by simp [rangeD]
  rw [Nat.zero_add, hlen] at hg
  have hb : b27 = (.seq (.par [5, 6] (.acons (.ix (.var 0) (.cst (.int 0))) (.acons (.lst .anil) .anil))) (.seq (.for_ (.nm 4) (.rng (.acons (.var 5) .anil)) behC) (.seq (.ret (.bi .tuple (.acons (.var 6) .anil))) .nop))) := rfl
  have hg0 : ixOp (gridD r c) (.int 0) = some (.int r) := ixt0
  have hrg : rngOf [.int r] = some (rangeD 0 r) := by
    simp only [rngOf]
    rw [if_pos (by omega)]
    simp
  rw [hb]
  simp [semF, Mi.Arg.slot, List.replicate, hg0, pk, fzs, lim, rsPs, rsP, fz, setVs, setS, itStart, dictIt, pks, hrg, itsOf, hg, freeS, biOp, retOf, outsOf, behindL]
end Lw

/-! K44c: lines within a grid; the chases. -/
namespace Lw
open PySem PySem.Spec PyProof.Rows L2 Mi G

/-- a line of c columns -/
structure In (c : Nat) (l : List Int) : Prop where
  asc : Asc l
  rng : ∀ x ∈ l, 0 ≤ x ∧ x < c
theorem In.nil (c : Nat) : In c [] := ⟨.nil, fun x h => by cases h⟩
theorem In.nodup {c : Nat} {l : List Int} (h : In c l) : l.Nodup := h.asc.imp fun q => by omega
theorem In.len {c : Nat} {l : List Int} (h : In c l) : l.length ≤ c := by
  have := nodup_len (l := (List.range c).map fun i => ((i : Nat) : Int)) h.nodup fun x hx => by
    obtain ⟨h1, h2⟩ := h.rng x hx
    exact List.mem_map.mpr ⟨x.toNat, List.mem_range.mpr (by omega), by omega⟩
  simpa using this
theorem par_mem {l : List Int} {x : Int} (h : par l x = true) : x ∈ l := by
  unfold par at h
  refine List.count_pos_iff.mp ?_
  have : l.count x % 2 = 1 := by simpa using h
  omega
theorem in_oddS {c : Nat} {l : List Int} (h : ∀ x ∈ l, 0 ≤ x ∧ x < c) : In c (oddS l) := ⟨oddS_asc l, fun x hx => h x (par_mem (mem_oddS.mp hx))⟩
theorem in_side {c : Nat} {o : Bool} {l : List Int} (h : In c l) : In c (sideL c o l) := by
  refine in_oddS fun x hx => ?_
  rcases List.mem_append.mp hx with hx | hx
  · obtain ⟨s, hs, hx⟩ := List.mem_flatten.mp hx
    obtain ⟨y, _, rfl⟩ := List.mem_map.mp hs
    have := (List.mem_filter.mp hx).2
    simp at this
    exact this
  · cases o with
    | true => exact h.rng x hx
    | false => cases hx
theorem in_line {c : Nat} {st : List (List Int)} (h : ∀ l ∈ st, In c l) (i : Nat) : In c (line st i) := by
  unfold line
  rw [List.getD_eq_getElem?_getD]
  cases e : st[i]? with
  | none => exact In.nil c
  | some l => exact h l (List.mem_of_getElem? e)
theorem in_row_ {r c : Nat} {o : Bool} {sh st : List (List Int)} (h1 : ∀ l ∈ sh, In c l) (h2 : ∀ l ∈ st, In c l) (i : Nat) : In c (rowL r c o sh st i) := by
  refine in_oddS fun x hx => ?_
  rcases List.mem_append.mp hx with hx | hx
  · exact (in_line h1 i).rng x hx
  · rcases List.mem_append.mp hx with hx | hx
    · exact (in_side (in_line h2 i)).rng x hx
    · rcases List.mem_append.mp hx with hx | hx
      · split at hx
        · exact (in_line h2 _).rng x hx
        · cases hx
      · split at hx
        · exact (in_line h2 _).rng x hx
        · cases hx
theorem in_beh {r c : Nat} {o : Bool} {sh st : List (List Int)} (h1 : ∀ l ∈ sh, In c l) (h2 : ∀ l ∈ st, In c l) : ∀ l ∈ behindL r c o sh st, In c l := fun l hl => by
  obtain ⟨i, _, rfl⟩ := List.mem_map.mp hl
  exact in_row_ h1 h2 i
/-- the law's own chase, up to row i -/
def lawCh (r c : Nat) (o : Bool) (sh : List (List Int)) (first : List Int) : Nat → List (List Int) × List (List Int)
  | 0 => (List.replicate r [], sh)
  | i + 1 =>
    let p := lawCh r c o sh first i
    let st := p.1.set i (if i = 0 then first else line p.2 (i - 1))
    (st, behindL r c o sh st)
theorem lawCh_in {r c : Nat} {o : Bool} {sh : List (List Int)} {first : List Int} (h1 : ∀ l ∈ sh, In c l) (hs : sh.length = r) (hf : In c first) : ∀ i, (lawCh r c o sh first i).1.length = r ∧ (lawCh r c o sh first i).2.length = r ∧ (∀ l ∈ (lawCh r c o sh first i).1, In c l) ∧ ∀ l ∈ (lawCh r c o sh first i).2, In c l
  | 0 => ⟨by simp [lawCh], hs, fun l hl => by
      have := List.eq_of_mem_replicate hl
      subst this
      exact In.nil c, h1⟩
  | i + 1 => by
    obtain ⟨a, b, d, e⟩ := lawCh_in (o := o) h1 hs hf i
    have hin : ∀ l ∈ (lawCh r c o sh first (i + 1)).1, In c l := fun l hl => by
      rcases List.mem_or_eq_of_mem_set hl with h | h
      · exact d l h
      · subst h
        split
        · exact hf
        · exact in_line e _
    exact ⟨by simp [lawCh, a], by simp [lawCh, behindL], hin, in_beh h1 hin⟩
def Beh6 (Φ : Nat → Fn) (i : Nat) : Prop := ∀ (own : Bool) (r c : Nat) (o : Bool) (sh st : List (List Int)), r ≤ 100 → sh.length = r → st.length = r → (∀ l ∈ st, l.length ≤ 1000) → (∀ l ∈ sh, l.length ≤ 1000) → Φ i [.dat (gridD r c), .dat (kindD o), .dat (.tup (sh.map dI)), stA own st] = some (.val (.tup ((behindL r c o sh st).map dI)), stO own st)
def chB : S := (.seq (.put (.var 5) (.var 4) (.ite (.cmp .eq (.var 4) (.cst (.int 0))) (.var 3) (.ix (.var 6) (.bin .sub (.var 4) (.cst (.int 1))))))
  (.seq (.asg (.nm 6) (.call 6 (.acons (.var 0) (.acons (.var 1) (.acons (.var 2) (.acons (.var 5) .anil))))))
  .nop))
theorem ch_turn (Φ : Nat → Fn) (h6 : Beh6 Φ 6) {r c : Nat} (o : Bool) {sh : List (List Int)} {first : List Int} (hr : r ≤ 100) (hc : c ≤ 100) (hs : sh.length = r) (h1 : ∀ l ∈ sh, In c l) (hf : In c first) {i : Nat} (hi : i < r) {s4 : Mi.Slot} (f4 : s4.free = true) :
    forF Φ (.nm 4) chB (.int i) [.dat (gridD r c), .dat (kindD o), .dat (.tup (sh.map dI)), .dat (dI first), s4, .own true (.lst ((lawCh r c o sh first i).1.map dI)), .dat (.tup ((lawCh r c o sh first i).2.map dI))]
      = some (.nx [.dat (gridD r c), .dat (kindD o), .dat (.tup (sh.map dI)), .dat (dI first), .dat (.int i), .own true (.lst ((lawCh r c o sh first (i + 1)).1.map dI)), .dat (.tup ((lawCh r c o sh first (i + 1)).2.map dI))]) := by
  obtain ⟨a, b, d, e⟩ := lawCh_in (o := o) h1 hs hf i
  obtain ⟨a', b', d', e'⟩ := lawCh_in (o := o) h1 hs hf (i + 1)
  have hz : ∀ {st : List (List Int)}, (∀ l ∈ st, In c l) → ∀ l ∈ st, l.length ≤ 1000 := fun h l hl => by
    have := (h l hl).len
    omega
  have h := h6 true r c o sh _ hr hs a' (hz d') (hz h1)
  simp only [stA, stO, if_true] at h
  have hset : ∀ l : List Int, ((lawCh r c o sh first i).1.map dI).set i (dI l) = (((lawCh r c o sh first i).1.set i l).map dI) := fun l => by rw [List.map_set]
  have lt : i < (lawCh r c o sh first i).1.length := by omega
  have e2 : (lawCh r c o sh first (i + 1)).2 = behindL r c o sh (lawCh r c o sh first (i + 1)).1 := rfl
  have step : (lawCh r c o sh first (i + 1)).1 = (lawCh r c o sh first i).1.set i (if i = 0 then first else line (lawCh r c o sh first i).2 (i - 1)) := rfl
  rw [e2]
  generalize (lawCh r c o sh first (i + 1)).1 = A at *
  have z : ((lawCh r c o sh first i).1.map dI).set i (dI (if i = 0 then first else line (lawCh r c o sh first i).2 (i - 1))) = A.map dI := by rw [hset, step]
  by_cases h0 : i = 0
  · subst h0
    simp only [if_true] at z
    simp [forF, chB, setD, setS, f4, pk, cmpOp, cmp_int, fz, Mi.putAt, lt, z, toArgs, h, putBack, Ret.p, setP]
  · rw [if_neg h0] at z
    have hsub : binOp .sub (.int i) (.int 1) = some (.val (.int ((i - 1 : Nat) : Int))) := by
      have : ((i - 1 : Nat) : Int) = (i : Int) - 1 := by omega
      rw [this]; rfl
    have hx : ixOp (.tup ((lawCh r c o sh first i).2.map dI)) (.int ((i - 1 : Nat) : Int)) = some (dI (line (lawCh r c o sh first i).2 (i - 1))) := by rw [ix_tup, line_get (by omega)]
    have hi0 : ¬ ((i : Int) = 0) := by omega
    simp [forF, chB, setD, setS, f4, pk, cmpOp, cmp_int, h0, hsub, hx, fz, Mi.putAt, lt, z, toArgs, h, putBack, Ret.p, setP]
theorem s7 (Φ : Nat → Fn) (h6 : Beh6 Φ 6) {r c : Nat} (o : Bool) {sh : List (List Int)} {first : List Int} (hr : r ≤ 100) (hr1 : 1 ≤ r) (hc : c ≤ 100) (hs : sh.length = r) (h1 : ∀ l ∈ sh, In c l) (hf : In c first) :
    semF Φ 4 7 b7 [.dat (gridD r c), .dat (kindD o), .dat (.tup (sh.map dI)), .dat (dI first)] = some (.val (.tup [.tup ((lawCh r c o sh first r).1.map dI), .tup ((lawCh r c o sh first r).2.map dI)]), []) := by
  have loop := forGo_inv (f := forF Φ (.nm 4) chB) (fun i e => ∃ s4 : Mi.Slot, s4.free = true ∧ e = [.dat (gridD r c), .dat (kindD o), .dat (.tup (sh.map dI)), .dat (dI first), s4, .own true (.lst ((lawCh r c o sh first i).1.map dI)), .dat (.tup ((lawCh r c o sh first i).2.map dI))]) (rangeD 0 r) 0 _
    ⟨.un, rfl, rfl⟩ (by
      rintro i x e hx ⟨s4, f4, rfl⟩
      obtain ⟨hi, rfl⟩ := range_get hx
      rw [Int.zero_add, Nat.zero_add]
      exact ⟨_, ch_turn Φ h6 o hr hc hs h1 hf hi f4, .dat (.int i), rfl, rfl⟩)
  obtain ⟨e', hg, s4, f4, rfl⟩ := loop
  have hlen : (rangeD 0 r).length = r := by simp [rangeD]
  rw [Nat.zero_add, hlen] at hg
  have hb : b7 = (.seq (.par [5, 6] (.acons (.bin .mul (.lst (.acons (.tup .anil) .anil)) (.ix (.var 0) (.cst (.int 0)))) (.acons (.var 2) .anil))) (.seq (.for_ (.nm 4) (.rng (.acons (.ix (.var 0) (.cst (.int 0))) .anil)) chB) (.seq (.ret (.tup (.acons (.bi .tuple (.acons (.var 5) .anil)) (.acons (.var 6) .anil)))) .nop))) := rfl
  have hg0 : ixOp (gridD r c) (.int 0) = some (.int r) := ixt0
  have hrg : rngOf [.int r] = some (rangeD 0 r) := by
    simp only [rngOf]
    rw [if_pos (by omega)]
    simp
  have hm : binOp .mul (.lst [.tup []]) (.int r) = some (.new (.lst ((List.replicate r ([] : List Int)).map dI))) := by
    simp only [binOp]
    rw [if_pos ⟨by omega, by omega, by decide⟩]
    simp
  rw [hb]
  have hg' := hg
  simp only [lawCh] at hg'
  simp [semF, Mi.Arg.slot, List.replicate, hg0, pk, fzs, fz, lim, hm, rsPs, rsP, setVs, setS, itStart, dictIt, pks, hrg, itsOf, -List.map_replicate, hg', freeS, biOp, retOf, outsOf]
/-! ### chase -/
def nxt (c : Nat) (o : Bool) (sh b l : List Int) : List Int := oddS (sh ++ (sideL c o l ++ b))
def chS (c : Nat) (o : Bool) : List (List Int) → List Int → List Int → List (List Int) × List Int
  | [], _, l => ([], l)
  | sh :: r, b, l => (l :: (chS c o r l (nxt c o sh b l)).1, (chS c o r l (nxt c o sh b l)).2)
theorem in_nxt {c : Nat} {o : Bool} {sh b l : List Int} (h1 : In c sh) (h2 : In c b) (h3 : In c l) : In c (nxt c o sh b l) := by
  refine in_oddS fun x hx => ?_
  rcases List.mem_append.mp hx with hx | hx
  · exact h1.rng x hx
  · rcases List.mem_append.mp hx with hx | hx
    · exact (in_side h3).rng x hx
    · exact h2.rng x hx
def chaseB : S := (.seq (.exp (.mth .append (.var 7) (.acons (.var 6) .anil)))
  (.seq (.par [5, 6] (.acons (.var 6) (.acons (.call 17 (.acons (.lst (.acons (.var 4) (.acons (.call 18 (.acons (.ix (.var 0) (.cst (.int 1))) (.acons (.var 1) (.acons (.var 6) .anil)))) (.acons (.var 5) .anil)))) .anil)) .anil)))
  .nop))
theorem chase_loop (Φ : Nat → Fn) (h17 : Sum17 Φ 17) (h18 : Side5 Φ 18) {r c : Nat} (o : Bool) (shD fD : D) (hc : c ≤ 100) : ∀ (sh : List (List Int)) {b l : List Int} {fs : List D} {s4 : Mi.Slot}, (∀ q ∈ sh, In c q) → In c b → In c l → fs.length + sh.length ≤ 1000 → s4.free = true →
    ∃ s4' b', s4'.free = true ∧ forGo (forF Φ (.nm 4) chaseB) (sh.map dI) [.dat (gridD r c), .dat (kindD o), .dat shD, .dat fD, s4, .dat (dI b), .dat (dI l), .own true (.lst fs)]
      = some (.nx [.dat (gridD r c), .dat (kindD o), .dat shD, .dat fD, s4', .dat (dI b'), .dat (dI (chS c o sh b l).2), .own true (.lst (fs ++ (chS c o sh b l).1.map dI))])
  | [], b, l, fs, s4, _, _, _, _, f4 => ⟨s4, b, f4, by simp [forGo, chS]⟩
  | q :: sh, b, l, fs, s4, h, hb, hl, hz, f4 => by
    rw [List.length_cons] at hz
    have hq := h q List.mem_cons_self
    have hn := in_nxt (o := o) hq hb hl
    obtain ⟨s4', b', f4', e⟩ := chase_loop Φ h17 h18 (r := r) o shD fD hc sh (b := l) (l := nxt c o q b l) (fs := fs ++ [dI l]) (s4 := .dat (dI q)) (fun x hx => h x (List.mem_cons_of_mem _ hx)) hl hn (by rw [List.length_append, List.length_singleton]; omega) rfl
    refine ⟨s4', b', f4', ?_⟩
    have hll : l.length ≤ 1000 := by have := hl.len; omega
    have e18 := h18 c o l hll
    have e17 := h17 false [dI q, dI (sideL c o l), dI b] [q, sideL c o l, b] (.cons (.inl rfl) (.cons (.inl rfl) (.cons (.inl rfl) .nil))) (by simp [lim]) (by
      have a1 := hq.len
      have a2 := (in_side (o := o) hl).len
      have a3 := hb.len
      simp
      omega)
    have hfl : [q, sideL c o l, b].flatten = q ++ (sideL c o l ++ b) := by simp
    rw [hfl] at e17
    simp only [Bool.false_eq_true, if_false] at e17
    have hg : ixOp (gridD r c) (.int 1) = some (.int c) := ixt1
    have z2 : fs.length < 4000000 := by omega
    have turn : forF Φ (.nm 4) chaseB (dI q) [.dat (gridD r c), .dat (kindD o), .dat shD, .dat fD, s4, .dat (dI b), .dat (dI l), .own true (.lst fs)] = some (.nx [.dat (gridD r c), .dat (kindD o), .dat shD, .dat fD, .dat (dI q), .dat (dI l), .dat (dI (nxt c o q b l)), .own true (.lst (fs ++ [dI l]))]) := by
      simp [forF, chaseB, setD, setS, f4, lstIn, fz, z2, lim, hg, pk, toArgs, e18, putBack, Ret.p, fzs, e17, rsPs, rsP, setVs, nxt]
    rw [List.map_cons]
    unfold forGo
    rw [turn]
    simp only
    rw [e]
    simp [chS]
theorem s19 (Φ : Nat → Fn) (h17 : Sum17 Φ 17) (h18 : Side5 Φ 18) {r c : Nat} (o : Bool) {sh : List (List Int)} {first : List Int} (hs : sh.length ≤ 100) (hc : c ≤ 100) (h1 : ∀ l ∈ sh, In c l) (hf : In c first) :
    semF Φ 4 8 b19 [.dat (gridD r c), .dat (kindD o), .dat (.tup (sh.map dI)), .dat (dI first)] = some (.val (.tup [.tup ((chS c o sh [] first).1.map dI), dI (chS c o sh [] first).2]), []) := by
  obtain ⟨s4', b', f4', e⟩ := chase_loop Φ h17 h18 (r := r) o (.tup (sh.map dI)) (dI first) hc sh (b := []) (l := first) (fs := []) (s4 := .un) h1 (In.nil c) hf (by simp; omega) rfl
  have hb : b19 = (.seq (.par [5, 6, 7] (.acons (.tup .anil) (.acons (.var 3) (.acons (.lst .anil) .anil)))) (.seq (.for_ (.nm 4) (.var 2) chaseB) (.seq (.ret (.tup (.acons (.bi .tuple (.acons (.var 7) .anil)) (.acons (.var 6) .anil)))) .nop))) := rfl
  rw [hb]
  simp only [List.nil_append] at e
  have e : forGo (forF Φ (.nm 4) chaseB) (sh.map dI) [.dat (gridD r c), .dat (kindD o), .dat (.tup (sh.map dI)), .dat (dI first), .un, .dat (.tup []), .dat (dI first), .own true (.lst [])] = _ := e
  simp [semF, Mi.Arg.slot, List.replicate, fzs, fz, lim, rsPs, rsP, setVs, setS, itStart, dictIt, itsOf, D.seq?, e, freeS, pks, pk, biOp, retOf, outsOf]
end Lw

/-! K44d: the checks. -/
namespace Lw
open PySem PySem.Spec PyProof.Rows L2 Mi G

theorem s11 (Φ : Nat → Fn) (i : Int) : semF Φ 1 1 b11 [.dat (.int i)] = some (.val (.bl true), []) := rfl
theorem s12 (Φ : Nat → Fn) (h11 : ∀ i : Int, Φ 11 [.dat (.int i)] = some (.val (.bl true), [])) (i lo hi : Int) : semF Φ 3 3 b12 [.dat (.int i), .dat (.int lo), .dat (.int hi)] = some (.val (.bl (decide (lo ≤ i) && decide (i ≤ hi))), []) := by
  by_cases h1 : lo ≤ i <;> by_cases h2 : i ≤ hi <;> simp [semF, b12, toArgs, h11, putBack, Ret.p, retOf, outsOf, cmpOp, Mi.Arg.slot, h1, h2]
theorem blsOf_mapB : ∀ bs : List Bool, blsOf (bs.map D.bl) = some bs
  | [] => rfl
  | b :: bs => by simp only [List.map_cons, blsOf, D.toBl?, blsOf_mapB bs]
theorem s13 (Φ : Nat → Fn) (h12 : ∀ i lo hi : Int, Φ 12 [.dat (.int i), .dat (.int lo), .dat (.int hi)] = some (.val (.bl (decide (lo ≤ i) && decide (i ≤ hi))), [])) (l : List Int) (lo hi : Int) (hl : l.length ≤ 1000) :
    semF Φ 3 4 b13 [.dat (dI l), .dat (.int lo), .dat (.int hi)] = some (.val (.bl (l.all fun i => decide (lo ≤ i) && decide (i ≤ hi))), []) := by
  have ev : lcGo (lcF Φ [3] (.nm 3) .anil (.call 12 (.acons (.var 3) (.acons (.var 1) (.acons (.var 2) .anil))))) (l.map D.int) [.dat (dI l), .dat (.int lo), .dat (.int hi), .un] = some ((l.map fun i => decide (lo ≤ i) && decide (i ≤ hi)).map D.bl, [.dat (dI l), .dat (.int lo), .dat (.int hi), .un]) := by
    rw [lcGo_map fun d => match d with | .int i => .bl (decide (lo ≤ i) && decide (i ≤ hi)) | d => d]
    · rw [List.map_map, List.map_map]
      rfl
    · intro d hd
      obtain ⟨x, _, rfl⟩ := List.mem_map.mp hd
      simp [lcF, setD, setS, toArgs, h12, putBack, Ret.p, fz, wipeS]
  have hz : l.length ≤ 4000000 := by omega
  simp [semF, b13, Mi.Arg.slot, List.replicate, pks, pk, biOp, D.isA, itStart, dictIt, itsOf, D.seq?, lim, hz, wipeS, ev, -List.map_map, backS, freeS, blsOf_mapB, retOf, outsOf]
theorem s20 (Φ : Nat → Fn) {r c : Nat} (h1 : 1 ≤ r) (h2 : r ≤ 100) : semF Φ 1 1 b20 [.dat (gridD r c)] = some (.val (.tup ((List.replicate r ([] : List Int)).map dI)), []) := by
  have hg0 : ixOp (gridD r c) (.int 0) = some (.int r) := ixt0
  have hm : binOp .mul (.tup [.tup []]) (.int r) = some (.val (.tup ((List.replicate r ([] : List Int)).map dI))) := by
    simp only [binOp]
    rw [if_pos ⟨by simp, by omega, by omega, by decide⟩]
    simp
  simp [semF, b20, Mi.Arg.slot, List.replicate, fzs, fz, lim, hg0, pk, hm, -List.map_replicate, retOf, outsOf]
/-- ascending, by neighbours -/
def ascB : List Int → Bool
  | x :: y :: r => decide (x < y) && ascB (y :: r)
  | _ => true
theorem ascB_of : ∀ {l : List Int}, Asc l → ascB l = true
  | [], _ => rfl
  | [x], _ => rfl
  | x :: y :: r, h => by
    obtain ⟨h1, h2⟩ := List.pairwise_cons.mp h
    unfold ascB
    rw [ascB_of h2]
    simpa using h1 y List.mem_cons_self
def pairT (d : D) : D := match d with
  | .tup [.int a, .int b] => .bl (decide (a < b))
  | d => d
theorem zip_asc : ∀ l : List Int, ∃ bs : List Bool, (List.zipWith (fun x y => D.tup [x, y]) (l.map D.int) ((l.map D.int).drop 1)).map pairT = bs.map D.bl ∧ bs.all id = ascB l ∧ bs.length ≤ l.length
  | [] => ⟨[], rfl, rfl, Nat.le_refl _⟩
  | [x] => ⟨[], rfl, rfl, Nat.zero_le _⟩
  | x :: y :: r => by
    obtain ⟨bs, h1, h2, h3⟩ := zip_asc (y :: r)
    refine ⟨decide (x < y) :: bs, ?_, ?_, ?_⟩
    · simp only [List.map_cons, List.drop_succ_cons, List.drop_zero, List.zipWith_cons_cons] at h1 ⊢
      rw [h1]
      rfl
    · simp [ascB, ← h2]
    · simp at h3 ⊢; omega
theorem s23 (Φ : Nat → Fn) (l : List Int) (hl : l.length ≤ 1000) : semF Φ 1 3 b23 [.dat (dI l)] = some (.val (.bl (ascB l)), []) := by
  obtain ⟨bs, h1, h2, h3⟩ := zip_asc l
  have hcut : slcOp (dI l) (some 1) none = some (.val (.tup ((l.map D.int).drop 1))) := by
    simp only [slcOp, Mi.cutD]
    have e1 : HT.sIx (l.map D.int).length (l.map D.int).length none = (l.map D.int).length := rfl
    rw [e1]
    congr 3
    cases l with
    | nil => rfl
    | cons x l =>
      have : HT.sIx ((x :: l).map D.int).length 0 (some 1) = 1 := by
        have := HT.sIx_nat ((x :: l).map D.int).length 0 1
        rw [show ((1 : Nat) : Int) = 1 from rfl] at this
        rw [this]
        simp
      rw [this, List.take_of_length_le]
      simp
  have hz : (List.zipWith (fun x y => D.tup [x, y]) (l.map D.int) ((l.map D.int).drop 1)).length ≤ 4000000 := by
    rw [List.length_zipWith, List.length_map]
    omega
  have ev : lcGo (lcF Φ [1, 2] (.tp (.cons (.nm 1) (.cons (.nm 2) .nil))) .anil (.cmp .lt (.var 1) (.var 2))) (List.zipWith (fun x y => D.tup [x, y]) (l.map D.int) ((l.map D.int).drop 1)) [.dat (dI l), .un, .un] = some (bs.map D.bl, [.dat (dI l), .un, .un]) := by
    rw [← h1]
    refine lcGo_map _ fun d hd => ?_
    obtain ⟨i, hi⟩ := List.getElem?_of_mem hd
    obtain ⟨x, y, hx, hy, rfl⟩ := Mi.zip_get hi
    rw [List.getElem?_map] at hx
    rw [List.getElem?_drop, List.getElem?_map] at hy
    cases e1 : l[i]? with
    | none => rw [e1] at hx; cases hx
    | some a =>
      rw [e1] at hx
      cases hx
      cases e2 : l[1 + i]? with
      | none => rw [e2] at hy; cases hy
      | some b =>
        rw [e2] at hy
        cases hy
        simp [lcF, setD, setDs, setS, pk, cmpOp, fz, wipeS, pairT]
  generalize hT : (l.map D.int).drop 1 = T at *
  simp only [List.length_zipWith, List.length_map] at hz
  simp [semF, b23, Mi.Arg.slot, List.replicate, itStart, dictIt, pk, hcut, fz, zipOp, itsOf, lim, hz, wipeS, ev, backS, freeS, pks, biOp, blsOf_mapB, h2, retOf, outsOf]
end Lw

/-! K44e: the checks of grids, kinds, lines; what is told. -/
namespace Lw
open PySem PySem.Spec PyProof.Rows L2 Mi G

def Btw (Φ : Nat → Fn) (i : Nat) : Prop := ∀ (l : List Int) (lo hi : Int), l.length ≤ 1000 → Φ i [.dat (dI l), .dat (.int lo), .dat (.int hi)] = some (.val (.bl (l.all fun i => decide (lo ≤ i) && decide (i ≤ hi))), [])
theorem s14 (Φ : Nat → Fn) (h13 : Btw Φ 13) {r c : Nat} (r1 : 1 ≤ r) (r2 : r ≤ 12) (c1 : 1 ≤ c) (c2 : c ≤ 12) : semF Φ 1 1 b14 [.dat (gridD r c)] = some (.val .non, []) := by
  have h := h13 [(r : Int), (c : Int)] 1 12 (by simp)
  have hall : ([(r : Int), (c : Int)].all fun i => decide ((1 : Int) ≤ i) && decide (i ≤ 12)) = true := by simp; omega
  rw [hall] at h
  have h : Φ 13 [.dat (gridD r c), .dat (.int 1), .dat (.int 12)] = _ := h
  have hlen : biOp .len [gridD r c] = some (.val (.int 2)) := rfl
  simp [semF, b14, Mi.Arg.slot, List.replicate, evT, toArgs, h, putBack, Ret.p, pks, pk, hlen, cmpOp, cmp_int, outsOf]
theorem kind_in (o : Bool) : inOp (kindD o) (.tup [.str (Str.ofString "own"), .str (Str.ofString "shut")]) = some true := by cases o <;> decide +kernel
theorem s15 (Φ : Nat → Fn) (o : Bool) : semF Φ 1 1 b15 [.dat (kindD o)] = some (.val .non, []) := by
  have hk := kind_in o
  have hs : biOp (.isi "str") [kindD o] = some (.val (.bl true)) := by simp [biOp, kindD, D.isA]
  simp [semF, b15, Mi.Arg.slot, List.replicate, evT, pks, pk, hs, fzs, fz, lim, cmpOp, hk, outsOf]
def Nop1 (Φ : Nat → Fn) (i : Nat) (r c : Nat) (o : Bool) : Prop := Φ i [.dat (gridD r c), .dat (kindD o)] = some (.val .non, [])
theorem s16 (Φ : Nat → Fn) {r c : Nat} (o : Bool) (h14 : Φ 14 [.dat (gridD r c)] = some (.val .non, [])) (h15 : Φ 15 [.dat (kindD o)] = some (.val .non, [])) : semF Φ 2 2 b16 [.dat (gridD r c), .dat (kindD o)] = some (.val .non, []) := by
  simp [semF, b16, Mi.Arg.slot, List.replicate, toArgs, h14, h15, putBack, Ret.p, outsOf]
theorem s24 (Φ : Nat → Fn) (h13 : Btw Φ 13) (h23 : ∀ l : List Int, l.length ≤ 1000 → Φ 23 [.dat (dI l)] = some (.val (.bl (ascB l)), [])) {c : Nat} (hc : c ≤ 100) {l : List Int} (hl : In c l) : semF Φ 2 2 b24 [.dat (.int c), .dat (dI l)] = some (.val (.bl true), []) := by
  have hz : l.length ≤ 1000 := by have := hl.len; omega
  have h1 := h13 l 0 ((c : Int) - 1) hz
  have hall : (l.all fun i => decide ((0 : Int) ≤ i) && decide (i ≤ (c : Int) - 1)) = true := by
    rw [List.all_eq_true]
    intro x hx
    have := hl.rng x hx
    simp
    omega
  rw [hall] at h1
  have h2 := h23 l hz
  rw [ascB_of hl.asc] at h2
  have hsub : binOp .sub (.int c) (.int 1) = some (.val (.int ((c : Int) - 1))) := rfl
  simp [semF, b24, Mi.Arg.slot, List.replicate, pk, hsub, toArgs, h1, h2, putBack, Ret.p, retOf, outsOf]
theorem s25 (Φ : Nat → Fn) {r c : Nat} (h24 : ∀ l : List Int, In c l → Φ 24 [.dat (.int c), .dat (dI l)] = some (.val (.bl true), [])) (hr : r ≤ 100) {sh : List (List Int)} (hs : sh.length = r) (h1 : ∀ l ∈ sh, In c l) : semF Φ 2 3 b25 [.dat (gridD r c), .dat (.tup (sh.map dI))] = some (.val (.bl true), []) := by
  have hg0 : ixOp (gridD r c) (.int 0) = some (.int r) := ixt0
  have hg1 : ixOp (gridD r c) (.int 1) = some (.int c) := ixt1
  have ev : lcGo (lcF Φ [2] (.nm 2) .anil (.call 24 (.acons (.ix (.var 0) (.cst (.int 1))) (.acons (.var 2) .anil)))) (sh.map dI) [.dat (gridD r c), .dat (.tup (sh.map dI)), .un] = some ((sh.map fun _ => true).map D.bl, [.dat (gridD r c), .dat (.tup (sh.map dI)), .un]) := by
    rw [lcGo_map fun _ => .bl true]
    · rw [List.map_map, List.map_map]
      rfl
    · intro d hd
      obtain ⟨l, hl, rfl⟩ := List.mem_map.mp hd
      have := h24 l (h1 l hl)
      simp [lcF, setD, setS, pk, hg1, toArgs, this, putBack, Ret.p, fz, wipeS]
  have hz : sh.length ≤ 4000000 := by omega
  have hall : (sh.map fun _ => true).all id = true := by simp
  generalize hb : (sh.map fun _ => true) = bs at *
  simp [semF, b25, Mi.Arg.slot, List.replicate, pks, pk, biOp, D.isA, hg0, cmpOp, cmp_int, hs, itStart, dictIt, itsOf, D.seq?, lim, hr, Nat.le_trans hr (by decide : 100 ≤ 4000000), wipeS, ev, backS, freeS, blsOf_mapB, hall, retOf, outsOf]
theorem s26 (Φ : Nat → Fn) {r c : Nat} (o : Bool) (sD : D) (h16 : Φ 16 [.dat (gridD r c), .dat (kindD o)] = some (.val .non, [])) (h25 : Φ 25 [.dat (gridD r c), .dat sD] = some (.val (.bl true), [])) : semF Φ 3 3 b26 [.dat (gridD r c), .dat (kindD o), .dat sD] = some (.val .non, []) := by
  simp [semF, b26, Mi.Arg.slot, List.replicate, evT, toArgs, h16, h25, putBack, Ret.p, outsOf]
theorem s28 (Φ : Nat → Fn) {r c : Nat} (o : Bool) (shD stD out : D) (h26 : Φ 26 [.dat (gridD r c), .dat (kindD o), .dat shD] = some (.val .non, [])) (h25 : Φ 25 [.dat (gridD r c), .dat stD] = some (.val (.bl true), [])) (h27 : Φ 27 [.dat (gridD r c), .dat (kindD o), .dat shD, .dat stD] = some (.val out, [])) :
    semF Φ 4 4 b28 [.dat (gridD r c), .dat (kindD o), .dat shD, .dat stD] = some (.val out, []) := by
  simp [semF, b28, Mi.Arg.slot, List.replicate, evT, toArgs, h26, h25, h27, putBack, Ret.p, retOf, outsOf]
theorem s29 (Φ : Nat → Fn) {c : Nat} (lD : D) (h24 : Φ 24 [.dat (.int c), .dat lD] = some (.val (.bl true), [])) : semF Φ 2 2 b29 [.dat (.int c), .dat lD] = some (.val .non, []) := by
  simp [semF, b29, Mi.Arg.slot, List.replicate, evT, toArgs, h24, putBack, Ret.p, outsOf]
theorem s30 (Φ : Nat → Fn) {r c : Nat} (o : Bool) (shD fD out : D) (h26 : Φ 26 [.dat (gridD r c), .dat (kindD o), .dat shD] = some (.val .non, [])) (h29 : Φ 29 [.dat (.int c), .dat fD] = some (.val .non, [])) (h19 : Φ 19 [.dat (gridD r c), .dat (kindD o), .dat shD, .dat fD] = some (.val out, [])) :
    semF Φ 4 4 b30 [.dat (gridD r c), .dat (kindD o), .dat shD, .dat fD] = some (.val out, []) := by
  have hg1 : ixOp (gridD r c) (.int 1) = some (.int c) := ixt1
  simp [semF, b30, Mi.Arg.slot, List.replicate, pk, hg1, toArgs, h26, h29, h19, putBack, Ret.p, retOf, outsOf]
theorem s21 (Φ : Nat → Fn) {r c : Nat} (o : Bool) (hc : c ≤ 100) (dk : D) (out : Nat → D × D) (h20 : Φ 20 [.dat (gridD r c)] = some (.val dk, [])) (h19 : ∀ i : Nat, i < c → Φ 19 [.dat (gridD r c), .dat (kindD o), .dat dk, .dat (dI [(i : Int)])] = some (.val (.tup [(out i).1, (out i).2]), [])) :
    semF Φ 2 3 b21 [.dat (gridD r c), .dat (kindD o)] = some (.new (.lst ((List.range c).map fun i => (out i).2)), []) := by
  have hg1 : ixOp (gridD r c) (.int 1) = some (.int c) := ixt1
  have ev : lcGo (lcF Φ [2] (.nm 2) .anil (.ix (.call 19 (.acons (.var 0) (.acons (.var 1) (.acons (.call 20 (.acons (.var 0) .anil)) (.acons (.tup (.acons (.var 2) .anil)) .anil))))) (.cst (.int 1)))) (rangeD 0 c) [.dat (gridD r c), .dat (kindD o), .un] = some ((List.range c).map fun i => (out i).2, [.dat (gridD r c), .dat (kindD o), .un]) := by
    rw [range_D, lcGo_map fun d => match d with | .int i => (out i.toNat).2 | d => d]
    · rw [List.map_map]
      rfl
    · intro d hd
      obtain ⟨i, hi, rfl⟩ := List.mem_map.mp hd
      have hi := List.mem_range.mp hi
      have this : Φ 19 [.dat (gridD r c), .dat (kindD o), .dat dk, .dat (.tup [.int (i : Int)])] = _ := h19 i hi
      have h1 : ixOp (.tup [(out i).1, (out i).2]) (.int 1) = some (out i).2 := ixt1
      simp [lcF, setD, setS, toArgs, h20, fzs, fz, lim, this, putBack, Ret.p, pk, h1, wipeS]
  have hrg : rngOf [.int c] = some (rangeD 0 c) := by
    simp only [rngOf]
    rw [if_pos (by omega)]
    simp
  have hz : (rangeD 0 c).length ≤ 4000000 := by simp [rangeD]; omega
  simp [semF, b21, Mi.Arg.slot, List.replicate, itStart, dictIt, pks, pk, hg1, hrg, itsOf, lim, hz, wipeS, ev, backS, freeS, retOf, outsOf]
theorem s22 (Φ : Nat → Fn) {r c : Nat} (o : Bool) (ds : List D) (h16 : Φ 16 [.dat (gridD r c), .dat (kindD o)] = some (.val .non, [])) (h21 : Φ 21 [.dat (gridD r c), .dat (kindD o)] = some (.new (.lst ds), [])) : semF Φ 2 2 b22 [.dat (gridD r c), .dat (kindD o)] = some (.val (.tup ds), []) := by
  simp [semF, b22, Mi.Arg.slot, List.replicate, toArgs, h16, h21, putBack, Ret.p, pks, pk, biOp, retOf, outsOf]
end Lw

/-! K44f: what is drawn. -/
namespace Lw
open PySem PySem.Spec PyProof.Rows L2 Mi G

theorem pot_mono {c c' : Nat} {m : MO} (h : Pot c m) (hc : c ≤ c') : Pot c' m := by
  obtain ⟨o, s, n, e, h1, h2, h3, h4, h5⟩ := h
  exact ⟨o, s, n, e, h1, h2, h3, h4, by omega⟩
def Take (Φ : Nat → Fn) (i : Nat) : Prop := ∀ (c : Nat) (m : MO), Pot c m → c < 2 ^ 20 → ∀ u : Int, 0 < u → sm u → ∃ (r : Int) (m' : MO), 0 ≤ r ∧ r < u ∧ Pot (c + 1) m' ∧ Φ i [.own m, .dat (.int u)] = some (.val (.int r), [m'])
theorem sm_le {u : Int} (h0 : 0 ≤ u) (h : u ≤ 1000000) : sm u := by unfold sm; omega
theorem s3 (Φ : Nat → Fn) (h2 : Take Φ 2) {n : Nat} {m : MO} (hm : Pot n m) (hn : n < 2 ^ 20) {ds : List D} (h0 : ds ≠ []) (h1 : ds.length ≤ 1000) : ∃ (i : Nat) (d : D) (m' : MO), ds[i]? = some d ∧ Pot (n + 1) m' ∧ semF Φ 2 2 b3 [.own m, .dat (.lst ds)] = some (.val d, [m']) := by
  have hp : 0 < ds.length := List.length_pos_iff.mpr h0
  obtain ⟨r, m', r0, r1, hm', e⟩ := h2 n m hm hn ds.length (by omega) (sm_le (by omega) (by omega))
  have lt : r.toNat < ds.length := by omega
  refine ⟨r.toNat, ds[r.toNat], m', List.getElem?_eq_getElem lt, hm', ?_⟩
  have hr : ((r.toNat : Nat) : Int) = r := by omega
  have hx := ix_lst (l := ds) r.toNat
  rw [hr, List.getElem?_eq_getElem lt] at hx
  simp [semF, b3, Mi.Arg.slot, List.replicate, pks, pk, biOp, toArgs, e, putBack, Ret.p, hx, retOf, outsOf]
theorem perm_erase : ∀ (l : List D) (i : Nat) (h : i < l.length), (l[i] :: l.eraseIdx i).Perm l
  | x :: l, 0, _ => .refl _
  | x :: l, i + 1, h => by
    have ih := perm_erase l i (by simpa using h)
    exact (List.Perm.swap _ _ _).trans (ih.cons x)
def someB : S := (.seq (.exp (.mth .append (.var 5) (.acons (.mth .popAt (.var 4) (.acons (.call 2 (.acons (.var 0) (.acons (.bi .len (.acons (.var 4) .anil)) .anil))) .anil)) .anil))) .nop)
theorem some_turn (Φ : Nat → Fn) (h2 : Take Φ 2) {n : Nat} {m : MO} (hm : Pot n m) (hn : n < 2 ^ 20) {left found : List D} (s1 s2 : D) (x : D) {s3 : Mi.Slot} (f3 : s3.free = true) (h0 : left ≠ []) (hl : left.length ≤ 1000) (hf : found.length ≤ 1000) :
    ∃ (d : D) (left' : List D) (m' : MO), (d :: left').Perm left ∧ Pot (n + 1) m' ∧ forF Φ (.nm 3) someB x [.own false m, .dat s1, .dat s2, s3, .own true (.lst left), .own true (.lst found)] = some (.nx [.own false m', .dat s1, .dat s2, .dat x, .own true (.lst left'), .own true (.lst (found ++ [d]))]) := by
  have hp : 0 < left.length := List.length_pos_iff.mpr h0
  obtain ⟨r, m', r0, r1, hm', e⟩ := h2 n m hm hn left.length (by omega) (sm_le (by omega) (by omega))
  have lt : r.toNat < left.length := by omega
  refine ⟨left[r.toNat], left.eraseIdx r.toNat, m', ?_, hm', ?_⟩
  · exact perm_erase left _ lt
  · have hr : 0 ≤ r ∧ r ≤ 1099511627776 := by omega
    have hz : found.length < 4000000 := by omega
    simp [forF, someB, setD, setS, f3, lstIn, pks, pk, biOp, toArgs, e, putBack, Ret.p, hr, lt, fz, lim, hz]
theorem some_loop (Φ : Nat → Fn) (h2 : Take Φ 2) (s1 s2 : D) : ∀ (xs : List D) {n : Nat} {m : MO} {left found : List D} {s3 : Mi.Slot}, Pot n m → n + xs.length < 2 ^ 20 → xs.length ≤ left.length → left.length ≤ 1000 → found.length + xs.length ≤ 1000 → s3.free = true →
    ∃ (ds left' : List D) (m' : MO) (s3' : Mi.Slot), (ds ++ left').Perm left ∧ ds.length = xs.length ∧ Pot (n + xs.length) m' ∧ s3'.free = true ∧ forGo (forF Φ (.nm 3) someB) xs [.own false m, .dat s1, .dat s2, s3, .own true (.lst left), .own true (.lst found)] = some (.nx [.own false m', .dat s1, .dat s2, s3', .own true (.lst left'), .own true (.lst (found ++ ds))])
  | [], n, m, left, found, s3, hm, _, _, _, _, f3 => ⟨[], left, m, s3, .refl _, rfl, hm, f3, by simp [forGo]⟩
  | x :: xs, n, m, left, found, s3, hm, hn, hx, hl, hf, f3 => by
    rw [List.length_cons] at hn hx hf
    obtain ⟨d, left1, m1, p1, hm1, e1⟩ := some_turn Φ h2 hm (by omega) s1 s2 x f3 (left := left) (found := found) (fun z => by rw [z] at hx; simp at hx) hl (by omega)
    have l1 := p1.length_eq
    rw [List.length_cons] at l1
    obtain ⟨ds, left', m', s3', p2, q2, hm2, f3', e2⟩ := some_loop Φ h2 s1 s2 xs (left := left1) (s3 := .dat x) hm1 (by omega) (by omega) (by omega) (found := found ++ [d]) (by simp; omega) rfl
    refine ⟨d :: ds, left', m', s3', ?_, by simp [q2], by rw [List.length_cons, show n + (xs.length + 1) = n + 1 + xs.length by omega]; exact hm2, f3', ?_⟩
    · rw [List.cons_append]
      exact (p2.cons d).trans p1
    · unfold forGo
      rw [e1]
      simp only
      rw [e2]
      simp
theorem s8 (Φ : Nat → Fn) (h2 : Take Φ 2) {n : Nat} {m : MO} (hm : Pot n m) {ds : List D} {k : Nat} (hk : k ≤ ds.length) (hl : ds.length ≤ 1000) (hn : n + k < 2 ^ 20) : ∃ (fs rest : List D) (m' : MO), (fs ++ rest).Perm ds ∧ Pot (n + k) m' ∧ semF Φ 3 6 b8 [.own m, .dat (.lst ds), .dat (.int k)] = some (.new (.lst fs), [m']) := by
  have hlen : (rangeD 0 k).length = k := by simp [rangeD]
  obtain ⟨fs, left', m', s3', p, q, hm', f3, e⟩ := some_loop Φ h2 (.lst ds) (.int k) (rangeD 0 k) (s3 := .un) (left := ds) (found := []) hm (by omega) (by omega) hl (by simp; omega) rfl
  rw [hlen] at hm'
  refine ⟨fs, left', m', p, hm', ?_⟩
  have hb : b8 = (.seq (.par [4, 5] (.acons (.bi .list (.acons (.var 1) .anil)) (.acons (.lst .anil) .anil))) (.seq (.for_ (.nm 3) (.rng (.acons (.var 2) .anil)) someB) (.seq (.ret (.var 5)) .nop))) := rfl
  have hrg : rngOf [.int k] = some (rangeD 0 k) := by
    simp only [rngOf]
    rw [if_pos (by omega)]
    simp
  rw [hb]
  simp only [List.nil_append] at e
  simp [semF, Mi.Arg.slot, List.replicate, pks, pk, biOp, fzs, lim, rsPs, rsP, setVs, setS, itStart, dictIt, hrg, itsOf, e, freeS, retOf, outsOf]
theorem perm_ints {l : List Int} {ds : List D} (h : ds.Perm (l.map D.int)) : ∃ ns : List Int, ds = ns.map D.int ∧ ns.Perm l := by
  have hall : ∀ d ∈ ds, ∃ i : Int, d = .int i := fun d hd => by
    obtain ⟨i, _, e⟩ := List.mem_map.mp (h.mem_iff.mp hd)
    exact ⟨i, e.symm⟩
  have : ∃ ns : List Int, ds = ns.map D.int := by
    clear h
    induction ds with
    | nil => exact ⟨[], rfl⟩
    | cons d ds ih =>
      obtain ⟨i, rfl⟩ := hall d List.mem_cons_self
      obtain ⟨ns, rfl⟩ := ih fun x hx => hall x (List.mem_cons_of_mem _ hx)
      exact ⟨i :: ns, rfl⟩
  obtain ⟨ns, rfl⟩ := this
  refine ⟨ns, rfl, ?_⟩
  have := h.map (fun d => match d with | .int i => i | _ => 0)
  rw [List.map_map, List.map_map] at this
  have e : ∀ l : List Int, l.map ((fun d => match d with | D.int i => i | _ => 0) ∘ D.int) = l := fun l => by
    induction l with
    | nil => rfl
    | cons x l ih => rw [List.map_cons, ih]; rfl
  rw [e, e] at this
  exact this
theorem s9 (Φ : Nat → Fn) (h2 : Take Φ 2) (h8 : ∀ (n : Nat) (m : MO) (ds : List D) (k : Nat), Pot n m → k ≤ ds.length → ds.length ≤ 1000 → n + k < 2 ^ 20 → ∃ (fs rest : List D) (m' : MO), (fs ++ rest).Perm ds ∧ Pot (n + k) m' ∧ Φ 8 [.own m, .dat (.lst ds), .dat (.int k)] = some (.new (.lst fs), [m']))
    {n c : Nat} {m : MO} (hm : Pot n m) (hc : c ≤ 100) (hn : n + 200 < 2 ^ 20) : ∃ (l : List Int) (m' : MO), In c l ∧ Pot (n + 101) m' ∧ semF Φ 2 2 b9 [.own m, .dat (.int c)] = some (.val (dI l), [m']) := by
  obtain ⟨r, m1, r0, r1, hm1, e1⟩ := h2 n m hm (by omega) ((c : Int) + 1) (by omega) (sm_le (by omega) (by omega))
  have hlen : (rangeD 0 c).length = c := by simp [rangeD]
  have hr : r = ((r.toNat : Nat) : Int) := by omega
  obtain ⟨fs, rest, m2, p, hm2, e2⟩ := h8 (n + 1) m1 (rangeD 0 c) r.toNat hm1 (by omega) (by omega) (by omega)
  rw [← hr] at e2
  rw [range_D] at p
  have p' : (fs ++ rest).Perm (((List.range c).map fun i => ((i : Nat) : Int)).map D.int) := by rw [List.map_map]; exact p
  obtain ⟨ns, hns, pn⟩ := perm_ints p'
  obtain ⟨fsI, restI, rfl, rfl, rfl⟩ : ∃ a b : List Int, fs = a.map D.int ∧ rest = b.map D.int ∧ a ++ b = ns := by
    obtain ⟨a, b, h1, h2, h3⟩ := List.append_eq_map_iff.mp hns
    exact ⟨a, b, h2.symm, h3.symm, h1.symm⟩
  have nd : (fsI ++ restI).Nodup := pn.nodup_iff.mpr (by
    refine List.Pairwise.map _ (fun a b h => ?_) (List.nodup_range (n := c))
    omega)
  have ndf : fsI.Nodup := (List.nodup_append.mp nd).1
  refine ⟨sortI fsI, m2, ⟨asc_sortI ndf, fun x hx => ?_⟩, pot_mono hm2 (by omega), ?_⟩
  · have h1 := (sortI_perm fsI).mem_iff.mp hx
    have h2 := pn.mem_iff.mp (List.mem_append_left _ h1)
    obtain ⟨i, hi, rfl⟩ := List.mem_map.mp h2
    have := List.mem_range.mp hi
    omega
  · have hrg : rngOf [.int c] = some (rangeD 0 c) := by
      simp only [rngOf]
      rw [if_pos (by omega)]
      simp
    have hz : (rangeD 0 c).length ≤ 4000000 := by omega
    simp [semF, b9, Mi.Arg.slot, List.replicate, pks, pk, hrg, lim, hz, add_ev, toArgs, e1, putBack, Ret.p, e2, biOp, intsOf_mapI, retOf, outsOf]
def Line9 (Φ : Nat → Fn) (i : Nat) : Prop := ∀ (n c : Nat) (m : MO), Pot n m → c ≤ 100 → n + 200 < 2 ^ 20 → ∃ (l : List Int) (m' : MO), In c l ∧ Pot (n + 101) m' ∧ Φ i [.own m, .dat (.int c)] = some (.val (dI l), [m'])
theorem shades_loop (Φ : Nat → Fn) (h9 : Line9 Φ 9) {r c : Nat} (hc : c ≤ 100) : ∀ (xs : List D) {n : Nat} {m : MO}, Pot n m → n + 101 * xs.length + 200 < 2 ^ 20 → ∃ (ls : List (List Int)) (m' : MO), ls.length = xs.length ∧ (∀ l ∈ ls, In c l) ∧ Pot (n + 101 * xs.length) m' ∧
    lcGo (lcF Φ [2] (.nm 2) .anil (.call 9 (.acons (.var 0) (.acons (.ix (.var 1) (.cst (.int 1))) .anil)))) xs [.own false m, .dat (gridD r c), .un] = some (ls.map dI, [.own false m', .dat (gridD r c), .un])
  | [], n, m, hm, _ => ⟨[], m, rfl, fun l h => (by cases h), hm, rfl⟩
  | x :: xs, n, m, hm, hn => by
    rw [List.length_cons] at hn
    obtain ⟨l, m1, hl, hm1, e⟩ := h9 n c m hm hc (by omega)
    obtain ⟨ls, m', q1, q2, q3, q4⟩ := shades_loop Φ h9 (r := r) hc xs hm1 (by omega)
    refine ⟨l :: ls, m', by simp [q1], fun y hy => ?_, by rw [List.length_cons, show n + 101 * (xs.length + 1) = n + 101 + 101 * xs.length by omega]; exact q3, ?_⟩
    · rcases List.mem_cons.mp hy with rfl | hy
      · exact hl
      · exact q2 y hy
    · have hg1 : ixOp (gridD r c) (.int 1) = some (.int c) := ixt1
      have e1 : lcF Φ [2] (.nm 2) .anil (.call 9 (.acons (.var 0) (.acons (.ix (.var 1) (.cst (.int 1))) .anil))) x [.own false m, .dat (gridD r c), .un] = some (some (dI l), [.own false m1, .dat (gridD r c), .un]) := by
        simp [lcF, setD, setS, pk, hg1, toArgs, e, putBack, Ret.p, fz, wipeS]
      unfold lcGo
      rw [e1]
      simp only
      rw [q4]
      rfl
theorem s10 (Φ : Nat → Fn) (h9 : Line9 Φ 9) {n r c : Nat} {m : MO} (hm : Pot n m) (hr : r ≤ 100) (hc : c ≤ 100) (hn : n + 101 * r + 200 < 2 ^ 20) : ∃ (ls : List (List Int)) (m' : MO), ls.length = r ∧ (∀ l ∈ ls, In c l) ∧ Pot (n + 101 * r) m' ∧ semF Φ 2 3 b10 [.own m, .dat (gridD r c)] = some (.val (.tup (ls.map dI)), [m']) := by
  have hlen : (rangeD 0 r).length = r := by simp [rangeD]
  obtain ⟨ls, m', q1, q2, q3, q4⟩ := shades_loop Φ h9 (r := r) hc (rangeD 0 r) hm (by omega)
  rw [hlen] at q1 q3
  refine ⟨ls, m', q1, q2, q3, ?_⟩
  have hg0 : ixOp (gridD r c) (.int 0) = some (.int r) := ixt0
  have hrg : rngOf [.int r] = some (rangeD 0 r) := by
    simp only [rngOf]
    rw [if_pos (by omega)]
    simp
  have hz : (rangeD 0 r).length ≤ 4000000 := by omega
  simp [semF, b10, Mi.Arg.slot, List.replicate, itStart, dictIt, pks, pk, hg0, hrg, itsOf, lim, hz, wipeS, q4, backS, freeS, biOp, retOf, outsOf]
theorem s0 (Φ : Nat → Fn) (ns : List Int) (k : Nat) (hk : k ≤ 100) : ∃ j : Nat, j ≤ 100 ∧ semF Φ 2 2 b0 [.dat (.scr ns), .dat (.int k)] = some (.new (.lst (rangeD 0 j)), []) := by
  have e1 : biOp .min2 [.int k, .int (ns.length : Nat)] = some (.val (.int (min k ns.length : Nat))) := by
    simp only [biOp]
    congr 3
    split <;> omega
  have e2 : biOp .max2 [.int 1, .int (min k ns.length : Nat)] = some (.val (.int (max 1 (min k ns.length) : Nat))) := by
    simp only [biOp]
    congr 3
    split <;> omega
  have e0 : biOp .len [.scr ns] = some (.val (.int (ns.length : Nat))) := rfl
  obtain ⟨j, hj⟩ : ∃ j, j = max 1 (min k ns.length) := ⟨_, rfl⟩
  rw [← hj] at e2
  have hj2 : j ≤ 101 := by omega
  refine ⟨j, by omega, ?_⟩
  have hrg : rngOf [.int j] = some (rangeD 0 j) := by
    simp only [rngOf]
    rw [if_pos (by omega)]
    simp
  have hz : (rangeD 0 j).length ≤ 4000000 := by simp [rangeD]; omega
  generalize min k ns.length = q at *
  simp only [semF, b0]
  simp [Mi.Arg.slot, List.replicate, pks, pk, e0, e1, e2, hrg, lim, hz, retOf, outsOf]
end Lw

/-! K44m: the mathematics of the chases. Plain Lean. -/
namespace Lw
open PySem PySem.Spec PyProof.Rows L2 Mi G

/-- what a side gives, by oddness -/
def SS (c : Nat) (o : Bool) (f : Int → Bool) (x : Int) : Bool := ((decide (0 ≤ x) && decide (x < c)) && (f (x + 1) ^^ f (x - 1))) ^^ (o && f x)
theorem par_nb (c : Nat) (y x : Int) : par (nbC c y) x = ((decide (0 ≤ x) && decide (x < c)) && (decide (y = x + 1) ^^ decide (y = x - 1))) := by
  have hf : ∀ (l : List Int) (p : Int → Bool), par (l.filter p) x = (p x && par l x) := fun l p => by
    induction l with
    | nil => simp [par]
    | cons a l ih =>
      rw [List.filter_cons, par_cons]
      by_cases hp : p a = true
      · rw [if_pos hp, par_cons, ih]
        by_cases e : a = x
        · subst e; simp [hp]
        · simp [e]
      · rw [if_neg hp, ih]
        by_cases e : a = x
        · subst e; simp [hp]
        · simp [e]
  unfold nbC
  rw [hf, par_cons, par_cons, par_nil]
  have e1 : decide (y + -1 = x) = decide (y = x + 1) := decide_eq_decide.mpr (by omega)
  have e2 : decide (y + 1 = x) = decide (y = x - 1) := decide_eq_decide.mpr (by omega)
  have e1' : decide (x = y + -1) = decide (y = x + 1) := decide_eq_decide.mpr (by omega)
  rw [e1, e2, Bool.xor_false]
theorem par_side (c : Nat) (o : Bool) (l : List Int) (x : Int) : par (sideL c o l) x = SS c o (par l) x := by
  have hn : ∀ l : List Int, par ((l.map (nbC c)).flatten) x = ((decide (0 ≤ x) && decide (x < c)) && (par l (x + 1) ^^ par l (x - 1))) := fun l => by
    induction l with
    | nil => simp [par]
    | cons a l ih =>
      rw [List.map_cons, List.flatten_cons, par_app, ih, par_nb, par_cons, par_cons]
      cases decide (0 ≤ x) <;> cases decide (x < (c : Int)) <;> cases decide (a = x + 1) <;> cases decide (a = x - 1) <;> cases par l (x + 1) <;> cases par l (x - 1) <;> rfl
  unfold sideL SS
  rw [par_oddS, par_app, hn]
  cases o
  · simp [par_nil]
  · simp
theorem par_nxt (c : Nat) (o : Bool) (sh b l : List Int) (x : Int) : par (nxt c o sh b l) x = (par sh x ^^ (SS c o (par l) x ^^ par b x)) := by
  unfold nxt
  rw [par_oddS, par_app, par_app, par_side]
theorem SS_add (c : Nat) (o : Bool) (f g : Int → Bool) (x : Int) : SS c o (fun y => f y ^^ g y) x = (SS c o f x ^^ SS c o g x) := by
  unfold SS
  dsimp only
  cases decide (0 ≤ x) <;> cases decide (x < (c : Int)) <;> cases o <;> cases f (x + 1) <;> cases f (x - 1) <;> cases g (x + 1) <;> cases g (x - 1) <;> cases f x <;> cases g x <;> rfl
theorem SS_zero (c : Nat) (o : Bool) (x : Int) : SS c o (fun _ => false) x = false := by
  unfold SS; simp
/-- row by row: what was, what is -/
def pp (c : Nat) (o : Bool) (sh : List (List Int)) (b l : List Int) : Nat → List Int × List Int
  | 0 => (b, l)
  | i + 1 => ((pp c o sh b l i).2, nxt c o (line sh i) (pp c o sh b l i).1 (pp c o sh b l i).2)
theorem pp_cons (c : Nat) (o : Bool) (s : List Int) (sh : List (List Int)) (b l : List Int) : ∀ i, pp c o (s :: sh) b l (i + 1) = pp c o sh l (nxt c o s b l) i
  | 0 => rfl
  | i + 1 => by
    have ih := pp_cons c o s sh b l i
    show ((pp c o (s :: sh) b l (i + 1)).2, nxt c o (line (s :: sh) (i + 1)) (pp c o (s :: sh) b l (i + 1)).1 (pp c o (s :: sh) b l (i + 1)).2) = _
    rw [ih]
    rfl
theorem chS_pp (c : Nat) (o : Bool) : ∀ (sh : List (List Int)) (b l : List Int), (chS c o sh b l).1 = (List.range sh.length).map (fun i => (pp c o sh b l i).2) ∧ (chS c o sh b l).2 = (pp c o sh b l sh.length).2
  | [], b, l => ⟨rfl, rfl⟩
  | s :: sh, b, l => by
    obtain ⟨h1, h2⟩ := chS_pp c o sh l (nxt c o s b l)
    unfold chS
    constructor
    · show l :: _ = _
      rw [h1, List.length_cons, List.range_succ_eq_map, List.map_cons, List.map_map]
      congr 1
      refine List.map_congr_left fun i _ => ?_
      simp only [Function.comp]
      rw [show i.succ = i + 1 from rfl, pp_cons]
    · show _ = _
      rw [h2, List.length_cons, pp_cons]
/-- the sum over single starts -/
theorem lin (c : Nat) (o : Bool) (sh dk : List (List Int)) (hd : ∀ i, line dk i = []) (first : List Int) : ∀ (i : Nat),
    (∀ x, par (pp c o sh [] first i).2 x = (par (pp c o sh [] [] i).2 x ^^ par (first.map fun a => (pp c o dk [] [a] i).2).flatten x)) ∧
    ∀ x, par (pp c o sh [] first i).1 x = (par (pp c o sh [] [] i).1 x ^^ par (first.map fun a => (pp c o dk [] [a] i).1).flatten x)
  | 0 => by
    refine ⟨fun x => ?_, fun x => ?_⟩
    · show par first x = (par [] x ^^ par (first.map fun a => [a]).flatten x)
      rw [par_nil, Bool.false_xor]
      congr 1
      induction first with
      | nil => rfl
      | cons a l ih => simpa using ih
    · show par [] x = (par [] x ^^ par (first.map fun _ => []).flatten x)
      rw [par_nil, Bool.false_xor]
      induction first with
      | nil => rfl
      | cons a l ih => simpa using ih
  | i + 1 => by
    obtain ⟨h1, h2⟩ := lin c o sh dk hd first i
    refine ⟨fun x => ?_, h1⟩
    have key : ∀ l : List Int, par (l.map fun a => (pp c o dk [] [a] (i + 1)).2).flatten x = (SS c o (par (l.map fun a => (pp c o dk [] [a] i).2).flatten) x ^^ par (l.map fun a => (pp c o dk [] [a] i).1).flatten x) := fun l => by
      induction l with
      | nil =>
        have : SS c o (par ([] : List Int)) x = false := SS_zero c o x
        simpa [par_nil] using this
      | cons a l ih =>
        rw [List.map_cons, List.flatten_cons, par_app, ih, List.map_cons, List.flatten_cons, List.map_cons, List.flatten_cons, par_app]
        have e : par (pp c o dk [] [a] (i + 1)).2 x = (SS c o (par (pp c o dk [] [a] i).2) x ^^ par (pp c o dk [] [a] i).1 x) := by
          show par (nxt c o (line dk i) (pp c o dk [] [a] i).1 (pp c o dk [] [a] i).2) x = _
          rw [par_nxt, hd, par_nil, Bool.false_xor]
        have e2 : SS c o (par ((pp c o dk [] [a] i).2 ++ (l.map fun a => (pp c o dk [] [a] i).2).flatten)) x = (SS c o (par (pp c o dk [] [a] i).2) x ^^ SS c o (par (l.map fun a => (pp c o dk [] [a] i).2).flatten) x) := by
          rw [← SS_add]
          congr 1
          funext y
          rw [par_app]
        rw [e, e2]
        generalize SS c o (par (pp c o dk [] [a] i).2) x = u1
        generalize SS c o (par (l.map fun a => (pp c o dk [] [a] i).2).flatten) x = u2
        generalize par (pp c o dk [] [a] i).1 x = u3
        generalize par (l.map fun a => (pp c o dk [] [a] i).1).flatten x = u4
        cases u1 <;> cases u2 <;> cases u3 <;> cases u4 <;> rfl
    rw [key]
    show par (nxt c o (line sh i) (pp c o sh [] first i).1 (pp c o sh [] first i).2) x = (par (nxt c o (line sh i) (pp c o sh [] [] i).1 (pp c o sh [] [] i).2) x ^^ _)
    rw [par_nxt, par_nxt, h2]
    have e3 : SS c o (par (pp c o sh [] first i).2) x = (SS c o (par (pp c o sh [] [] i).2) x ^^ SS c o (par (first.map fun a => (pp c o dk [] [a] i).2).flatten) x) := by
      rw [← SS_add]
      congr 1
      funext y
      exact h1 y
    rw [e3]
    generalize par (line sh i) x = u0
    generalize SS c o (par (pp c o sh [] [] i).2) x = u1
    generalize SS c o (par (first.map fun a => (pp c o dk [] [a] i).2).flatten) x = u2
    generalize par (pp c o sh [] [] i).1 x = u3
    generalize par (first.map fun a => (pp c o dk [] [a] i).1).flatten x = u4
    cases u0 <;> cases u1 <;> cases u2 <;> cases u3 <;> cases u4 <;> rfl
end Lw

/-! K44n: the law's chase and the program's; twice behind. -/
namespace Lw
open PySem PySem.Spec PyProof.Rows L2 Mi G

/-- the program's lines -/
def ln (c : Nat) (o : Bool) (sh : List (List Int)) (first : List Int) (i : Nat) : List Int := (pp c o sh [] first i).2
theorem line_at {st : List (List Int)} {i : Nat} {l : List Int} (h : st[i]? = some l) : line st i = l := by
  unfold line
  rw [List.getD_eq_getElem?_getD, h]
  rfl
theorem line_out {st : List (List Int)} {i : Nat} (h : st.length ≤ i) : line st i = [] := by
  unfold line
  rw [List.getD_eq_getElem?_getD, List.getElem?_eq_none h]
  rfl
theorem pp_before (c : Nat) (o : Bool) (sh : List (List Int)) (first : List Int) (i : Nat) : (pp c o sh [] first i).1 = if 1 ≤ i then ln c o sh first (i - 1) else [] := by
  cases i with
  | zero => rfl
  | succ i => rfl
theorem nxt_row {r c : Nat} {o : Bool} {sh st : List (List Int)} {first : List Int} {i : Nat} (h0 : line st i = ln c o sh first i) (h1 : 1 ≤ i → line st (i - 1) = ln c o sh first (i - 1)) (h2 : i + 1 < r → line st (i + 1) = []) : rowL r c o sh st i = ln c o sh first (i + 1) := by
  have e : ln c o sh first (i + 1) = nxt c o (line sh i) (pp c o sh [] first i).1 (ln c o sh first i) := rfl
  rw [e, pp_before]
  unfold rowL nxt
  refine oddS_congr fun x => ?_
  rw [par_app, par_app, par_app, par_app, par_app, h0]
  have e3 : par (if i + 1 < r then line st (i + 1) else []) x = false := by
    by_cases h : i + 1 < r
    · rw [if_pos h, h2 h]; rfl
    · rw [if_neg h]; rfl
  have e4 : (if 1 ≤ i then line st (i - 1) else []) = if 1 ≤ i then ln c o sh first (i - 1) else [] := by
    by_cases h : 1 ≤ i
    · rw [if_pos h, if_pos h, h1 h]
    · rw [if_neg h, if_neg h]
  rw [e3, e4, Bool.xor_false]
theorem beh_line {r c : Nat} {o : Bool} {sh st : List (List Int)} {i : Nat} (h : i < r) : line (behindL r c o sh st) i = rowL r c o sh st i := by
  refine line_at ?_
  unfold behindL
  rw [List.getElem?_map, List.getElem?_range h]
  rfl
/-- the strokes so far -/
theorem lawCh_lines {r c : Nat} {o : Bool} {sh : List (List Int)} {first : List Int} : ∀ i, i ≤ r → (lawCh r c o sh first i).1.length = r ∧ (∀ j, j < i → line (lawCh r c o sh first i).1 j = ln c o sh first j) ∧ (∀ j, i ≤ j → line (lawCh r c o sh first i).1 j = []) ∧ (1 ≤ i → line (lawCh r c o sh first i).2 (i - 1) = ln c o sh first i)
  | 0, _ => ⟨by simp [lawCh], fun j h => absurd h (by omega), fun j _ => by
      rcases Nat.lt_or_ge j r with h | h
      · exact line_at (by show (List.replicate r ([] : List Int))[j]? = _; rw [List.getElem?_replicate]; simp [h])
      · exact line_out (by simp [lawCh]; exact h), fun h => absurd h (by omega)⟩
  | i + 1, hi => by
    obtain ⟨a, b, d, e⟩ := lawCh_lines (r := r) (c := c) (o := o) (sh := sh) (first := first) i (by omega)
    have st : (lawCh r c o sh first (i + 1)).1 = (lawCh r c o sh first i).1.set i (if i = 0 then first else line (lawCh r c o sh first i).2 (i - 1)) := rfl
    have new : (if i = 0 then first else line (lawCh r c o sh first i).2 (i - 1)) = ln c o sh first i := by
      by_cases h : i = 0
      · subst h; rfl
      · rw [if_neg h]; exact e (by omega)
    rw [new] at st
    have l1 : (lawCh r c o sh first (i + 1)).1.length = r := by rw [st, List.length_set, a]
    have q1 : ∀ j, j < i + 1 → line (lawCh r c o sh first (i + 1)).1 j = ln c o sh first j := fun j hj => by
      by_cases h : j = i
      · subst h
        exact line_at (by rw [st]; exact set_self (by omega))
      · have := b j (by omega)
        rw [← this]
        unfold line
        rw [st, List.getD_eq_getElem?_getD, List.getD_eq_getElem?_getD, List.getElem?_set_ne (fun z => h z.symm)]
    have q2 : ∀ j, i + 1 ≤ j → line (lawCh r c o sh first (i + 1)).1 j = [] := fun j hj => by
      have := d j (by omega)
      rw [← this]
      unfold line
      rw [st, List.getD_eq_getElem?_getD, List.getD_eq_getElem?_getD, List.getElem?_set_ne (by omega)]
    refine ⟨l1, q1, q2, fun _ => ?_⟩
    have e2 : (lawCh r c o sh first (i + 1)).2 = behindL r c o sh (lawCh r c o sh first (i + 1)).1 := rfl
    rw [e2, Nat.add_sub_cancel, beh_line (by omega)]
    exact nxt_row (q1 i (by omega)) (fun h => q1 (i - 1) (by omega)) fun h => q2 (i + 1) (Nat.le_refl _)
theorem ext_lines {a b : List (List Int)} {r : Nat} (ha : a.length = r) (hb : b.length = r) (h : ∀ j, j < r → line a j = line b j) : a = b := by
  apply List.ext_getElem (by omega)
  intro i h1 h2
  have := h i (by omega)
  rw [line_at (List.getElem?_eq_getElem h1), line_at (List.getElem?_eq_getElem h2)] at this
  exact this
/-- the strokes are the program's -/
theorem due_eq {r c : Nat} {o : Bool} {sh : List (List Int)} {first : List Int} (hs : sh.length = r) : (lawCh r c o sh first r).1 = (chS c o sh [] first).1 := by
  obtain ⟨a, b, _, _⟩ := lawCh_lines (r := r) (c := c) (o := o) (sh := sh) (first := first) r (Nat.le_refl _)
  rw [(chS_pp c o sh [] first).1, hs]
  refine ext_lines a (by simp) fun j hj => ?_
  rw [b j hj]
  refine (line_at ?_).symm
  rw [List.getElem?_map, List.getElem?_range hj]
  rfl
/-- what is lit behind them -/
theorem now_eq {r c : Nat} {o : Bool} {sh : List (List Int)} {first : List Int} (hr : 1 ≤ r) (hs : sh.length = r) : (lawCh r c o sh first r).2.length = r ∧ (∀ j, j + 1 < r → line (lawCh r c o sh first r).2 j = []) ∧ line (lawCh r c o sh first r).2 (r - 1) = (chS c o sh [] first).2 ∧ (lawCh r c o sh first r).2 = behindL r c o sh (lawCh r c o sh first r).1 := by
  obtain ⟨a, b, _, e⟩ := lawCh_lines (r := r) (c := c) (o := o) (sh := sh) (first := first) r (Nat.le_refl _)
  have e2 : (lawCh r c o sh first r).2 = behindL r c o sh (lawCh r c o sh first r).1 := by
    cases r with
    | zero => omega
    | succ r => rfl
  refine ⟨by rw [e2]; simp [behindL], fun j hj => ?_, ?_, e2⟩
  · rw [e2, beh_line (by omega)]
    refine oddS_of .nil fun x => ?_
    rw [par_nil, par_app, par_app, par_app, par_side, if_pos hj, b j (by omega), b (j + 1) hj]
    have e1 : ln c o sh first (j + 1) = nxt c o (line sh j) (pp c o sh [] first j).1 (ln c o sh first j) := rfl
    have e4 : (if 1 ≤ j then line (lawCh r c o sh first r).1 (j - 1) else []) = (pp c o sh [] first j).1 := by
      rw [pp_before]
      by_cases h : 1 ≤ j
      · rw [if_pos h, if_pos h, b (j - 1) (by omega)]
      · rw [if_neg h, if_neg h]
    rw [e1, par_nxt, e4]
    generalize par (line sh j) x = u1
    generalize SS c o (par (ln c o sh first j)) x = u2
    generalize par (pp c o sh [] first j).1 x = u3
    cases u1 <;> cases u2 <;> cases u3 <;> rfl
  · rw [e hr, (chS_pp c o sh [] first).2, hs]
    rfl
/-- twice behind the same strokes -/
theorem twice {r c : Nat} {o : Bool} {sh st : List (List Int)} (hs : sh.length = r) (h1 : ∀ l ∈ sh, In c l) : behindL r c o (behindL r c o sh st) st = sh := by
  refine ext_lines (by simp [behindL]) hs fun j hj => ?_
  rw [beh_line hj]
  refine oddS_of (in_line h1 j).asc fun x => ?_
  rw [beh_line hj, par_app]
  unfold rowL
  rw [par_oddS, par_app]
  generalize par (sideL c o (line st j) ++ ((if 1 ≤ j then line st (j - 1) else []) ++ if j + 1 < r then line st (j + 1) else [])) x = u
  cases par (line sh j) x <;> cases u <;> rfl
/-- by single starts -/
theorem sum_eq {r c : Nat} {o : Bool} {sh : List (List Int)} {first : List Int} (hs : sh.length = r) (hin : ∀ l ∈ sh, In c l) (hf : In c first) : oddS ((chS c o sh [] []).2 ++ (first.map fun a => (chS c o (List.replicate r []) [] [a]).2).flatten) = (chS c o sh [] first).2 := by
  have hd : ∀ i, line (List.replicate r ([] : List Int)) i = [] := fun i => by
    rcases Nat.lt_or_ge i r with h | h
    · exact line_at (by rw [List.getElem?_replicate]; simp [h])
    · exact line_out (by simp; exact h)
  have asc : ∀ {sh : List (List Int)} {b l : List Int}, (∀ q ∈ sh, In c q) → In c b → In c l → In c (chS c o sh b l).2 := by
    intro sh
    induction sh with
    | nil => intro b l _ _ hl; exact hl
    | cons s sh ih =>
      intro b l h hb hl
      exact ih (fun q hq => h q (List.mem_cons_of_mem _ hq)) hl (in_nxt (h s List.mem_cons_self) hb hl)
  refine oddS_of (asc hin (In.nil c) hf).asc fun x => ?_
  have h := (lin c o sh (List.replicate r []) hd first r).1 x
  rw [(chS_pp c o sh [] first).2, hs, h, par_app, (chS_pp c o sh [] []).2, hs]
  congr 2
  congr 1
  refine List.map_congr_left fun a _ => ?_
  rw [(chS_pp c o (List.replicate r []) [] [a]).2, List.length_replicate]
end Lw

/-! K44o: what may be shown. -/
namespace Lw
open PySem PySem.Spec PyProof.Rows L2 Mi G

mutual
def fi : D → Bool
  | .int i => decide (0 ≤ i) && decide (i < 12)
  | .tup ds => fiA ds
  | _ => false
def fiA : List D → Bool
  | [] => true
  | d :: ds => fi d && fiA ds
end
theorem int_fi {i : Int} (h : 0 ≤ i ∧ i < 12) : (PyData.int i).intsShort 13 = true ∧ (PyData.int i).showable = true ∧ (PyData.int i).weight ≤ 4 := by
  have : i = 0 ∨ i = 1 ∨ i = 2 ∨ i = 3 ∨ i = 4 ∨ i = 5 ∨ i = 6 ∨ i = 7 ∨ i = 8 ∨ i = 9 ∨ i = 10 ∨ i = 11 := by omega
  rcases this with rfl | rfl | rfl | rfl | rfl | rfl | rfl | rfl | rfl | rfl | rfl | rfl <;> decide +kernel
mutual
theorem fi_ok : ∀ d : D, fi d = true → d.py.canLay0 = true ∧ d.py.intsShort 13 = true ∧ d.py.showable = true ∧ d.py.hasDict = false
  | .int i, h => by
    have h' : 0 ≤ i ∧ i < 12 := by simpa [fi] using h
    exact ⟨rfl, (int_fi h').1, (int_fi h').2.1, rfl⟩
  | .tup ds, h => by
    obtain ⟨a, b, c, d⟩ := fiA_ok ds (by simpa [fi] using h)
    simp only [D.py]
    exact ⟨by simpa [PyData.canLay0] using a, by simpa [PyData.intsShort] using b, by simpa [PyData.showable] using c, by simpa [PyData.hasDict] using d⟩
  | .non, h => by simp [fi] at h
  | .bl _, h => by simp [fi] at h
  | .str _, h => by simp [fi] at h
  | .lst _, h => by simp [fi] at h
  | .scr _, h => by simp [fi] at h
theorem fiA_ok : ∀ ds : List D, fiA ds = true → PyData.canLayAll0 (D.pyA ds) = true ∧ PyData.intsShortAll 13 (D.pyA ds) = true ∧ PyData.showableAll (D.pyA ds) = true ∧ PyData.hasDictAll (D.pyA ds) = false
  | [], _ => ⟨rfl, rfl, rfl, rfl⟩
  | d :: ds, h => by
    have h' : fi d = true ∧ fiA ds = true := by simpa [fiA] using h
    obtain ⟨a, b, c, e⟩ := fi_ok d h'.1
    obtain ⟨a', b', c', e'⟩ := fiA_ok ds h'.2
    simp only [D.pyA]
    exact ⟨by simp [PyData.canLayAll0, a, a'], by simp [PyData.intsShortAll, b, b'], by simp [PyData.showableAll, c, c'], by simp [PyData.hasDictAll, e, e']⟩
end
theorem show_ok {ds : List D} (h : fi (.tup ds) = true) (hd : (D.tup ds).py.depth ≤ 64) (hw : (D.tup ds).py.weight ≤ 2 ^ 20) : (D.tup ds).okRepr = true := by
  obtain ⟨a, b, c, e⟩ := fi_ok _ h
  have hl : PyData.layable0 (D.tup ds).py = true := by
    unfold PyData.layable0
    rw [a]
    simp [hd, hw]
  have hs := shown_le13 hl b
  have hz : (15728653 : Nat) ≤ sizeLine := by decide
  unfold D.okRepr
  rw [c, e, decide_eq_true (Nat.le_trans hs hz), decide_eq_true hd]
  rfl
theorem strOk_app (x y : Str) : PyData.strOk (x ++ y) = (PyData.strOk x && PyData.strOk y) := by
  show (x.cps ++ y.cps).all _ = _
  rw [Array.all_append]
  rfl
theorem strOk_join (sep : Str) (hs : PyData.strOk sep = true) : ∀ ts : List Str, (∀ t ∈ ts, PyData.strOk t = true) → PyData.strOk (Str.join sep ts) = true
  | [], _ => by
    show PyData.strOk ⟨#[]⟩ = true
    decide +kernel
  | [t], h => h t List.mem_cons_self
  | t :: u :: r, h => by
    have ih := strOk_join sep hs (u :: r) fun x hx => h x (List.mem_cons_of_mem _ hx)
    show PyData.strOk (t ++ sep ++ Str.join sep (u :: r)) = true
    rw [strOk_app, strOk_app, h t List.mem_cons_self, hs, ih]
    rfl
theorem strOk_tup (ts : List Str) (h : ∀ t ∈ ts, PyData.strOk t = true) : PyData.strOk (tupleText ts) = true := by
  unfold tupleText
  rw [strOk_app, strOk_app, strOk_join _ (by decide +kernel) ts h]
  have h1 : PyData.strOk (Str.ofString "(") = true := by decide +kernel
  rw [h1]
  split
  · decide +kernel
  · decide +kernel
theorem int_str {i : Int} (h : 0 ≤ i ∧ i < 12) : PyData.strOk (PyData.int i).shown = true := by
  have : i = 0 ∨ i = 1 ∨ i = 2 ∨ i = 3 ∨ i = 4 ∨ i = 5 ∨ i = 6 ∨ i = 7 ∨ i = 8 ∨ i = 9 ∨ i = 10 ∨ i = 11 := by omega
  rcases this with rfl | rfl | rfl | rfl | rfl | rfl | rfl | rfl | rfl | rfl | rfl | rfl <;> decide +kernel
mutual
theorem fi_str : ∀ d : D, fi d = true → PyData.strOk d.py.shown = true
  | .int i, h => int_str (by simpa [fi] using h)
  | .tup ds, h => by
    simp only [D.py, PyData.shown]
    exact strOk_tup _ (fiA_str ds (by simpa [fi] using h))
  | .non, h => by simp [fi] at h
  | .bl _, h => by simp [fi] at h
  | .str _, h => by simp [fi] at h
  | .lst _, h => by simp [fi] at h
  | .scr _, h => by simp [fi] at h
theorem fiA_str : ∀ ds : List D, fiA ds = true → ∀ t ∈ PyData.shownAll (D.pyA ds), PyData.strOk t = true
  | [], _, t, ht => by simp [D.pyA, PyData.shownAll] at ht
  | d :: ds, h, t, ht => by
    have h' : fi d = true ∧ fiA ds = true := by simpa [fiA] using h
    simp only [D.pyA, PyData.shownAll, List.mem_cons] at ht
    rcases ht with rfl | ht
    · exact fi_str d h'.1
    · exact fiA_str ds h'.2 t ht
end
/-- the same is shown the same -/
theorem cmp_shown {d : D} (h : fi d = true) : eqOp (.str d.py.shown) (.str d.py.shown) = some true := by
  unfold eqOp
  have h1 := fi_str d h
  rw [if_pos (by simp only [D.ok]; rw [h1]; rfl)]
  simp [D.py, PyData.eqv]
theorem depthA {n : Nat} : ∀ {ds : List D}, (∀ d ∈ ds, d.py.depth ≤ n) → PyData.depthAll (D.pyA ds) ≤ n
  | [], _ => Nat.zero_le _
  | d :: ds, h => by
    have h1 := h d List.mem_cons_self
    have h2 := depthA (n := n) (ds := ds) fun x hx => h x (List.mem_cons_of_mem _ hx)
    simp only [D.pyA, PyData.depthAll]
    omega
theorem weightA {w : Nat} : ∀ {ds : List D}, (∀ d ∈ ds, d.py.weight ≤ w) → PyData.weightAll (D.pyA ds) ≤ ds.length * (w + 1)
  | [], _ => Nat.zero_le _
  | d :: ds, h => by
    have h1 := h d List.mem_cons_self
    have h2 := weightA (w := w) (ds := ds) fun x hx => h x (List.mem_cons_of_mem _ hx)
    simp only [D.pyA, PyData.weightAll, List.length_cons]
    rw [Nat.add_mul]
    omega
theorem fiA_all : ∀ {ds : List D}, (∀ d ∈ ds, fi d = true) → fiA ds = true
  | [], _ => rfl
  | d :: ds, h => by
    unfold fiA
    rw [h d List.mem_cons_self, fiA_all fun x hx => h x (List.mem_cons_of_mem _ hx)]
    rfl
theorem line_fi {c : Nat} (hc : c ≤ 12) {l : List Int} (h : In c l) : fi (dI l) = true ∧ (dI l).py.depth ≤ 1 ∧ (dI l).py.weight ≤ 60 := by
  have key : ∀ d ∈ l.map D.int, fi d = true ∧ d.py.depth ≤ 0 ∧ d.py.weight ≤ 4 := fun d hd => by
    obtain ⟨i, hi, rfl⟩ := List.mem_map.mp hd
    have := h.rng i hi
    have h' : 0 ≤ i ∧ i < 12 := by omega
    exact ⟨by simp [fi, h'], Nat.le_refl _, (int_fi h').2.2⟩
  refine ⟨?_, ?_, ?_⟩
  · unfold fi
    exact fiA_all fun d hd => (key d hd).1
  · have := depthA (n := 0) fun d hd => (key d hd).2.1
    simp only [D.py, PyData.depth]
    omega
  · have := weightA (w := 4) fun d hd => (key d hd).2.2
    have hl := h.len
    rw [List.length_map] at this
    simp only [D.py, PyData.weight]
    omega
theorem lines_fi {r c : Nat} (hr : r ≤ 12) (hc : c ≤ 12) {ls : List (List Int)} (hl : ls.length = r) (h : ∀ l ∈ ls, In c l) : fi (.tup (ls.map dI)) = true ∧ (D.tup (ls.map dI)).py.depth ≤ 2 ∧ (D.tup (ls.map dI)).py.weight ≤ 1000 := by
  have key : ∀ d ∈ ls.map dI, fi d = true ∧ d.py.depth ≤ 1 ∧ d.py.weight ≤ 60 := fun d hd => by
    obtain ⟨l, hi, rfl⟩ := List.mem_map.mp hd
    exact line_fi hc (h l hi)
  refine ⟨?_, ?_, ?_⟩
  · unfold fi
    exact fiA_all fun d hd => (key d hd).1
  · have := depthA (n := 1) fun d hd => (key d hd).2.1
    simp only [D.py, PyData.depth]
    omega
  · have := weightA (w := 60) fun d hd => (key d hd).2.2
    rw [List.length_map, hl] at this
    simp only [D.py, PyData.weight]
    omega
theorem show_line {c : Nat} (hc : c ≤ 12) {l : List Int} (h : In c l) : (dI l).okRepr = true ∧ eqOp (.str (dI l).py.shown) (.str (dI l).py.shown) = some true := by
  obtain ⟨a, b, d⟩ := line_fi hc h
  exact ⟨show_ok a (Nat.le_trans b (by decide)) (Nat.le_trans d (by decide)), cmp_shown a⟩
theorem show_lines {r c : Nat} (hr : r ≤ 12) (hc : c ≤ 12) {ls : List (List Int)} (hl : ls.length = r) (h : ∀ l ∈ ls, In c l) : (D.tup (ls.map dI)).okRepr = true ∧ eqOp (.str (D.tup (ls.map dI)).py.shown) (.str (D.tup (ls.map dI)).py.shown) = some true := by
  obtain ⟨a, b, d⟩ := lines_fi hr hc hl h
  exact ⟨show_ok a (by omega) (by omega), cmp_shown a⟩
theorem show_pair {r c : Nat} (hr : r ≤ 12) (hc : c ≤ 12) {ls : List (List Int)} {l : List Int} (hl : ls.length = r) (h : ∀ l ∈ ls, In c l) (h2 : In c l) : (D.tup [.tup (ls.map dI), dI l]).okRepr = true ∧ eqOp (.str (D.tup [.tup (ls.map dI), dI l]).py.shown) (.str (D.tup [.tup (ls.map dI), dI l]).py.shown) = some true := by
  obtain ⟨a, b, d⟩ := lines_fi hr hc hl h
  obtain ⟨a', b', d'⟩ := line_fi hc h2
  have f : fi (D.tup [.tup (ls.map dI), dI l]) = true := by simp only [fi, fiA] at a a' ⊢; rw [a, a']; rfl
  refine ⟨show_ok f ?_ ?_, cmp_shown f⟩
  · simp only [D.py, D.pyA, PyData.depth, PyData.depthAll] at b b' ⊢
    omega
  · simp only [D.py, D.pyA, PyData.weight, PyData.weightAll] at d d' ⊢
    omega
end Lw

/-! K44p: the law's question. -/
namespace Lw
open PySem PySem.Spec PyProof.Rows L2 Mi G

def Of3 (Φ : Nat → Fn) (i : Nat) : Prop := ∀ (n : Nat) (m : MO) (ds : List D), Pot n m → n < 2 ^ 20 → ds ≠ [] → ds.length ≤ 1000 → ∃ (j : Nat) (d : D) (m' : MO), ds[j]? = some d ∧ Pot (n + 1) m' ∧ Φ i [.own m, .dat (.lst ds)] = some (.val d, [m'])
def Shades10 (Φ : Nat → Fn) (i : Nat) : Prop := ∀ (n r c : Nat) (m : MO), Pot n m → r ≤ 100 → c ≤ 100 → n + 101 * r + 200 < 2 ^ 20 → ∃ (ls : List (List Int)) (m' : MO), ls.length = r ∧ (∀ l ∈ ls, In c l) ∧ Pot (n + 101 * r) m' ∧ Φ i [.own m, .dat (gridD r c)] = some (.val (.tup (ls.map dI)), [m'])
/-- the slots: pot, most, column, grid, kind, shades, strokes, first, due, now, rows, dark, line, one -/
abbrev En31 (m : MO) (s1 s2 s3 s4 s5 s6 s7 s8 s9 s10 s11 : Mi.Slot) : En := [.own false m, s1, s2, s3, s4, s5, s6, s7, s8, s9, s10, s11, .un, .un]
def t1 : S := (.asg (.nm 1) (.call 3 (.acons (.var 0) (.acons (.lst (.acons (.cst (.int 5)) (.acons (.cst (.int 12)) .anil))) .anil))))
def t2 : S := (.par [3, 4] (.acons (.tup (.acons (.bin .add (.cst (.int 1)) (.call 2 (.acons (.var 0) (.acons (.var 1) .anil)))) (.acons (.bin .add (.cst (.int 1)) (.call 2 (.acons (.var 0) (.acons (.var 1) .anil)))) .anil))) (.acons (.call 3 (.acons (.var 0) (.acons (.lst (.acons (.cst (.str (Str.ofString "own"))) (.acons (.cst (.str (Str.ofString "shut"))) .anil))) .anil))) .anil)))
def t3 : S := (.par [5, 6, 7] (.acons (.call 10 (.acons (.var 0) (.acons (.var 3) .anil))) (.acons (.call 10 (.acons (.var 0) (.acons (.var 3) .anil))) (.acons (.call 9 (.acons (.var 0) (.acons (.ix (.var 3) (.cst (.int 1))) .anil))) .anil))))
theorem r1 (Φ : Nat → Fn) (h3 : Of3 Φ 3) {n : Nat} {m : MO} (hm : Pot n m) (hn : n < 2 ^ 19) : ∃ (q : Nat) (m' : MO), 1 ≤ q ∧ q ≤ 12 ∧ Pot (n + 1) m' ∧ evS Φ t1 (En31 m .un .un .un .un .un .un .un .un .un .un .un) = some (.nx (En31 m' (.dat (.int q)) .un .un .un .un .un .un .un .un .un .un)) := by
  obtain ⟨j, d, m', hd, hm', e⟩ := h3 n m [.int 5, .int 12] hm (by omega) (by simp) (by simp)
  have hq : ∃ q : Nat, 1 ≤ q ∧ q ≤ 12 ∧ d = .int q := by
    rcases j with _ | _ | j
    · simp at hd; exact ⟨5, by omega, by omega, hd.symm⟩
    · simp at hd; exact ⟨12, by omega, by omega, hd.symm⟩
    · simp at hd
  obtain ⟨q, q1, q2, rfl⟩ := hq
  refine ⟨q, m', q1, q2, hm', ?_⟩
  simp [t1, En31, fzs, fz, lim, toArgs, e, putBack, Ret.p, setP, setD, setS]
theorem r2 (Φ : Nat → Fn) (h2 : Take Φ 2) (h3 : Of3 Φ 3) {n q : Nat} {m : MO} (hm : Pot n m) (hn : n < 2 ^ 19) (q1 : 1 ≤ q) (q2 : q ≤ 12) : ∃ (r c : Nat) (o : Bool) (m' : MO), 1 ≤ r ∧ r ≤ 12 ∧ 1 ≤ c ∧ c ≤ 12 ∧ Pot (n + 3) m' ∧ evS Φ t2 (En31 m (.dat (.int q)) .un .un .un .un .un .un .un .un .un .un) = some (.nx (En31 m' (.dat (.int q)) .un (.dat (gridD r c)) (.dat (kindD o)) .un .un .un .un .un .un .un)) := by
  obtain ⟨a, m1, a0, a1, hm1, e1⟩ := h2 n m hm (by omega) q (by omega) (sm_le (by omega) (by omega))
  obtain ⟨b, m2, b0, b1, hm2, e2⟩ := h2 (n + 1) m1 hm1 (by omega) q (by omega) (sm_le (by omega) (by omega))
  obtain ⟨j, d, m3, hd, hm3, e3⟩ := h3 (n + 2) m2 [.str (Str.ofString "own"), .str (Str.ofString "shut")] hm2 (by omega) (by simp) (by simp)
  have hk : ∃ o : Bool, d = kindD o := by
    rcases j with _ | _ | j
    · simp at hd; exact ⟨true, hd.symm⟩
    · simp at hd; exact ⟨false, hd.symm⟩
    · simp at hd
  obtain ⟨o, rfl⟩ := hk
  refine ⟨(1 + a).toNat, (1 + b).toNat, o, m3, by omega, by omega, by omega, by omega, hm3, ?_⟩
  have hg : gridD (1 + a).toNat (1 + b).toNat = .tup [.int (1 + a), .int (1 + b)] := by
    unfold gridD
    rw [Int.toNat_of_nonneg (by omega), Int.toNat_of_nonneg (by omega)]
  rw [hg]
  simp [t2, En31, pk, fzs, fz, lim, toArgs, e1, e2, e3, add_ev, putBack, Ret.p, rsPs, rsP, setVs, setS]
theorem r3 (Φ : Nat → Fn) (h9 : Line9 Φ 9) (h10 : Shades10 Φ 10) {n q r c : Nat} {o : Bool} {m : MO} (hm : Pot n m) (hn : n < 2 ^ 19) (r2 : r ≤ 12) (c2 : c ≤ 12) : ∃ (sh st : List (List Int)) (first : List Int) (m' : MO), sh.length = r ∧ (∀ l ∈ sh, In c l) ∧ st.length = r ∧ (∀ l ∈ st, In c l) ∧ In c first ∧ Pot (n + 3000) m' ∧
    evS Φ t3 (En31 m (.dat (.int q)) .un (.dat (gridD r c)) (.dat (kindD o)) .un .un .un .un .un .un .un) = some (.nx (En31 m' (.dat (.int q)) .un (.dat (gridD r c)) (.dat (kindD o)) (.dat (.tup (sh.map dI))) (.dat (.tup (st.map dI))) (.dat (dI first)) .un .un .un .un)) := by
  obtain ⟨sh, m1, a1, a2, hm1, e1⟩ := h10 n r c m hm (by omega) (by omega) (by omega)
  obtain ⟨st, m2, b1, b2, hm2, e2⟩ := h10 _ r c m1 hm1 (by omega) (by omega) (by omega)
  obtain ⟨first, m3, f1, hm3, e3⟩ := h9 _ c m2 hm2 (by omega) (by omega)
  refine ⟨sh, st, first, m3, a1, a2, b1, b2, f1, pot_mono hm3 (by omega), ?_⟩
  have hg1 : ixOp (gridD r c) (.int 1) = some (.int c) := ixt1
  simp [t3, En31, pk, hg1, toArgs, e1, e2, e3, putBack, Ret.p, rsPs, rsP, fz, setVs, setS]
end Lw

/-! K44q: the law's question, what is compared. -/
namespace Lw
open PySem PySem.Spec PyProof.Rows L2 Mi G

theorem eq_lines_ok (a : List (List Int)) : (a.map dI).all (D.ok 8) = true := by
  induction a with
  | nil => rfl
  | cons x a ih =>
    rw [List.map_cons, List.all_cons, ih]
    simp only [D.ok, ok_ints]
    rfl
theorem eqv_lines : ∀ a : List (List Int), PyData.eqvAll (D.pyA (a.map dI)) (D.pyA (a.map dI)) = true
  | [] => rfl
  | x :: a => by
    simp only [List.map_cons, D.pyA, PyData.eqvAll, D.py, PyData.eqv, eqv_ints, eqv_lines a]
    simp
theorem eq_lines (a : List (List Int)) : eqOp (.tup (a.map dI)) (.tup (a.map dI)) = some true := by
  unfold eqOp
  rw [if_pos (by simp only [D.ok]; rw [eq_lines_ok]; rfl)]
  simp only [D.py, PyData.eqv, eqv_lines]
/-- r, c, kind, what is lit -/
structure Sit (r c : Nat) (sh : List (List Int)) : Prop where
  r1 : 1 ≤ r
  r2 : r ≤ 12
  c1 : 1 ≤ c
  c2 : c ≤ 12
  len : sh.length = r
  ins : ∀ l ∈ sh, In c l
def Str28 (Φ : Nat → Fn) (i : Nat) : Prop := ∀ (r c : Nat) (o : Bool) (sh st : List (List Int)), Sit r c sh → Sit r c st → Φ i [.dat (gridD r c), .dat (kindD o), .dat (.tup (sh.map dI)), .dat (.tup (st.map dI))] = some (.val (.tup ((behindL r c o sh st).map dI)), [])
def Ch7 (Φ : Nat → Fn) (i : Nat) : Prop := ∀ (r c : Nat) (o : Bool) (sh : List (List Int)) (first : List Int), Sit r c sh → In c first → Φ i [.dat (gridD r c), .dat (kindD o), .dat (.tup (sh.map dI)), .dat (dI first)] = some (.val (.tup [.tup ((lawCh r c o sh first r).1.map dI), .tup ((lawCh r c o sh first r).2.map dI)]), [])
def Ch30 (Φ : Nat → Fn) (i : Nat) : Prop := ∀ (r c : Nat) (o : Bool) (sh : List (List Int)) (first : List Int), Sit r c sh → In c first → Φ i [.dat (gridD r c), .dat (kindD o), .dat (.tup (sh.map dI)), .dat (dI first)] = some (.val (.tup [.tup ((chS c o sh [] first).1.map dI), dI (chS c o sh [] first).2]), [])
theorem sit_beh {r c : Nat} {o : Bool} {sh st : List (List Int)} (h : Sit r c sh) (h2 : Sit r c st) : Sit r c (behindL r c o sh st) := ⟨h.r1, h.r2, h.c1, h.c2, by simp [behindL], in_beh h.ins h2.ins⟩
theorem sit_law {r c : Nat} {o : Bool} {sh : List (List Int)} {first : List Int} (h : Sit r c sh) (hf : In c first) : Sit r c (lawCh r c o sh first r).1 ∧ Sit r c (lawCh r c o sh first r).2 := by
  obtain ⟨a, b, d, e⟩ := lawCh_in (o := o) h.ins h.len hf r
  exact ⟨⟨h.r1, h.r2, h.c1, h.c2, a, d⟩, ⟨h.r1, h.r2, h.c1, h.c2, b, e⟩⟩
def t4 : S := (.ite (.cmp .ne (.bi .repr (.acons (.call 28 (.acons (.var 3) (.acons (.var 4) (.acons (.var 5) (.acons (.var 6) .anil))))) .anil)) (.bi .repr (.acons (.call 6 (.acons (.var 3) (.acons (.var 4) (.acons (.var 5) (.acons (.var 6) .anil))))) .anil))) (.seq (.ret (.cst (.bl false))) .nop) .nop)
theorem beh_false {Φ : Nat → Fn} (h6 : Beh6 Φ 6) {r c : Nat} {o : Bool} {sh st : List (List Int)} (h : Sit r c sh) (h2 : Sit r c st) : Φ 6 [.dat (gridD r c), .dat (kindD o), .dat (.tup (sh.map dI)), .dat (.tup (st.map dI))] = some (.val (.tup ((behindL r c o sh st).map dI)), []) := by
  have hz : ∀ {st : List (List Int)}, (∀ l ∈ st, In c l) → ∀ l ∈ st, l.length ≤ 1000 := fun g l hl => by
    have := (g l hl).len
    have := h.c2
    omega
  exact h6 false r c o sh st (by have := h.r2; omega) h.len h2.len (hz h2.ins) (hz h.ins)
theorem r4 (Φ : Nat → Fn) (h28 : Str28 Φ 28) (h6 : Beh6 Φ 6) {r c : Nat} {o : Bool} {sh st : List (List Int)} (h : Sit r c sh) (h2 : Sit r c st) (m : MO) (s1 s2 s7 s8 s9 s10 s11 : Mi.Slot) :
    evS Φ t4 (En31 m s1 s2 (.dat (gridD r c)) (.dat (kindD o)) (.dat (.tup (sh.map dI))) (.dat (.tup (st.map dI))) s7 s8 s9 s10 s11) = some (.nx (En31 m s1 s2 (.dat (gridD r c)) (.dat (kindD o)) (.dat (.tup (sh.map dI))) (.dat (.tup (st.map dI))) s7 s8 s9 s10 s11)) := by
  have e1 := h28 r c o sh st h h2
  have e2 := beh_false (o := o) h6 h h2
  obtain ⟨k1, k2⟩ := show_lines h.r2 h.c2 (sit_beh (o := o) h h2).len (sit_beh (o := o) h h2).ins
  generalize D.tup ((behindL r c o sh st).map dI) = w at *
  simp [t4, En31, evT, toArgs, e1, e2, putBack, Ret.p, pks, pk, biOp, k1, cmpOp, k2]
def t5 : S := (.asg (.tp (.cons (.nm 8) (.cons (.nm 9) .nil))) (.call 7 (.acons (.var 3) (.acons (.var 4) (.acons (.var 5) (.acons (.var 7) .anil))))))
theorem r5 (Φ : Nat → Fn) (h7 : Ch7 Φ 7) {r c : Nat} {o : Bool} {sh : List (List Int)} {first : List Int} (h : Sit r c sh) (hf : In c first) (m : MO) (s1 s2 s6 s10 s11 : Mi.Slot) :
    evS Φ t5 (En31 m s1 s2 (.dat (gridD r c)) (.dat (kindD o)) (.dat (.tup (sh.map dI))) s6 (.dat (dI first)) .un .un s10 s11) = some (.nx (En31 m s1 s2 (.dat (gridD r c)) (.dat (kindD o)) (.dat (.tup (sh.map dI))) s6 (.dat (dI first)) (.dat (.tup ((lawCh r c o sh first r).1.map dI))) (.dat (.tup ((lawCh r c o sh first r).2.map dI))) s10 s11)) := by
  have e1 := h7 r c o sh first h hf
  simp [t5, En31, toArgs, e1, putBack, Ret.p, setP, fz, setD, setDs, setS]
/-- the last, the rest -/
theorem last_at {a : List (List Int)} {r : Nat} (hr : 1 ≤ r) (ha : a.length = r) : ixOp (.tup (a.map dI)) (.int (-1)) = some (dI (line a (r - 1))) := by
  simp only [ixOp, atI, ixN, List.length_map, ha]
  rw [if_neg (by decide), if_pos (by omega)]
  have e : (-1 + (r : Int)).toNat = r - 1 := by omega
  rw [Option.bind_some, e]
  exact line_get (by omega)
theorem init_at {a : List (List Int)} {r : Nat} (hr : 1 ≤ r) (ha : a.length = r) : slcOp (.tup (a.map dI)) none (some (-1)) = some (.val (.tup ((a.take (r - 1)).map dI))) := by
  simp only [slcOp, Mi.cutD, List.length_map, ha]
  have e1 : HT.sIx r 0 none = 0 := rfl
  have e2 : HT.sIx r r (some (-1)) = r - 1 := by
    show (if (-1 : Int) < 0 then ((-1 : Int) + (r : Int)).toNat else min (-1 : Int).toNat r) = r - 1
    rw [if_pos (by decide)]
    omega
  rw [e1, e2, List.drop_zero, Nat.sub_zero, List.map_take]
end Lw

/-! K44r: the law's question, the rest. -/
namespace Lw
open PySem PySem.Spec PyProof.Rows L2 Mi G

theorem in_chS {c : Nat} {o : Bool} : ∀ {sh : List (List Int)} {b l : List Int}, (∀ q ∈ sh, In c q) → In c b → In c l → In c (chS c o sh b l).2
  | [], _, _, _, _, hl => hl
  | s :: sh, b, l, h, hb, hl => in_chS (sh := sh) (fun q hq => h q (List.mem_cons_of_mem _ hq)) hl (in_nxt (h s List.mem_cons_self) hb hl)
def t6 : S := (.ite (.or (.cmp .ne (.bi .repr (.acons (.call 30 (.acons (.var 3) (.acons (.var 4) (.acons (.var 5) (.acons (.var 7) .anil))))) .anil)) (.bi .repr (.acons (.tup (.acons (.var 8) (.acons (.ix (.var 9) (.neg (.cst (.int 1)))) .anil))) .anil))) (.bi .any (.acons (.lc [12] (.nm 12) (.slc (.var 9) .gone (.acons (.neg (.cst (.int 1))) .anil)) .anil (.cmp .ne (.var 12) (.tup .anil))) .anil))) (.seq (.ret (.cst (.bl false))) .nop) .nop)
theorem r6 (Φ : Nat → Fn) (h30 : Ch30 Φ 30) {r c : Nat} {o : Bool} {sh : List (List Int)} {first : List Int} (h : Sit r c sh) (hf : In c first) (m : MO) (s1 s2 s6 s10 s11 : Mi.Slot) :
    evS Φ t6 (En31 m s1 s2 (.dat (gridD r c)) (.dat (kindD o)) (.dat (.tup (sh.map dI))) s6 (.dat (dI first)) (.dat (.tup ((lawCh r c o sh first r).1.map dI))) (.dat (.tup ((lawCh r c o sh first r).2.map dI))) s10 s11)
      = some (.nx (En31 m s1 s2 (.dat (gridD r c)) (.dat (kindD o)) (.dat (.tup (sh.map dI))) s6 (.dat (dI first)) (.dat (.tup ((lawCh r c o sh first r).1.map dI))) (.dat (.tup ((lawCh r c o sh first r).2.map dI))) s10 s11)) := by
  have e1 := h30 r c o sh first h hf
  have hd := due_eq (c := c) (o := o) (first := first) h.len
  obtain ⟨n1, n2, n3, _⟩ := now_eq (c := c) (o := o) (first := first) h.r1 h.len
  have hl := (sit_law (o := o) h hf).1
  have hx := last_at h.r1 n1
  have hi := init_at h.r1 n1
  rw [n3] at hx
  obtain ⟨k1, k2⟩ := show_pair h.r2 h.c2 hl.len hl.ins (in_chS (o := o) h.ins (In.nil c) hf)
  rw [← hd] at e1
  have hempty : ∀ l ∈ (lawCh r c o sh first r).2.take (r - 1), l = [] := fun l hl => by
    obtain ⟨j, hj⟩ := List.getElem?_of_mem hl
    have lt := get_lt hj
    rw [List.length_take] at lt
    rw [List.getElem?_take_of_lt (by omega)] at hj
    rw [← line_at hj]
    exact n2 j (by omega)
  generalize (lawCh r c o sh first r).2 = now at *
  generalize (lawCh r c o sh first r).1 = due at *
  generalize (chS c o sh [] first).2 = fin at *
  have ev : lcGo (lcF Φ [12] (.nm 12) .anil (.cmp .ne (.var 12) (.tup .anil))) ((now.take (r - 1)).map dI) (En31 m s1 s2 (.dat (gridD r c)) (.dat (kindD o)) (.dat (.tup (sh.map dI))) s6 (.dat (dI first)) (.dat (.tup (due.map dI))) (.dat (.tup (now.map dI))) s10 s11) = some (((now.take (r - 1)).map fun _ => false).map D.bl, En31 m s1 s2 (.dat (gridD r c)) (.dat (kindD o)) (.dat (.tup (sh.map dI))) s6 (.dat (dI first)) (.dat (.tup (due.map dI))) (.dat (.tup (now.map dI))) s10 s11) := by
    rw [lcGo_map fun _ => .bl false]
    · rw [List.map_map, List.map_map]; rfl
    · intro d hd
      obtain ⟨l, hl, rfl⟩ := List.mem_map.mp hd
      have := hempty l hl
      subst this
      have hc : eqOp (dI []) (.tup []) = some true := (cmp_tup [] []).trans (by simp)
      simp [lcF, setD, setS, En31, pk, fzs, lim, cmpOp, hc, fz, wipeS]
  have hz : ((now.take (r - 1)).map dI).length ≤ 4000000 := by
    rw [List.length_map, List.length_take]
    have := h.r2
    omega
  have hall : ((now.take (r - 1)).map fun _ => false).any id = false := by
    rw [List.any_eq_false]
    intro b hb
    obtain ⟨_, _, rfl⟩ := List.mem_map.mp hb
    decide
  generalize ((now.take (r - 1)).map fun _ => false) = bs at *
  generalize (now.take (r - 1)).map dI = ini at *
  simp only [En31] at ev
  simp [t6, En31, evT, toArgs, e1, putBack, Ret.p, pks, pk, biOp, k1, hx, fzs, fz, lim, cmpOp, k2, itStart, dictIt, hi, itsOf, D.seq?, hz, wipeS, ev, backS, freeS, blsOf_mapB, hall]
def t7 : S := (.ite (.or (.cmp .ne (.call 28 (.acons (.var 3) (.acons (.var 4) (.acons (.var 5) (.acons (.var 8) .anil))))) (.var 9)) (.cmp .ne (.call 28 (.acons (.var 3) (.acons (.var 4) (.acons (.var 9) (.acons (.var 8) .anil))))) (.var 5))) (.seq (.ret (.cst (.bl false))) .nop) .nop)
theorem r7 (Φ : Nat → Fn) (h28 : Str28 Φ 28) {r c : Nat} {o : Bool} {sh : List (List Int)} {first : List Int} (h : Sit r c sh) (hf : In c first) (m : MO) (s1 s2 s6 s7 s10 s11 : Mi.Slot) :
    evS Φ t7 (En31 m s1 s2 (.dat (gridD r c)) (.dat (kindD o)) (.dat (.tup (sh.map dI))) s6 s7 (.dat (.tup ((lawCh r c o sh first r).1.map dI))) (.dat (.tup ((lawCh r c o sh first r).2.map dI))) s10 s11)
      = some (.nx (En31 m s1 s2 (.dat (gridD r c)) (.dat (kindD o)) (.dat (.tup (sh.map dI))) s6 s7 (.dat (.tup ((lawCh r c o sh first r).1.map dI))) (.dat (.tup ((lawCh r c o sh first r).2.map dI))) s10 s11)) := by
  obtain ⟨d1, d2⟩ := sit_law (o := o) h hf
  obtain ⟨n1, n2, n3, n4⟩ := now_eq (c := c) (o := o) (first := first) h.r1 h.len
  have e1 := h28 r c o sh _ h d1
  rw [← n4] at e1
  have e2 := h28 r c o _ _ d2 d1
  have tw : behindL r c o (lawCh r c o sh first r).2 (lawCh r c o sh first r).1 = sh := by rw [n4]; exact twice h.len h.ins
  rw [tw] at e2
  generalize (lawCh r c o sh first r).2 = now at *
  generalize (lawCh r c o sh first r).1 = due at *
  have q1 := eq_lines now
  have q2 := eq_lines sh
  simp [t7, En31, evT, toArgs, e1, e2, putBack, Ret.p, pk, cmpOp, q1, q2]
end Lw

/-! K44s: the law's question, to its end. -/
namespace Lw
open PySem PySem.Spec PyProof.Rows L2 Mi G

/-- dark -/
def dk (r : Nat) : List (List Int) := List.replicate r []
theorem sit_dk {r c : Nat} {sh : List (List Int)} (h : Sit r c sh) : Sit r c (dk r) := ⟨h.r1, h.r2, h.c1, h.c2, by simp [dk], fun l hl => by
  have := List.eq_of_mem_replicate hl
  subst this
  exact In.nil c⟩
def leftL (r c : Nat) (o : Bool) : List (List Int) := (List.range c).map fun (i : Nat) => (chS c o (dk r) [] [(i : Int)]).2
theorem in_one {c : Nat} {a : Int} (h : 0 ≤ a ∧ a < c) : In c [a] := ⟨by simp, fun x hx => by simp at hx; subst hx; exact h⟩
theorem left_len (r c : Nat) (o : Bool) : (leftL r c o).length = c := by simp [leftL]
theorem left_at {r c : Nat} {o : Bool} {a : Int} (h : 0 ≤ a ∧ a < c) : ixOp (.tup ((leftL r c o).map dI)) (.int a) = some (dI (chS c o (dk r) [] [a]).2) := by
  have e : a = ((a.toNat : Nat) : Int) := by omega
  have e2 : ixOp (.tup ((leftL r c o).map dI)) (.int ((a.toNat : Nat) : Int)) = some (dI (chS c o (dk r) [] [((a.toNat : Nat) : Int)]).2) := by
    rw [ix_tup, List.getElem?_map]
    unfold leftL
    rw [List.getElem?_map, List.getElem?_range (by omega)]
    rfl
  rw [← e] at e2
  exact e2
def Left22 (Φ : Nat → Fn) (i : Nat) : Prop := ∀ (r c : Nat) (o : Bool), 1 ≤ r → r ≤ 12 → 1 ≤ c → c ≤ 12 → Φ i [.dat (gridD r c), .dat (kindD o)] = some (.val (.tup ((leftL r c o).map dI)), [])
def t8 : S := (.par [10, 11] (.acons (.call 22 (.acons (.var 3) (.acons (.var 4) .anil))) (.acons (.bin .mul (.tup (.acons (.tup .anil) .anil)) (.ix (.var 3) (.cst (.int 0)))) .anil)))
theorem r8 (Φ : Nat → Fn) (h22 : Left22 Φ 22) {r c : Nat} {o : Bool} {sh : List (List Int)} (h : Sit r c sh) (m : MO) (s1 s2 s5 s6 s7 s8 s9 : Mi.Slot) :
    evS Φ t8 (En31 m s1 s2 (.dat (gridD r c)) (.dat (kindD o)) s5 s6 s7 s8 s9 .un .un) = some (.nx (En31 m s1 s2 (.dat (gridD r c)) (.dat (kindD o)) s5 s6 s7 s8 s9 (.dat (.tup ((leftL r c o).map dI))) (.dat (.tup ((dk r).map dI))))) := by
  have e1 := h22 r c o h.r1 h.r2 h.c1 h.c2
  have hg0 : ixOp (gridD r c) (.int 0) = some (.int r) := ixt0
  have hm : binOp .mul (.tup [.tup []]) (.int r) = some (.val (.tup ((dk r).map dI))) := by
    simp only [binOp]
    rw [if_pos ⟨by simp, by have := h.r1; omega, by have := h.r2; omega, by decide⟩]
    simp [dk]
  generalize (dk r).map dI = dkD at *
  simp [t8, En31, toArgs, e1, putBack, Ret.p, fzs, fz, lim, hg0, pk, hm, rsPs, rsP, setVs, setS]
def t9 : S := (.asg (.nm 2) (.call 2 (.acons (.var 0) (.acons (.ix (.var 3) (.cst (.int 1))) .anil))))
theorem r9 (Φ : Nat → Fn) (h2 : Take Φ 2) {n r c : Nat} {m : MO} (hm : Pot n m) (hn : n < 2 ^ 20) (c1 : 1 ≤ c) (c2 : c ≤ 12) (s1 s4 s5 s6 s7 s8 s9 s10 s11 : Mi.Slot) : ∃ (a : Int) (m' : MO), (0 ≤ a ∧ a < c) ∧ Pot (n + 1) m' ∧
    evS Φ t9 (En31 m s1 .un (.dat (gridD r c)) s4 s5 s6 s7 s8 s9 s10 s11) = some (.nx (En31 m' s1 (.dat (.int a)) (.dat (gridD r c)) s4 s5 s6 s7 s8 s9 s10 s11)) := by
  obtain ⟨a, m', a0, a1, hm', e⟩ := h2 n m hm hn c (by omega) (sm_le (by omega) (by omega))
  refine ⟨a, m', ⟨a0, a1⟩, hm', ?_⟩
  have hg1 : ixOp (gridD r c) (.int 1) = some (.int c) := ixt1
  simp [t9, En31, pk, hg1, toArgs, e, putBack, Ret.p, setP, fz, setD, setS]
def t10 : S := (.ite (.or (.cmp .ne (.bi .len (.acons (.var 10) .anil)) (.ix (.var 3) (.cst (.int 1)))) (.cmp .ne (.bi .repr (.acons (.ix (.var 10) (.var 2)) .anil)) (.bi .repr (.acons (.ix (.ix (.call 7 (.acons (.var 3) (.acons (.var 4) (.acons (.var 11) (.acons (.tup (.acons (.var 2) .anil)) .anil))))) (.cst (.int 1))) (.neg (.cst (.int 1)))) .anil)))) (.seq (.ret (.cst (.bl false))) .nop) .nop)
theorem r10 (Φ : Nat → Fn) (h7 : Ch7 Φ 7) {r c : Nat} {o : Bool} {sh : List (List Int)} (h : Sit r c sh) {a : Int} (ha : 0 ≤ a ∧ a < c) (m : MO) (s1 s5 s6 s7 s8 s9 : Mi.Slot) :
    evS Φ t10 (En31 m s1 (.dat (.int a)) (.dat (gridD r c)) (.dat (kindD o)) s5 s6 s7 s8 s9 (.dat (.tup ((leftL r c o).map dI))) (.dat (.tup ((dk r).map dI)))) = some (.nx (En31 m s1 (.dat (.int a)) (.dat (gridD r c)) (.dat (kindD o)) s5 s6 s7 s8 s9 (.dat (.tup ((leftL r c o).map dI))) (.dat (.tup ((dk r).map dI))))) := by
  have hd := sit_dk h
  have e1 : Φ 7 [.dat (gridD r c), .dat (kindD o), .dat (.tup ((dk r).map dI)), .dat (.tup [.int a])] = _ := h7 r c o (dk r) [a] hd (in_one ha)
  obtain ⟨n1, _, n3, _⟩ := now_eq (c := c) (o := o) (sh := dk r) (first := [a]) h.r1 hd.len
  have hx := last_at h.r1 n1
  rw [n3] at hx
  have hl := left_at (r := r) (o := o) ha
  have hin := in_chS (o := o) hd.ins (In.nil c) (in_one ha)
  obtain ⟨k1, k2⟩ := show_line h.c2 hin
  have hlen := left_len r c o
  have hg1 : ixOp (gridD r c) (.int 1) = some (.int c) := ixt1
  generalize D.tup ((lawCh r c o (dk r) [a] r).2.map dI) = nowD at *
  generalize D.tup ((lawCh r c o (dk r) [a] r).1.map dI) = dueD at *
  have hi1 : ixOp (.tup [dueD, nowD]) (.int 1) = some nowD := ixt1
  generalize dI (chS c o (dk r) [] [a]).2 = fin at *
  generalize (dk r).map dI = dkD at *
  have hc : ((leftL r c o).map dI).length = c := by rw [List.length_map, hlen]
  generalize (leftL r c o).map dI = lf at *
  simp [t10, En31, evT, pks, pk, hc, hg1, cmpOp, cmp_int, hl, biOp, k1, fzs, fz, lim, toArgs, e1, putBack, Ret.p, hi1, hx, k2]
def t11 : S := (.ret (.cmp .eq (.call 4 (.acons (.bin .add (.lst (.acons (.ix (.call 30 (.acons (.var 3) (.acons (.var 4) (.acons (.var 5) (.acons (.tup .anil) .anil))))) (.cst (.int 1))) .anil)) (.lc [13] (.nm 13) (.var 7) .anil (.ix (.var 10) (.var 13)))) .anil)) (.ix (.var 9) (.neg (.cst (.int 1))))))
theorem r11 (Φ : Nat → Fn) (h4 : Sum4 Φ 4) (h30 : Ch30 Φ 30) {r c : Nat} {o : Bool} {sh : List (List Int)} {first : List Int} (h : Sit r c sh) (hf : In c first) (m : MO) (s1 s2 s6 s8 s11 : Mi.Slot) :
    ∃ e', evS Φ t11 (En31 m s1 s2 (.dat (gridD r c)) (.dat (kindD o)) (.dat (.tup (sh.map dI))) s6 (.dat (dI first)) s8 (.dat (.tup ((lawCh r c o sh first r).2.map dI))) (.dat (.tup ((leftL r c o).map dI))) s11) = some (.rt (.val (.bl true)) e') ∧ ∀ m0 : MO, outsOf [.own m0] e' = some [m] := by
  have e1 : Φ 30 [.dat (gridD r c), .dat (kindD o), .dat (.tup (sh.map dI)), .dat (.tup [])] = _ := h30 r c o sh [] h (In.nil c)
  obtain ⟨n1, _, n3, _⟩ := now_eq (c := c) (o := o) (first := first) h.r1 h.len
  have hx := last_at h.r1 n1
  rw [n3] at hx
  have hsum := sum_eq (o := o) h.len h.ins hf
  let g : Int → List Int := fun a => (chS c o (dk r) [] [a]).2
  have ev : lcGo (lcF Φ [13] (.nm 13) .anil (.ix (.var 10) (.var 13))) (first.map D.int) (En31 m s1 s2 (.dat (gridD r c)) (.dat (kindD o)) (.dat (.tup (sh.map dI))) s6 (.dat (dI first)) s8 (.dat (.tup ((lawCh r c o sh first r).2.map dI))) (.dat (.tup ((leftL r c o).map dI))) s11) = some ((first.map g).map dI, En31 m s1 s2 (.dat (gridD r c)) (.dat (kindD o)) (.dat (.tup (sh.map dI))) s6 (.dat (dI first)) s8 (.dat (.tup ((lawCh r c o sh first r).2.map dI))) (.dat (.tup ((leftL r c o).map dI))) s11) := by
    rw [lcGo_map fun d => match d with | .int a => dI (g a) | d => d]
    · rw [List.map_map, List.map_map]; rfl
    · intro d hd
      obtain ⟨a, ha, rfl⟩ := List.mem_map.mp hd
      have := left_at (r := r) (o := o) (hf.rng a ha)
      simp [lcF, setD, setS, En31, pk, this, fz, wipeS, g]
  have h4' := h4 (dI (chS c o sh [] []).2 :: (first.map g).map dI) ((chS c o sh [] []).2 :: first.map g) (.cons (.inl rfl) (by
    have := paired_map (F := LotD) (f := dI) (g := id) (first.map g) fun x _ => .inl rfl
    rw [List.map_id] at this
    exact this)) (by
      have := hf.len
      have := h.c2
      simp [lim]; omega) (by
      have hl : ∀ l : List Int, (∀ a ∈ l, 0 ≤ a ∧ a < c) → (l.map g).flatten.length ≤ 12 * l.length := fun l => by
        induction l with
        | nil => intro _; exact Nat.le_refl _
        | cons a l ih =>
          intro hh
          have i1 := ih fun x hx => hh x (List.mem_cons_of_mem _ hx)
          have i2 := (in_chS (o := o) (sit_dk h).ins (In.nil c) (in_one (hh a List.mem_cons_self))).len
          have := h.c2
          rw [List.map_cons, List.flatten_cons, List.length_append, List.length_cons]
          show (chS c o (dk r) [] [a]).2.length + _ ≤ _
          omega
      have l1 := hl first hf.rng
      have l2 := (in_chS (o := o) h.ins (In.nil c) (In.nil c)).len
      have l3 := hf.len
      have := h.c2
      rw [List.flatten_cons, List.length_append]
      omega)
  rw [List.flatten_cons] at h4'
  have hsum' : oddS ((chS c o sh [] []).2 ++ (first.map g).flatten) = (chS c o sh [] first).2 := hsum
  rw [hsum'] at h4'
  have hz : (first.map D.int).length ≤ 4000000 := by
    have := hf.len
    have := h.c2
    rw [List.length_map]; omega
  have hz2 : 1 + ((first.map g).map dI).length ≤ 4000000 := by
    have := hf.len
    have := h.c2
    rw [List.length_map, List.length_map]; omega
  have hceq := cmp_tup (chS c o sh [] first).2 (chS c o sh [] first).2
  rw [decide_eq_true rfl] at hceq
  generalize hF : dI (chS c o sh [] first).2 = finD at *
  generalize (first.map g).map dI = gs at *
  generalize hA : dI (chS c o sh [] []).2 = a0 at *
  generalize D.tup ((chS c o sh [] []).1.map dI) = a1 at *
  have hi1 : ixOp (.tup [a1, a0]) (.int 1) = some a0 := ixt1
  simp only [En31] at ev
  refine ⟨En31 m s1 s2 (.dat (gridD r c)) (.dat (kindD o)) (.dat (.tup (sh.map dI))) s6 (.dat (dI first)) s8 (.dat (.tup ((lawCh r c o sh first r).2.map dI))) (.dat (.tup ((leftL r c o).map dI))) s11, ?_, fun _ => rfl⟩
  generalize (lawCh r c o sh first r).2.map dI = nowD at *
  generalize (leftL r c o).map dI = lf at *
  simp only [List.length_map] at hz
  simp [t11, En31, fzs, fz, lim, toArgs, e1, putBack, Ret.p, pk, hi1, itStart, dictIt, itsOf, D.seq?, hz, wipeS, ev, backS, freeS, binOp, hz2, h4', hx, cmpOp, hceq, retOf]
end Lw

/-! K44t: the law. -/
namespace Lw
open PySem PySem.Spec PyProof.Rows L2 Mi G

theorem b31_eq : b31 = .seq t1 (.seq t2 (.seq t3 (.seq t4 (.seq t5 (.seq t6 (.seq t7 (.seq t8 (.seq t9 (.seq t10 (.seq t11 .nop)))))))))) := rfl
theorem seq_nx {Φ : Nat → Fn} {a b : S} {e e' : En} (h : evS Φ a e = some (.nx e')) : evS Φ (.seq a b) e = evS Φ b e' := by rw [qs_seq4, h]
theorem s31 (Φ : Nat → Fn) (h2 : Take Φ 2) (h3 : Of3 Φ 3) (h4 : Sum4 Φ 4) (h6 : Beh6 Φ 6) (h7 : Ch7 Φ 7) (h9 : Line9 Φ 9) (h10 : Shades10 Φ 10) (h22 : Left22 Φ 22) (h28 : Str28 Φ 28) (h30 : Ch30 Φ 30) {n : Nat} {m : MO} (hm : Pot n m) (hn : n < 2 ^ 18) :
    ∃ m', Pot (n + 4000) m' ∧ semF Φ 1 14 b31 [.own m] = some (.val (.bl true), [m']) := by
  obtain ⟨q, m1, q1, q2, hm1, e1⟩ := r1 Φ h3 hm (by omega)
  obtain ⟨r, c, o, m2, r1', r2', c1', c2', hm2, e2⟩ := r2 Φ h2 h3 hm1 (by omega) q1 q2
  obtain ⟨sh, st, first, m3, a1, a2, b1, b2, hf, hm3, e3⟩ := r3 Φ h9 h10 (q := q) (o := o) hm2 (by omega) r2' c2'
  have h : Sit r c sh := ⟨r1', r2', c1', c2', a1, a2⟩
  have h' : Sit r c st := ⟨r1', r2', c1', c2', b1, b2⟩
  obtain ⟨a, m4, ha, hm4, e9⟩ := r9 Φ h2 hm3 (by omega) c1' c2' (.dat (.int q)) (.dat (kindD o)) (.dat (.tup (sh.map dI))) (.dat (.tup (st.map dI))) (.dat (dI first)) (.dat (.tup ((lawCh r c o sh first r).1.map dI))) (.dat (.tup ((lawCh r c o sh first r).2.map dI))) (.dat (.tup ((leftL r c o).map dI))) (.dat (.tup ((dk r).map dI)))
  refine ⟨m4, pot_mono hm4 (by omega), ?_⟩
  obtain ⟨e', e11, ho⟩ := r11 Φ h4 h30 (o := o) h hf m4 (.dat (.int q)) (.dat (.int a)) (.dat (.tup (st.map dI))) (.dat (.tup ((lawCh r c o sh first r).1.map dI))) (.dat (.tup ((dk r).map dI)))
  have main : evS Φ b31 (En31 m .un .un .un .un .un .un .un .un .un .un .un) = some (.rt (.val (.bl true)) e') := by
    rw [b31_eq, seq_nx e1, seq_nx e2, seq_nx e3, seq_nx (r4 Φ h28 h6 h h' m3 _ _ _ _ _ _ _), seq_nx (r5 Φ h7 h hf m3 _ _ _ _ _), seq_nx (r6 Φ h30 h hf m3 _ _ _ _ _), seq_nx (r7 Φ h28 h hf m3 _ _ _ _ _ _), seq_nx (r8 Φ h22 h m3 _ _ _ _ _ _ _), seq_nx e9, seq_nx (r10 Φ h7 h ha m4 _ _ _ _ _ _), qs_seq4, e11]
  unfold semF
  rw [if_pos (show [Mi.Arg.own m].length = 1 from rfl)]
  have : evS Φ b31 ([Mi.Arg.own m].map Mi.Arg.slot ++ List.replicate (14 - 1) Mi.Slot.un) = _ := main
  rw [this]
  simp only [ho m]
/-- the law -/
theorem laps (Φ : Nat → Fn) (h31 : ∀ (n : Nat) (m : MO), Pot n m → n < 2 ^ 18 → ∃ m', Pot (n + 4000) m' ∧ Φ 31 [.own m] = some (.val (.bl true), [m'])) (s0 s1 : Mi.Slot) : ∀ (xs : List D) {n : Nat} {m : MO}, Pot n m → n + 4000 * xs.length < 2 ^ 18 →
    ∃ m', lcGo (lcF Φ [3] (.nm 3) .anil (.call 31 (.acons (.var 2) .anil))) xs [s0, s1, .own true m, .un] = some ((xs.map fun _ => true).map D.bl, [s0, s1, .own true m', .un])
  | [], n, m, _, _ => ⟨m, rfl⟩
  | x :: xs, n, m, hm, hn => by
    rw [List.length_cons] at hn
    obtain ⟨m1, hm1, e⟩ := h31 n m hm (by omega)
    obtain ⟨m', e2⟩ := laps Φ h31 s0 s1 xs hm1 (by omega)
    refine ⟨m', ?_⟩
    have e1 : lcF Φ [3] (.nm 3) .anil (.call 31 (.acons (.var 2) .anil)) x [s0, s1, .own true m, .un] = some (some (.bl true), [s0, s1, .own true m1, .un]) := by
      simp [lcF, setD, setS, toArgs, e, putBack, Ret.p, fz, wipeS]
    unfold lcGo
    rw [e1]
    simp only
    rw [e2]
    rfl
def lapB : S := (.seq (.asg (.nm 2) (.call 1 (.acons (.var 0) (.acons (.var 1) .anil))))
  (.seq (.ite (.not (.bi .all (.acons (.lc [3] (.nm 3) (.rng (.acons (.cst (.int 5)) .anil)) .anil (.call 31 (.acons (.var 2) .anil))) .anil))) (.seq (.ret (.cst (.bl false))) .nop) .nop)
  .nop))
theorem lap_turn (Φ : Nat → Fn) (h1 : ∀ (ns : List Int) (pl : Nat), pl < 2 ^ 10 → ∃ m, Pot 0 m ∧ Φ 1 [.dat (.scr ns), .dat (.int pl)] = some (.new m, [])) (h31 : ∀ (n : Nat) (m : MO), Pot n m → n < 2 ^ 18 → ∃ m', Pot (n + 4000) m' ∧ Φ 31 [.own m] = some (.val (.bl true), [m'])) (ns : List Int) (pl : Nat) (hp : pl < 2 ^ 10) {s1 s2 : Mi.Slot} (f1 : s1.free = true) (f2 : s2.free = true) :
    ∃ m', forF Φ (.nm 1) lapB (.int pl) [.dat (.scr ns), s1, s2, .un] = some (.nx [.dat (.scr ns), .dat (.int pl), .own true m', .un]) := by
  obtain ⟨m, hm, e⟩ := h1 ns pl hp
  obtain ⟨m', e2⟩ := laps Φ h31 (.dat (.scr ns)) (.dat (.int pl)) (rangeD 0 5) hm (by simp [rangeD])
  refine ⟨m', ?_⟩
  have hrg : rngOf [.int 5] = some (rangeD 0 5) := rfl
  have hz : (rangeD 0 5).length ≤ 4000000 := by decide
  have hall : ((rangeD 0 5).map fun _ => true).all id = true := rfl
  generalize ((rangeD 0 5).map fun _ => true) = bs at *
  generalize rangeD 0 5 = xs at *
  simp [forF, lapB, setD, setS, f1, f2, toArgs, e, putBack, Ret.p, setP, evT, itStart, dictIt, pks, pk, hrg, itsOf, lim, hz, wipeS, e2, backS, freeS, biOp, blsOf_mapB, hall]
theorem s32 (Φ : Nat → Fn) (h0 : ∀ (ns : List Int) (k : Nat), k ≤ 100 → ∃ j : Nat, j ≤ 100 ∧ Φ 0 [.dat (.scr ns), .dat (.int k)] = some (.new (.lst (rangeD 0 j)), [])) (h1 : ∀ (ns : List Int) (pl : Nat), pl < 2 ^ 10 → ∃ m, Pot 0 m ∧ Φ 1 [.dat (.scr ns), .dat (.int pl)] = some (.new m, []))
    (h31 : ∀ (n : Nat) (m : MO), Pot n m → n < 2 ^ 18 → ∃ m', Pot (n + 4000) m' ∧ Φ 31 [.own m] = some (.val (.bl true), [m'])) (ns : List Int) : semF Φ 1 4 b32 [.dat (.scr ns)] = some (.val (.bl true), []) := by
  obtain ⟨j, hj, e0⟩ := h0 ns 3 (by decide)
  have loop := forGo_inv (f := forF Φ (.nm 1) lapB) (fun i e => ∃ s1 s2 : Mi.Slot, s1.free = true ∧ s2.free = true ∧ e = [.dat (.scr ns), s1, s2, .un]) (rangeD 0 j) 0 [.dat (.scr ns), .un, .un, .un] ⟨.un, .un, rfl, rfl, rfl⟩ (by
    rintro i x e hx ⟨s1, s2, f1, f2, rfl⟩
    obtain ⟨hi, rfl⟩ := range_get hx
    rw [Int.zero_add]
    obtain ⟨m', h⟩ := lap_turn Φ h1 h31 ns i (by omega) f1 f2
    exact ⟨_, h, .dat (.int i), .own true m', rfl, rfl, rfl⟩)
  obtain ⟨e', hg, s1, s2, f1, f2, rfl⟩ := loop
  have e0 : Φ 0 [.dat (.scr ns), .dat (.int 3)] = _ := e0
  have hb : b32 = (.seq (.for_ (.nm 1) (.call 0 (.acons (.var 0) (.acons (.cst (.int 3)) .anil))) lapB) (.seq (.ret (.cst (.bl true))) .nop)) := rfl
  rw [hb]
  simp [semF, Mi.Arg.slot, List.replicate, itStart, dictIt, toArgs, e0, putBack, Ret.p, itsOf, hg, freeS, retOf, outsOf]
end Lw

/-! K44u: all together. -/
namespace Lw
open PySem PySem.Spec PyProof.Rows L2 Mi G

variable {Φ : Nat → Fn}
theorem v0 (e : Φ 0 = semF (PhiR ds0) 2 2 b0) : ∀ (ns : List Int) (k : Nat), k ≤ 100 → ∃ j : Nat, j ≤ 100 ∧ Φ 0 [.dat (.scr ns), .dat (.int k)] = some (.new (.lst (rangeD 0 j)), []) := by rw [e]; exact s0 _
theorem v1 (e : Φ 1 = semF (PhiR ds1) 2 5 b1) : ∀ (ns : List Int) (pl : Nat), pl < 2 ^ 10 → ∃ m, Pot 0 m ∧ Φ 1 [.dat (.scr ns), .dat (.int pl)] = some (.new m, []) := by rw [e]; exact fun ns pl h => pot_ok _ h
theorem v2 (e : Φ 2 = semF (PhiR ds2) 2 5 b2) : Take Φ 2 := by unfold Take; rw [e]; exact fun c m h hc u hu hs => take_ok _ h hc hu hs
theorem v3 (e : Φ 3 = semF (PhiR ds3) 2 2 b3) : Of3 Φ 3 := by unfold Of3; rw [e]; exact fun n m ds hm hn h0 h1 => s3 _ (v2 rfl) hm hn h0 h1
theorem v4 (e : Φ 4 = semF (PhiR ds4) 1 5 b4) : Sum4 Φ 4 := by unfold Sum4; rw [e]; exact fun lots nss h h1 h2 => s4 _ h h1 h2
theorem v5 (e : Φ 5 = semF (PhiR ds5) 3 6 b5) : Side5 Φ 5 := by unfold Side5; rw [e]; exact fun c o l hl => s5 _ (v4 rfl) c o l hl
theorem v6 (e : Φ 6 = semF (PhiR ds6) 4 9 b6) : Beh6 Φ 6 := by unfold Beh6; rw [e]; exact fun own r c o sh st a b d f g => s6 _ (v4 rfl) (v5 rfl) own o a b d f g
theorem v7 (e : Φ 7 = semF (PhiR ds7) 4 7 b7) : Ch7 Φ 7 := by unfold Ch7; rw [e]; exact fun r c o sh first h hf => s7 _ (v6 rfl) o (by have := h.r2; omega) h.r1 (by have := h.c2; omega) h.len h.ins hf
theorem v8 (e : Φ 8 = semF (PhiR ds8) 3 6 b8) : ∀ (n : Nat) (m : MO) (ds : List D) (k : Nat), Pot n m → k ≤ ds.length → ds.length ≤ 1000 → n + k < 2 ^ 20 → ∃ (fs rest : List D) (m' : MO), (fs ++ rest).Perm ds ∧ Pot (n + k) m' ∧ Φ 8 [.own m, .dat (.lst ds), .dat (.int k)] = some (.new (.lst fs), [m']) := by rw [e]; exact fun n m ds k hm hk hl hn => s8 _ (v2 rfl) hm hk hl hn
theorem v9 (e : Φ 9 = semF (PhiR ds9) 2 2 b9) : Line9 Φ 9 := by unfold Line9; rw [e]; exact fun n c m hm hc hn => s9 _ (v2 rfl) (v8 rfl) hm hc hn
theorem v10 (e : Φ 10 = semF (PhiR ds10) 2 3 b10) : Shades10 Φ 10 := by unfold Shades10; rw [e]; exact fun n r c m hm hr hc hn => s10 _ (v9 rfl) hm hr hc hn
theorem v12 (e : Φ 12 = semF (PhiR ds12) 3 3 b12) : ∀ i lo hi : Int, Φ 12 [.dat (.int i), .dat (.int lo), .dat (.int hi)] = some (.val (.bl (decide (lo ≤ i) && decide (i ≤ hi))), []) := by rw [e]; exact s12 _ fun i => rfl
theorem v13 (e : Φ 13 = semF (PhiR ds13) 3 4 b13) : Btw Φ 13 := by unfold Btw; rw [e]; exact fun l lo hi hl => s13 _ (v12 rfl) l lo hi hl
theorem v16 (e : Φ 16 = semF (PhiR ds16) 2 2 b16) {r c : Nat} (o : Bool) (r1 : 1 ≤ r) (r2 : r ≤ 12) (c1 : 1 ≤ c) (c2 : c ≤ 12) : Φ 16 [.dat (gridD r c), .dat (kindD o)] = some (.val .non, []) := by rw [e]; exact s16 _ o (s14 (PhiR ds14) (v13 rfl) r1 r2 c1 c2) (s15 (PhiR ds15) o)
theorem v17 (e : Φ 17 = semF (PhiR ds17) 1 4 b17) : Sum17 Φ 17 := by unfold Sum17; rw [e]; exact fun own lots nss h h1 h2 => s17 _ own lots nss h h1 h2
theorem v18 (e : Φ 18 = semF (PhiR ds18) 3 6 b18) : Side5 Φ 18 := by unfold Side5; rw [e]; exact fun c o l hl => s18 _ (v17 rfl) c o l hl
theorem v19 (e : Φ 19 = semF (PhiR ds19) 4 8 b19) {r c : Nat} (o : Bool) {sh : List (List Int)} {first : List Int} (h : Sit r c sh) (hf : In c first) : Φ 19 [.dat (gridD r c), .dat (kindD o), .dat (.tup (sh.map dI)), .dat (dI first)] = some (.val (.tup [.tup ((chS c o sh [] first).1.map dI), dI (chS c o sh [] first).2]), []) := by
  rw [e]; exact s19 _ (v17 rfl) (v18 rfl) o (by have := h.len; have := h.r2; omega) (by have := h.c2; omega) h.ins hf
theorem v22 (e : Φ 22 = semF (PhiR ds22) 2 2 b22) : Left22 Φ 22 := by
  unfold Left22
  rw [e]
  intro r c o r1 r2 c1 c2
  have sd : Sit r c (dk r) := sit_dk (sh := dk r) ⟨r1, r2, c1, c2, by simp [dk], fun l hl => by
    have := List.eq_of_mem_replicate hl
    subst this
    exact In.nil c⟩
  have h21 := s21 (PhiR ds21) (r := r) o (by omega : c ≤ 100) (.tup ((dk r).map dI)) (fun (i : Nat) => (.tup ((chS c o (dk r) [] [(i : Int)]).1.map dI), dI (chS c o (dk r) [] [(i : Int)]).2)) (s20 (PhiR ds20) (by omega) (by omega)) fun i hi => v19 (Φ := PhiR ds21) rfl o sd (in_one ⟨by omega, by omega⟩)
  have e2 : ((List.range c).map fun (i : Nat) => dI (chS c o (dk r) [] [(i : Int)]).2) = (leftL r c o).map dI := by
    unfold leftL
    rw [List.map_map]
    rfl
  rw [← e2]
  exact s22 _ o _ (v16 (Φ := PhiR ds22) rfl o r1 r2 c1 c2) h21
theorem v24 (e : Φ 24 = semF (PhiR ds24) 2 2 b24) {c : Nat} (hc : c ≤ 12) : ∀ l : List Int, In c l → Φ 24 [.dat (.int c), .dat (dI l)] = some (.val (.bl true), []) := by rw [e]; exact fun l hl => s24 _ (v13 rfl) (fun l hl => s23 (PhiR ds23) l hl) (by omega) hl
theorem v25 (e : Φ 25 = semF (PhiR ds25) 2 3 b25) {r c : Nat} {sh : List (List Int)} (h : Sit r c sh) : Φ 25 [.dat (gridD r c), .dat (.tup (sh.map dI))] = some (.val (.bl true), []) := by rw [e]; exact s25 _ (v24 rfl h.c2) (by have := h.r2; omega) h.len h.ins
theorem v26 (e : Φ 26 = semF (PhiR ds26) 3 3 b26) {r c : Nat} (o : Bool) {sh : List (List Int)} (h : Sit r c sh) : Φ 26 [.dat (gridD r c), .dat (kindD o), .dat (.tup (sh.map dI))] = some (.val .non, []) := by rw [e]; exact s26 _ o _ (v16 rfl o h.r1 h.r2 h.c1 h.c2) (v25 rfl h)
theorem v28 (e : Φ 28 = semF (PhiR ds28) 4 4 b28) : Str28 Φ 28 := by
  unfold Str28
  rw [e]
  intro r c o sh st h h2
  have hz : ∀ {st : List (List Int)}, (∀ l ∈ st, In c l) → ∀ l ∈ st, l.length ≤ 1000 := fun g l hl => by
    have := (g l hl).len
    have := h.c2
    omega
  exact s28 _ o _ _ _ (v26 rfl o h) (v25 rfl h2) (s27 (PhiR ds27) (v17 rfl) (v18 rfl) o (by have := h.r2; omega) h.len h2.len (hz h2.ins) (hz h.ins))
theorem v30 (e : Φ 30 = semF (PhiR ds30) 4 4 b30) : Ch30 Φ 30 := by
  unfold Ch30
  rw [e]
  exact fun r c o sh first h hf => s30 _ o _ _ _ (v26 rfl o h) (s29 (PhiR ds29) _ (v24 rfl h.c2 first hf)) (v19 rfl o h hf)
theorem law_true : ∀ ns : List Int, ns.length ≤ 63 → (∀ z ∈ ns, Builtin.Int.intBits z ≤ 1048576) → semF (PhiR ds32) 1 n32.length b32 [.dat (.scr ns)] = some (.val (.bl true), []) := fun ns _ _ =>
  s32 (PhiR ds32) (v0 rfl) (v1 rfl) (fun n m hm hn => s31 (PhiR ds31) (v2 rfl) (v3 rfl) (v4 rfl) (v6 rfl) (v7 rfl) (v9 rfl) (v10 rfl) (v22 rfl) (v28 rfl) (v30 rfl) hm hn) ns
end Lw

open PySem PySem.W PyProof.Rows in
set_option maxRecDepth 100000 in
set_option maxHeartbeats 0 in
theorem PySem.Challenge.cw_whicheverlit_k44_whole_grids_chased_holds : PySem.Challenge.rw_whicheverlit_k44_whole_grids_chased.Holds := by
  w_on; o_law; k_head; (case hw => w_witness2)
  k_fill
  refine Mi.walk_G (l := PySem.Challenge.rw_whicheverlit_k44_whole_grids_chased) (n := 63) (k := 33) (x := Str.ofString "script") rfl (by decide) rfl ⟨rfl, by decide, by decide⟩ (fun w h Y => PySem.W.kIn_of Y) ?F Lw.law_true
  case F =>
    intro w mg fa h KX G hmg
    refine' _root_.G.finish KX G hmg (Mi.blt_cons ?z0 (Mi.blt_cons ?z1 (Mi.blt_cons ?z2 (Mi.blt_cons ?z3 (Mi.blt_cons ?z4 (Mi.blt_cons ?z5 (Mi.blt_cons ?z6 (Mi.blt_cons ?z7 (Mi.blt_cons ?z8 (Mi.blt_cons ?z9 (Mi.blt_cons ?z10 (Mi.blt_cons ?z11 (Mi.blt_cons ?z12 (Mi.blt_cons ?z13 (Mi.blt_cons ?z14 (Mi.blt_cons ?z15 (Mi.blt_cons ?z16 (Mi.blt_cons ?z17 (Mi.blt_cons ?z18 Mi.blt_nil))))))))))))))))))) (Mi.cst_cons (Mi.cst_str KX G ?e0) (Mi.cst_cons (Mi.cst_str KX G ?e1) (Mi.cst_cons (Mi.cst_int KX G ?e2) Mi.cst_nil))) (Mi.df_mk ?a0 ?l0 ?c0 ?k0) (Mi.df_mk ?a1 ?l1 ?c1 ?k1) (Mi.df_mk ?a2 ?l2 ?c2 ?k2) (Mi.df_mk ?a3 ?l3 ?c3 ?k3) (Mi.df_mk ?a4 ?l4 ?c4 ?k4) (Mi.df_mk ?a5 ?l5 ?c5 ?k5) (Mi.df_mk ?a6 ?l6 ?c6 ?k6) (Mi.df_mk ?a7 ?l7 ?c7 ?k7) (Mi.df_mk ?a8 ?l8 ?c8 ?k8) (Mi.df_mk ?a9 ?l9 ?c9 ?k9) (Mi.df_mk ?a10 ?l10 ?c10 ?k10) (Mi.df_mk ?a11 ?l11 ?c11 ?k11) (Mi.df_mk ?a12 ?l12 ?c12 ?k12) (Mi.df_mk ?a13 ?l13 ?c13 ?k13) (Mi.df_mk ?a14 ?l14 ?c14 ?k14) (Mi.df_mk ?a15 ?l15 ?c15 ?k15) (Mi.df_mk ?a16 ?l16 ?c16 ?k16) (Mi.df_mk ?a17 ?l17 ?c17 ?k17) (Mi.df_mk ?a18 ?l18 ?c18 ?k18) (Mi.df_mk ?a19 ?l19 ?c19 ?k19) (Mi.df_mk ?a20 ?l20 ?c20 ?k20) (Mi.df_mk ?a21 ?l21 ?c21 ?k21) (Mi.df_mk ?a22 ?l22 ?c22 ?k22) (Mi.df_mk ?a23 ?l23 ?c23 ?k23) (Mi.df_mk ?a24 ?l24 ?c24 ?k24) (Mi.df_mk ?a25 ?l25 ?c25 ?k25) (Mi.df_mk ?a26 ?l26 ?c26 ?k26) (Mi.df_mk ?a27 ?l27 ?c27 ?k27) (Mi.df_mk ?a28 ?l28 ?c28 ?k28) (Mi.df_mk ?a29 ?l29 ?c29 ?k29) (Mi.df_mk ?a30 ?l30 ?c30 ?k30) (Mi.df_mk ?a31 ?l31 ?c31 ?k31) (Mi.df_mk ?a32 ?l32 ?c32 ?k32)
    (case z0 => k_is)
    (case z1 => k_is)
    (case z2 => k_is)
    (case z3 => k_is)
    (case z4 => k_is)
    (case z5 => k_is)
    (case z6 => k_is)
    (case z7 => k_is)
    (case z8 => k_is)
    (case z9 => k_is)
    (case z10 => k_is)
    (case z11 => k_is)
    (case z12 => k_is)
    (case z13 => k_is)
    (case z14 => k_is)
    (case z15 => k_is)
    (case z16 => k_is)
    (case z17 => k_is)
    (case z18 => k_is)
    (case e0 => k_is)
    (case e1 => k_is)
    (case e2 => k_is)
    (case a0 => k_is); (case l0 => k_is); (case c0 => k_is); (case k0 => k_is)
    (case a1 => k_is); (case l1 => k_is); (case c1 => k_is); (case k1 => k_is)
    (case a2 => k_is); (case l2 => k_is); (case c2 => k_is); (case k2 => k_is)
    (case a3 => k_is); (case l3 => k_is); (case c3 => k_is); (case k3 => k_is)
    (case a4 => k_is); (case l4 => k_is); (case c4 => k_is); (case k4 => k_is)
    (case a5 => k_is); (case l5 => k_is); (case c5 => k_is); (case k5 => k_is)
    (case a6 => k_is); (case l6 => k_is); (case c6 => k_is); (case k6 => k_is)
    (case a7 => k_is); (case l7 => k_is); (case c7 => k_is); (case k7 => k_is)
    (case a8 => k_is); (case l8 => k_is); (case c8 => k_is); (case k8 => k_is)
    (case a9 => k_is); (case l9 => k_is); (case c9 => k_is); (case k9 => k_is)
    (case a10 => k_is); (case l10 => k_is); (case c10 => k_is); (case k10 => k_is)
    (case a11 => k_is); (case l11 => k_is); (case c11 => k_is); (case k11 => k_is)
    (case a12 => k_is); (case l12 => k_is); (case c12 => k_is); (case k12 => k_is)
    (case a13 => k_is); (case l13 => k_is); (case c13 => k_is); (case k13 => k_is)
    (case a14 => k_is); (case l14 => k_is); (case c14 => k_is); (case k14 => k_is)
    (case a15 => k_is); (case l15 => k_is); (case c15 => k_is); (case k15 => k_is)
    (case a16 => k_is); (case l16 => k_is); (case c16 => k_is); (case k16 => k_is)
    (case a17 => k_is); (case l17 => k_is); (case c17 => k_is); (case k17 => k_is)
    (case a18 => k_is); (case l18 => k_is); (case c18 => k_is); (case k18 => k_is)
    (case a19 => k_is); (case l19 => k_is); (case c19 => k_is); (case k19 => k_is)
    (case a20 => k_is); (case l20 => k_is); (case c20 => k_is); (case k20 => k_is)
    (case a21 => k_is); (case l21 => k_is); (case c21 => k_is); (case k21 => k_is)
    (case a22 => k_is); (case l22 => k_is); (case c22 => k_is); (case k22 => k_is)
    (case a23 => k_is); (case l23 => k_is); (case c23 => k_is); (case k23 => k_is)
    (case a24 => k_is); (case l24 => k_is); (case c24 => k_is); (case k24 => k_is)
    (case a25 => k_is); (case l25 => k_is); (case c25 => k_is); (case k25 => k_is)
    (case a26 => k_is); (case l26 => k_is); (case c26 => k_is); (case k26 => k_is)
    (case a27 => k_is); (case l27 => k_is); (case c27 => k_is); (case k27 => k_is)
    (case a28 => k_is); (case l28 => k_is); (case c28 => k_is); (case k28 => k_is)
    (case a29 => k_is); (case l29 => k_is); (case c29 => k_is); (case k29 => k_is)
    (case a30 => k_is); (case l30 => k_is); (case c30 => k_is); (case k30 => k_is)
    (case a31 => k_is); (case l31 => k_is); (case c31 => k_is); (case k31 => k_is)
    (case a32 => k_is); (case l32 => k_is); (case c32 => k_is); (case k32 => k_is)

