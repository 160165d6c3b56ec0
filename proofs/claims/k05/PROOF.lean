import PyProof.Rows.All
import Wide.All
import OpenK.AllK
import Wide.FinOn
import HandS.ForMost
import HandS.Evl
import HandS.Star
import HandS.Style
import HandS.IsInst
import HandS.TupMul
import HandS.TupAny
import HandS.Zip
import HandS.SortInts
import HandS.Wide
import HandS.RaiseMore
import HandS.SetFor
import HandS.SortRule
import HandS.NamedTupSort
import KE.KSortTupAny
import HandS.Conv
import PyProof.SeqIndex
import HandS.Comp
import HandS.EndBits
import PyProof.Rows.RegFStrParts
import PySem.Challenge.RW_whicheverlit_k05_whole_presses_and_lamps
set_option Elab.async false
set_option linter.all false
set_option maxRecDepth 100000
set_option maxHeartbeats 4000000
/-! Mi1: plain data over the hand layer's heap; environments; what a step keeps. -/
namespace Mi
open PySem PySem.Spec PyProof.Rows L2

/-- plain data: what cannot change any more (scr: the script, a locked list of ints) -/
inductive D where
  | non | bl (b : Bool) | int (i : Int) | str (x : Str) | tup (ds : List D) | wtup (ds : List D) | lst (ds : List D) | scr (ns : List Int)
  deriving Inhabited

/-- a tuple's object that is known but for its items -/
def ExT (o : Obj) : Prop := o.cls = .type "tuple" ∧ o.dict = none
/- tuples (tup) are known to the object; pairs of a walk (wtup) are not -/
mutual
inductive Rp (K : PySem.W.Frag) (B : Hp) : V → D → Prop
  | non : Rp K B .non .non
  | bl (b : Bool) : Rp K B (.bl b) (.bl b)
  | int (i : Int) : Rp K B (.int i) (.int i)
  | str (x : Str) : Rp K B (.str x) (.str x)
  | tup {a : Addr} {o : Obj} {xs : List V} {ds : List D} : ExT o → B a = some (.frz o (.tup xs)) → RpA K B xs ds → Rp K B (.ref a) (.tup ds)
  | wtup {a : Addr} {xs : List V} {ds : List D} : B a = some (.tup xs) → RpA K B xs ds → Rp K B (.ref a) (.wtup ds)
  | lst {a : Addr} {xs : List V} {ds : List D} : B a = some (.lst xs) → RpA K B xs ds → Rp K B (.ref a) (.lst ds)
  | scr {a : Addr} {ns : List Int} : SqL K B a (ns.map V.int) → Rp K B (.ref a) (.scr ns)
inductive RpA (K : PySem.W.Frag) (B : Hp) : List V → List D → Prop
  | nil : RpA K B [] []
  | cons {v : V} {vs : List V} {d : D} {ds : List D} : Rp K B v d → RpA K B vs ds → RpA K B (v :: vs) (d :: ds)
end

/-- all that is in B is in H -/
abbrev Sub (B H : Hp) : Prop := ∀ a o, B a = some o → H a = some o
theorem Sub.refl (B : Hp) : Sub B B := fun _ _ h => h
theorem Sub.trans {A B C : Hp} (x : Sub A B) (y : Sub B C) : Sub A C := fun a o h => y a o (x a o h)
theorem Sub.seqL {K : PySem.W.Frag} {B H : Hp} {a : Addr} {xs : List V} (e : Sub B H) (h : SqL K B a xs) : SqL K H a xs := Evl.ex_l e h
theorem Sub.seqT {K : PySem.W.Frag} {B H : Hp} {a : Addr} {xs : List V} (e : Sub B H) (h : SqT K B a xs) : SqT K H a xs := Evl.ex_t e h
theorem Sub.new {H : Hp} {p : Addr} {o : HO} (h : H p = none) : Sub H (upd H p o) := Evl.Ex.new h
theorem Sub.upd {B H : Hp} {p : Addr} {o : HO} (s : Sub B H) : Sub (upd B p o) (upd H p o) := fun a u h => by
  by_cases e : a = p
  · subst e; rw [upd_same] at h ⊢; exact h
  · rw [upd_ne e] at h ⊢; exact s a u h
theorem Sub.updR {B H : Hp} {p : Addr} {o : HO} (s : Sub B H) (n : B p = none) : Sub B (L2.upd H p o) := fun a u h => by
  by_cases e : a = p
  · subst e; rw [n] at h; cases h
  · rw [upd_ne e]; exact s a u h
theorem Sub.updL {B H : Hp} {p : Addr} {o : HO} (s : Sub B H) (n : H p = some o) : Sub (L2.upd B p o) H := fun a u h => by
  by_cases e : a = p
  · subst e; rw [upd_same] at h; rw [n, h]
  · rw [upd_ne e] at h; exact s a u h
theorem Sub.none {B H : Hp} (s : Sub B H) {p : Addr} (n : H p = none) : B p = none := Evl.fresh_back s n

mutual
theorem Rp.mono {K : PySem.W.Frag} {B B' : Hp} (e : Sub B B') : ∀ {v : V} {d : D}, Rp K B v d → Rp K B' v d
  | _, _, .non => .non
  | _, _, .bl b => .bl b
  | _, _, .int i => .int i
  | _, _, .str x => .str x
  | _, _, .tup x h a => .tup x (e _ _ h) (a.mono e)
  | _, _, .wtup h a => .wtup (e _ _ h) (a.mono e)
  | _, _, .lst h a => .lst (e _ _ h) (a.mono e)
  | _, _, .scr h => .scr (e.seqL h)
theorem RpA.mono {K : PySem.W.Frag} {B B' : Hp} (e : Sub B B') : ∀ {vs : List V} {ds : List D}, RpA K B vs ds → RpA K B' vs ds
  | _, _, .nil => .nil
  | _, _, .cons h a => .cons (h.mono e) (a.mono e)
end

section
variable {K : PySem.W.Frag} {B B' H H' : Hp}
theorem RpA.length : ∀ {vs : List V} {ds : List D}, RpA K B vs ds → vs.length = ds.length
  | _, _, .nil => rfl
  | _, _, .cons _ a => by rw [List.length_cons, List.length_cons, a.length]
theorem RpA.get : ∀ {vs : List V} {ds : List D} {i : Nat} {d : D}, RpA K B vs ds → ds[i]? = some d → ∃ v, vs[i]? = some v ∧ Rp K B v d
  | _, _, _, _, .nil, h => by simp at h
  | _, _, 0, _, .cons r _, h => by simp at h; subst h; exact ⟨_, rfl, r⟩
  | _, _, i + 1, _, .cons _ a, h => by
    obtain ⟨v, h1, h2⟩ := a.get (i := i) (by simpa using h)
    exact ⟨v, by simpa using h1, h2⟩
theorem RpA.getV : ∀ {vs : List V} {ds : List D} {i : Nat} {v : V}, RpA K B vs ds → vs[i]? = some v → ∃ d, ds[i]? = some d ∧ Rp K B v d
  | _, _, _, _, .nil, h => by simp at h
  | _, _, 0, _, .cons r _, h => by simp at h; subst h; exact ⟨_, rfl, r⟩
  | _, _, i + 1, _, .cons _ a, h => by
    obtain ⟨v, h1, h2⟩ := a.getV (i := i) (by simpa using h)
    exact ⟨v, by simpa using h1, h2⟩
theorem RpA.app : ∀ {vs ws : List V} {ds es : List D}, RpA K B vs ds → RpA K B ws es → RpA K B (vs ++ ws) (ds ++ es)
  | _, _, _, _, .nil, b => b
  | _, _, _, _, .cons r a, b => .cons r (a.app b)
theorem RpA.one {v : V} {d : D} (h : Rp K B v d) : RpA K B [v] [d] := .cons h .nil
theorem RpA.take (n : Nat) : ∀ {vs : List V} {ds : List D}, RpA K B vs ds → RpA K B (vs.take n) (ds.take n) := by
  induction n with
  | zero => intro vs ds _; exact .nil
  | succ n ih =>
    intro vs ds h
    cases h with
    | nil => exact .nil
    | cons r a => exact .cons r (ih a)
theorem RpA.drop (n : Nat) : ∀ {vs : List V} {ds : List D}, RpA K B vs ds → RpA K B (vs.drop n) (ds.drop n) := by
  induction n with
  | zero => intro vs ds h; exact h
  | succ n ih =>
    intro vs ds h
    cases h with
    | nil => exact .nil
    | cons r a => exact ih a
theorem RpA.set {v : V} {d : D} (r : Rp K B v d) : ∀ {vs : List V} {ds : List D} (i : Nat), RpA K B vs ds → RpA K B (vs.set i v) (ds.set i d)
  | _, _, _, .nil => .nil
  | _, _, 0, .cons _ a => .cons r a
  | _, _, i + 1, .cons q a => .cons q (a.set r i)
theorem RpA.erase : ∀ {vs : List V} {ds : List D} (i : Nat), RpA K B vs ds → RpA K B (vs.eraseIdx i) (ds.eraseIdx i)
  | _, _, _, .nil => .nil
  | _, _, 0, .cons _ a => a
  | _, _, i + 1, .cons q a => .cons q (a.erase i)
theorem RpA.dropLast : ∀ {vs : List V} {ds : List D}, RpA K B vs ds → RpA K B vs.dropLast ds.dropLast
  | _, _, .nil => .nil
  | _, _, .cons q .nil => .nil
  | _, _, .cons q (.cons r a) => .cons q (RpA.dropLast (.cons r a))
theorem RpA.rep {v : V} {d : D} (r : Rp K B v d) : ∀ n, RpA K B (List.replicate n v) (List.replicate n d)
  | 0 => .nil
  | n + 1 => .cons r (RpA.rep r n)
theorem RpA.ints : ∀ {vs : List V} {ns : List Int}, RpA K B vs (ns.map D.int) → vs = ns.map V.int
  | _, [], .nil => rfl
  | _, n :: ns, .cons r a => by cases r; rw [List.map_cons, a.ints]
theorem RpA.ofInts : ∀ (ns : List Int), RpA K B (ns.map V.int) (ns.map D.int)
  | [] => .nil
  | n :: ns => .cons (.int n) (RpA.ofInts ns)
theorem RpA.bls : ∀ {vs : List V} {ns : List Bool}, RpA K B vs (ns.map D.bl) → vs = ns.map V.bl
  | _, [], .nil => rfl
  | _, n :: ns, .cons r a => by cases r; rw [List.map_cons, a.bls]
end

/-! ### to the library's data -/
theorem st_frz {K : PySem.W.Frag} {H : Hp} {a : Addr} {o : Obj} {xs : List V} (h : H a = some (.frz o (.tup xs))) : SqT K H a xs := .inl (.inr ⟨o, h⟩)
mutual
def D.py : D → PyData
  | .non => .none
  | .bl b => .bool b
  | .int i => .int i
  | .str x => .str x
  | .tup ds => .tuple (D.pyA ds)
  | .wtup ds => .tuple (D.pyA ds)
  | .lst ds => .list (D.pyA ds)
  | .scr ns => .list (ns.map PyData.int)
def D.pyA : List D → List PyData
  | [] => []
  | d :: ds => d.py :: D.pyA ds
end
theorem dp_ints {K : PySem.W.Frag} {H : Hp} : ∀ ns : List Int, DpAll K H (ns.map V.int) (ns.map PyData.int)
  | [] => .nil
  | n :: ns => .cons (.int n) (dp_ints ns)
mutual
theorem Rp.dp {K : PySem.W.Frag} {B : Hp} : ∀ {v : V} {d : D}, Rp K B v d → Dp K B v d.py
  | _, _, .non => .non
  | _, _, .bl b => .bl b
  | _, _, .int i => .int i
  | _, _, .str x => .str x
  | _, _, .tup _ h a => .tup (st_frz h) a.dp
  | _, _, .wtup h a => .tup (Evl.st_of h) a.dp
  | _, _, .lst h a => .lst (Evl.sq_of h) a.dp
  | _, _, .scr h => .lst h (dp_ints _)
theorem RpA.dp {K : PySem.W.Frag} {B : Hp} : ∀ {vs : List V} {ds : List D}, RpA K B vs ds → DpAll K B vs (D.pyA ds)
  | _, _, .nil => .nil
  | _, _, .cons h a => .cons h.dp a.dp
end

/-! ### environments -/
/-- what a mutable object holds -/
inductive MO where
  | lst (ds : List D)
  | dK (kvs : List (Key × D))
  | dT (kvs : List (List Key × D))
  deriving Inhabited
/-- a slot: not known; data; a mutable object that no one else holds (fz: it may be given away), the same locked (a walk goes over it) -/
inductive Slot where
  | un | dat (d : D) | own (fz : Bool) (m : MO) | lck (fz : Bool) (m : MO)
  deriving Inhabited
abbrev En := List Slot

def MOk (K : PySem.W.Frag) (B : Hp) (o : HO) : MO → Prop
  | .lst ds => ∃ xs, o = .lst xs ∧ RpA K B xs ds
  | .dK kvs => ∃ ws, o = .dK ws ∧ Paired (fun (p : Key × V) (q : Key × D) => p.1 = q.1 ∧ Rp K B p.2 q.2) ws kvs
  | .dT kvs => ∃ ws, o = .dT ws ∧ Paired (fun (p : List Key × V) (q : List Key × D) => p.1 = q.1 ∧ Rp K B p.2 q.2) ws kvs
theorem MOk.mono {K : PySem.W.Frag} {B B' : Hp} (e : Sub B B') {o : HO} : ∀ {m : MO}, MOk K B o m → MOk K B' o m
  | .lst _, ⟨xs, h, a⟩ => ⟨xs, h, a.mono e⟩
  | .dK _, ⟨ws, h, a⟩ => ⟨ws, h, Paired.mapP a fun _ _ z => ⟨z.1, z.2.mono e⟩⟩
  | .dT _, ⟨ws, h, a⟩ => ⟨ws, h, Paired.mapP a fun _ _ z => ⟨z.1, z.2.mono e⟩⟩

/-- the address in slot i -/
abbrev At (σ : L2.St) (i : Nat) (p : Addr) : Prop := σ[i]? = some (some (.ref p))
/-- the addresses that the code at hand may write to -/
def Own (σ : L2.St) (env : En) (p : Addr) : Prop := ∃ (i : Nat) (fz : Bool) (m : MO), env[i]? = some (.own fz m) ∧ At σ i p

def Slot.mut : Slot → Bool
  | .own _ _ => true
  | .lck _ _ => true
  | _ => false
/-- how a locked object stands on the heap -/
def LkH (H : Hp) (p : Addr) (o : HO) : MO → Prop
  | .lst _ => H p = some o
  | _ => Rd H p o
theorem LkH.rd {H : Hp} {p : Addr} {o : HO} {m : MO} (h : LkH H p o m) : Rd H p o := by
  cases m with
  | lst _ => exact .inl h
  | dK _ => exact h
  | dT _ => exact h
theorem LkH.mono {H H' : Hp} {p : Addr} {o : HO} {m : MO} (h : LkH H p o m) (k : ∀ u, H p = some u → H' p = some u) : LkH H' p o m := by
  cases m with
  | lst _ => exact k _ h
  | dK _ => exact h.elim (fun h => .inl (k _ h)) fun ⟨u, h⟩ => .inr ⟨u, k _ h⟩
  | dT _ => exact h.elim (fun h => .inl (k _ h)) fun ⟨u, h⟩ => .inr ⟨u, k _ h⟩
/-- the environment reads the slots: data in B, owned objects outside of it -/
structure RE (K : PySem.W.Frag) (σ : L2.St) (H B : Hp) (env : En) : Prop where
  sub : Sub B H
  len : env.length = σ.length
  dat : ∀ {i : Nat} {d}, env[i]? = some (Slot.dat d) → ∃ v, σ[i]? = some (some v) ∧ Rp K B v d
  own : ∀ {i : Nat} {fz m}, env[i]? = some (Slot.own fz m) → ∃ p o, At σ i p ∧ B p = none ∧ H p = some o ∧ MOk K B o m
  lck : ∀ {i : Nat} {fz m}, env[i]? = some (Slot.lck fz m) → ∃ p o, At σ i p ∧ B p = none ∧ LkH H p o m ∧ MOk K B o m
  apart : ∀ {i j : Nat} {s t p}, env[i]? = some s → env[j]? = some t → s.mut = true → t.mut = true → At σ i p → At σ j p → i = j

/-- what evaluating keeps: data stay, what is not owned stays, new data are new (or were owned and may be given away) -/
structure Stp (σ : L2.St) (H B : Hp) (env : En) (H' B' : Hp) (env' : En) : Prop where
  bb : Sub B B'
  th : ∀ {a}, H' a = none → H a = none
  fr : ∀ {a o}, H a = some o → ¬ Own σ env a → H' a = some o
  fre : ∀ {a o}, B' a = some o → (∃ u, B a = some u) ∨ H a = none ∨ ∃ (i : Nat) (m : MO), env[i]? = some (Slot.own true m) ∧ At σ i a
  ow : ∀ {i : Nat} {fz m}, env'[i]? = some (Slot.own fz m) → ∃ m', env[i]? = some (Slot.own fz m')
  lk : ∀ {i : Nat} {fz m}, env'[i]? = some (Slot.lck fz m) ↔ env[i]? = some (Slot.lck fz m)

section
variable {K : PySem.W.Frag} {σ : L2.St} {H B H' B' H2 B2 : Hp} {env env' env2 : En}
theorem Stp.refl : Stp σ H B env H B env := ⟨Sub.refl B, fun h => h, fun h _ => h, fun h => .inl ⟨_, h⟩, fun h => ⟨_, h⟩, Iff.rfl⟩
theorem Stp.own (s : Stp σ H B env H' B' env') {a : Addr} (h : Own σ env' a) : Own σ env a := by
  obtain ⟨i, fz, m, e, p⟩ := h
  obtain ⟨m', e'⟩ := s.ow e
  exact ⟨i, fz, m', e', p⟩
theorem Stp.trans (s : Stp σ H B env H' B' env') (t : Stp σ H' B' env' H2 B2 env2) : Stp σ H B env H2 B2 env2 where
  bb := s.bb.trans t.bb
  th := fun h => s.th (t.th h)
  fr := fun h n => t.fr (s.fr h n) fun z => n (s.own z)
  fre := fun {a o} h => by
    rcases t.fre h with ⟨u, x⟩ | x | ⟨i, m, x, y⟩
    · exact s.fre x
    · exact .inr (.inl (s.th x))
    · obtain ⟨m', e'⟩ := s.ow x
      exact .inr (.inr ⟨i, m', e', y⟩)
  ow := fun h => by
    obtain ⟨m', e'⟩ := t.ow h
    exact s.ow e'
  lk := t.lk.trans s.lk
/-- what the heap grows by: the rest stands -/
structure Gr (H B H' B' : Hp) : Prop where
  hh : Sub H H'
  bb : Sub B B'
  bh : Sub B' H'
  fre : ∀ {a o}, B' a = some o → (∃ u, B a = some u) ∨ H a = none
theorem Gr.refl (s : Sub B H) : Gr H B H B := ⟨Sub.refl H, Sub.refl B, s, fun h => .inl ⟨_, h⟩⟩
theorem Gr.trans (s : Gr H B H' B') (t : Gr H' B' H2 B2) : Gr H B H2 B2 := ⟨s.hh.trans t.hh, s.bb.trans t.bb, t.bh, fun h => by
  rcases t.fre h with ⟨u, x⟩ | x
  · exact s.fre x
  · exact .inr (s.hh.none x)⟩
theorem Gr.new (s : Sub B H) {p : Addr} {o : HO} (n : H p = none) : Gr H B (upd H p o) (upd B p o) :=
  ⟨Sub.new n, Sub.new (s.none n), s.upd, fun {a u} h => by
    by_cases e : a = p
    · subst e; exact .inr n
    · rw [upd_ne e] at h; exact .inl ⟨_, h⟩⟩
/-- .. by an object that no data speak of -/
theorem Gr.newH (s : Sub B H) {p : Addr} {o : HO} (n : H p = none) : Gr H B (upd H p o) B :=
  ⟨Sub.new n, Sub.refl B, s.trans (Sub.new n), fun h => .inl ⟨_, h⟩⟩
theorem Gr.stp (g : Gr H B H' B') : Stp σ H B env H' B' env :=
  ⟨g.bb, fun h => g.hh.none h, fun h _ => g.hh _ _ h, fun h => by
    rcases g.fre h with x | x
    · exact .inl x
    · exact .inr (.inl x), fun h => ⟨_, h⟩, Iff.rfl⟩
theorem Gr.out (g : Gr H B H' B') {p : Addr} {o : HO} (h : H p = some o) (b : B p = none) : B' p = none := by
  cases q : B' p with
  | none => rfl
  | some u =>
    rcases g.fre q with ⟨w, x⟩ | x
    · rw [b] at x; cases x
    · rw [h] at x; cases x
theorem RE.grow (R : RE K σ H B env) (g : Gr H B H' B') : RE K σ H' B' env where
  sub := g.bh
  len := R.len
  dat := fun h => by
    obtain ⟨v, e, r⟩ := R.dat h
    exact ⟨v, e, r.mono g.bb⟩
  own := fun h => by
    obtain ⟨p, o, a, b, c, m⟩ := R.own h
    exact ⟨p, o, a, g.out c b, g.hh _ _ c, m.mono g.bb⟩
  lck := fun h => by
    obtain ⟨p, o, a, b, c, m⟩ := R.lck h
    refine ⟨p, o, a, ?_, c.mono fun u h => g.hh _ _ h, m.mono g.bb⟩
    rcases c.rd with c | ⟨u, c⟩
    · exact g.out c b
    · exact g.out c b
  apart := R.apart
theorem Stp.none (s : Stp σ H B env H' B' env') {p : Addr} {o : HO} (h : H p = some o) (b : B p = none) (n : ¬ Own σ env p) : B' p = none := by
  cases q : B' p with
  | none => rfl
  | some u =>
    rcases s.fre q with ⟨w, x⟩ | x | ⟨i, m, x, y⟩
    · rw [b] at x; cases x
    · rw [h] at x; cases x
    · exact absurd ⟨i, true, m, x, y⟩ n
end
end Mi

/-! Mi2: a small language over plain data and what it evaluates to. -/
namespace Mi
open PySem PySem.Spec PyProof.Rows L2

inductive BO where | add | sub | mul | fdiv | mod | pow
  deriving DecidableEq, Inhabited
inductive CO where | eq | ne | lt | le | gt | ge | is_ | isn | in_ | nin
  deriving DecidableEq, Inhabited
inductive BI where | len | sum | all | any | int | abs | list | tuple | sorted | max2 | min2 | max1 | min1 | repr | isi (t : String)
  deriving DecidableEq, Inhabited
inductive MT where | append | extend | pop | popAt
  deriving DecidableEq, Inhabited
/-- a target -/
inductive T where | nm (i : Nat) | tp (ts : T) | nil | cons (t ts : T)
  deriving Inhabited
inductive E where
  | var (i : Nat) | cst (d : D) | tup (es : E) | lst (es : E)
  | anil | acons (e es : E) | astar (e es : E)
  | bin (o : BO) (a b : E) | neg (a : E) | cmp (o : CO) (a b : E) | chn (o o' : CO) (a b c : E)
  | and (a b : E) | or (a b : E) | not (a : E) | ite (c a b : E)
  | ix (a i : E) | slc (a lo hi : E) | gone
  | call (f : Nat) (es : E) | callk (f : Nat) (pm : List Nat) (es : E) | bi (b : BI) (es : E) | mth (m : MT) (r es : E) | mq (i : Bool) (a b : E) | dget (o k d : E)
  | lc (vs : List Nat) (tg : T) (it cs elt : E)
  | sumL (e : E) | rng (es : E) | lrng (es : E) | enm (e : E) | zip (a b : E) | items (e : E) | dnew (t : Bool)
  deriving Inhabited
inductive S where
  | nop | seq (a b : S) | exp (e : E) | asg (t : T) (e : E) | par (is : List Nat) (es : E) | put (o i v : E)
  | ret (e : E) | retN | ite (c : E) (a b : S) | whl (n : Nat) (c : E) (b : S) | for_ (t : T) (it : E) (b : S) | brk | cnt | never | wipe (vs : List Nat)
  deriving Inhabited

/-- what an expression gives: data; the object of a slot; an object that is new and no one's -/
inductive P where | val (d : D) | slot (i : Nat) | new (m : MO) | its (xs : List D)
  deriving Inhabited
inductive Arg where | dat (d : D) | own (m : MO)
  deriving Inhabited
inductive Ret where | val (d : D) | new (m : MO)
  deriving Inhabited
inductive Out where | nx (e : En) | rt (r : Ret) (e : En) | bk (e : En) | ct (e : En)
  deriving Inhabited
abbrev Fn := List Arg → Option (Ret × List MO)

/-- look at it: a list that is owned is looked at as it is now -/
def pk : P → En → Option D
  | .val d, _ => some d
  | .slot i, env => match env[i]? with
    | some (.own _ (.lst ds)) => some (.lst ds)
    | some (.lck _ (.lst ds)) => some (.lst ds)
    | some (.dat d) => some d
    | _ => none
  | .new (.lst ds), _ => some (.lst ds)
  | .new _, _ => none
  | .its _, _ => none
/-- give it away: from now on no one changes it -/
def fz : P → En → Option (D × En)
  | .val d, env => some (d, env)
  | .slot i, env => match env[i]? with
    | some (.own true (.lst ds)) => some (.lst ds, env.set i (.dat (.lst ds)))
    | some (.dat d) => some (d, env)
    | _ => none
  | .new (.lst ds), env => some (.lst ds, env)
  | .new _, _ => none
  | .its _, _ => none
def fzs : List P → En → Option (List D × En)
  | [], env => some ([], env)
  | p :: ps, env => match fz p env with
    | some (d, e1) => match fzs ps e1 with
      | some (ds, e2) => some (d :: ds, e2)
      | none => none
    | none => none
def pks : List P → En → Option (List D)
  | [], _ => some []
  | p :: ps, env => match pk p env with
    | some d => match pks ps env with
      | some ds => some (d :: ds)
      | none => none
    | none => none

/-- a size that is surely within the line -/
abbrev lim : Nat := 4000000
/-- data that may be compared: n levels at most -/
def D.ok : Nat → D → Bool
  | _, .non => true
  | _, .bl _ => true
  | _, .int _ => true
  | _, .str x => PyData.strOk x
  | 0, _ => false
  | n + 1, .tup ds => ds.all (D.ok n)
  | n + 1, .lst ds => ds.all (D.ok n)
  | _, .scr _ => false
  | _, .wtup _ => false

def binOp : BO → D → D → Option P
  | .add, .int i, .int j => some (.val (.int (i + j)))
  | .add, .str x, .str y => if x.length + y.length ≤ lim then some (.val (.str (x ++ y))) else none
  | .add, .lst xs, .lst ys => if xs.length + ys.length ≤ lim then some (.new (.lst (xs ++ ys))) else none
  | .add, .tup xs, .tup ys => if xs.length + ys.length ≤ lim then some (.val (.tup (xs ++ ys))) else none
  | .sub, .int i, .int j => some (.val (.int (i - j)))
  | .mul, .int i, .int j => if i.natAbs.log2 + j.natAbs.log2 < 1000000 then some (.val (.int (i * j))) else none
  | .mul, .lst xs, .int k => if 0 ≤ k ∧ k ≤ 1000 ∧ xs.length ≤ 1000 then some (.new (.lst (List.replicate k.toNat xs).flatten)) else none
  | .mul, .tup xs, .int k => if xs ≠ [] ∧ 1 ≤ k ∧ k ≤ 1000 ∧ xs.length ≤ 1000 then some (.val (.tup (List.replicate k.toNat xs).flatten)) else none
  | .fdiv, .int i, .int j => if j ≠ 0 ∧ j.natAbs.log2 < 9000 then some (.val (.int (i.fdiv j))) else none
  | .mod, .int i, .int j => if j ≠ 0 then some (.val (.int (i.fmod j))) else none
  | .pow, .int i, .int j => if 2 ≤ i ∧ 1 ≤ j ∧ j ≤ 1000 ∧ i.natAbs.log2 < 4000 then some (.val (.int (i ^ j.toNat))) else none
  | _, _, _ => none

def D.isFlat : D → Bool
  | .non => true | .bl _ => true | .int _ => true | .str _ => true | _ => false
def D.isNon : D → Bool
  | .non => true
  | _ => false
def D.toInt? : D → Option Int
  | .int i => some i
  | _ => none
def D.toBl? : D → Option Bool
  | .bl b => some b
  | _ => none
def intsOf : List D → Option (List Int)
  | [] => some []
  | d :: ds => match d.toInt?, intsOf ds with
    | some i, some ns => some (i :: ns)
    | _, _ => none
def blsOf : List D → Option (List Bool)
  | [] => some []
  | d :: ds => match d.toBl?, blsOf ds with
    | some i, some ns => some (i :: ns)
    | _, _ => none
def D.lstOf? : D → Option (List D)
  | .lst ds => some ds
  | _ => none
def lstsOf : List D → Option (List (List D))
  | [] => some []
  | d :: ds => match d.lstOf?, lstsOf ds with
    | some i, some ns => some (i :: ns)
    | _, _ => none
/-- the items of a list or tuple -/
def D.seq? : D → Option (List D)
  | .lst ds => some ds
  | .tup ds => some ds
  | _ => none

def eqOp (a b : D) : Option Bool := if a.ok 9 && b.ok 9 then some (PyData.eqv a.py b.py) else none
def inOp (a b : D) : Option Bool := match b.seq? with
  | some ds => if a.ok 9 && ds.all (D.ok 9) then some (ds.any fun d => PyData.eqv d.py a.py) else none
  | none => none
def cmpOp : CO → D → D → Option Bool
  | .eq, a, b => eqOp a b
  | .ne, a, b => (eqOp a b).map (!·)
  | .lt, .int i, .int j => some (decide (i < j))
  | .le, .int i, .int j => some (decide (i ≤ j))
  | .gt, .int i, .int j => some (decide (j < i))
  | .ge, .int i, .int j => some (decide (j ≤ i))
  | .lt, .tup xs, .tup ys => match intsOf xs, intsOf ys with
    | some ns, some ms => some (HT.lexLt ns ms)
    | _, _ => none
  | .is_, a, .non => some a.isNon
  | .isn, a, .non => some (!a.isNon)
  | .in_, a, b => inOp a b
  | .nin, a, b => (inOp a b).map (!·)
  | _, _, _ => none

/-- how often y stands in ds; where it stands first -/
def qOp (i : Bool) (ds : List D) (y : D) : Option Int :=
  if y.ok 9 && ds.all (D.ok 9) then (if i then (ds.findIdx? fun d => PyData.eqv d.py y.py).map Int.ofNat else some (ds.countP fun d => PyData.eqv d.py y.py : Nat)) else none

/-- ascending, as sorted gives it -/
def insI (x : Int) : List Int → List Int
  | [] => [x]
  | y :: ys => if x ≤ y then x :: y :: ys else y :: insI x ys
def sortI : List Int → List Int
  | [] => []
  | x :: xs => insI x (sortI xs)
def D.pr? : D → Option (Int × Int)
  | .tup ds => match ds with
    | [a, b] => match a.toInt?, b.toInt? with
      | some i, some j => some (i, j)
      | _, _ => none
    | _ => none
  | _ => none
def prsOf : List D → Option (List (Int × Int))
  | [] => some []
  | d :: ds => match d.pr?, prsOf ds with
    | some i, some ns => some (i :: ns)
    | _, _ => none
def prD (p : Int × Int) : D := .tup [.int p.1, .int p.2]
def leP (p q : Int × Int) : Bool := decide (p.1 < q.1) || (decide (p.1 = q.1) && decide (p.2 ≤ q.2))
def insP (x : Int × Int) : List (Int × Int) → List (Int × Int)
  | [] => [x]
  | y :: ys => if leP x y then x :: y :: ys else y :: insP x ys
def sortP : List (Int × Int) → List (Int × Int)
  | [] => []
  | x :: xs => insP x (sortP xs)
def D.ints? : D → Option (List Int)
  | .tup ds => intsOf ds
  | _ => none
def tupsOf : List D → Option (List (List Int))
  | [] => some []
  | d :: ds => match d.ints?, tupsOf ds with
    | some i, some ns => some (i :: ns)
    | _, _ => none
def tupI (ns : List Int) : D := .tup (ns.map D.int)
def leT (a b : List Int) : Bool := !HT.lexLt b a
def insT (x : List Int) : List (List Int) → List (List Int)
  | [] => [x]
  | y :: ys => if leT x y then x :: y :: ys else y :: insT x ys
def sortT : List (List Int) → List (List Int)
  | [] => []
  | x :: xs => insT x (sortT xs)
def D.okRepr (d : D) : Bool := d.py.showable && decide (d.py.shown.length ≤ sizeLine) && decide (d.py.depth ≤ 64) && (!d.py.hasDict) && (match d with | .tup _ => true | .lst _ => true | .bl _ => true | .non => true | .int i => decide (i.natAbs.log2 < 1920) | _ => false)
def kindOf : D → String
  | .non => "NoneType" | .bl _ => "bool" | .int _ => "int" | .str _ => "str" | .tup _ => "tuple" | .wtup _ => "tuple" | .lst _ => "list" | .scr _ => "list"

/-- isinstance for the built-in classes that occur -/
def D.isA (d : D) (t : String) : Bool := match d with
  | .bl _ => t == "bool" || t == "int"
  | .non => false
  | .int _ => t == "int"
  | .str _ => t == "str"
  | .tup _ => t == "tuple"
  | .wtup _ => t == "tuple"
  | .lst _ => t == "list"
  | .scr _ => t == "list"

def biOp : BI → List D → Option P
  | .len, [.tup ds] => some (.val (.int ds.length))
  | .len, [.lst ds] => some (.val (.int ds.length))
  | .len, [.scr ns] => some (.val (.int ns.length))
  | .len, [.str x] => if x.length ≤ lim then some (.val (.int x.length)) else none
  | .sum, [.lst ds] => match intsOf ds with
    | some ns => some (.val (.int ns.sum))
    | none => none
  | .all, [.lst ds] => match blsOf ds with
    | some bs => some (.val (.bl (bs.all id)))
    | none => none
  | .any, [.lst ds] => match blsOf ds with
    | some bs => some (.val (.bl (bs.any id)))
    | none => none
  | .int, [.int i] => some (.val (.int i))
  | .int, [.bl b] => some (.val (.int (if b then 1 else 0)))
  | .abs, [.int i] => some (.val (.int (if i < 0 then -i else i)))
  | .list, [.lst ds] => some (.new (.lst ds))
  | .list, [.tup ds] => some (.new (.lst ds))
  | .tuple, [.lst ds] => some (.val (.tup ds))
  | .tuple, [.tup ds] => some (.val (.tup ds))
  | .sorted, [.lst ds] => match intsOf ds with
    | some ns => some (.new (.lst ((sortI ns).map D.int)))
    | none => match prsOf ds with
      | some ps => some (.new (.lst ((sortP ps).map prD)))
      | none => match tupsOf ds with
        | some ts => some (.new (.lst ((sortT ts).map tupI)))
        | none => none
  | .max2, [.int i, .int j] => some (.val (.int (if j > i then j else i)))
  | .min2, [.int i, .int j] => some (.val (.int (if j < i then j else i)))
  | .repr, [d] => if d.okRepr then some (.val (.str d.py.shown)) else none
  | .isi t, [d] => if t = "int" ∨ t = "bool" ∨ t = "str" ∨ t = "tuple" ∨ t = "list" then some (.val (.bl (d.isA t))) else none
  | _, _ => none

/-! ### dicts -/
def valD {κ : Type} [DecidableEq κ] : List (κ × D) → κ → Option D
  | [], _ => none
  | (k, d) :: r, x => if k = x then some d else valD r x
def putD {κ : Type} [DecidableEq κ] (kvs : List (κ × D)) (x : κ) (v : D) : List (κ × D) :=
  if (kvs.any fun kv => decide (kv.1 = x)) = true then kvs.map (fun kv => if kv.1 = x then (kv.1, v) else kv) else kvs ++ [(x, v)]
def D.key? : D → Option Key
  | .int i => some (.inl i)
  | .str x => some (.inr x)
  | _ => none
def keysOf : List D → Option (List Key)
  | [] => some []
  | d :: ds => match d.key?, keysOf ds with
    | some k, some ks => some (k :: ks)
    | _, _ => none
def dlook (m : MO) (k : D) : Option (Option D) := match m, k with
  | .dK kvs, .int i => some (valD kvs (.inl i))
  | .dK kvs, .str x => some (valD kvs (.inr x))
  | .dT kvs, .wtup ds => (keysOf ds).map fun ks => valD kvs ks
  | _, _ => none
def dput (m : MO) (k v : D) : Option MO := match m, k with
  | .dK kvs, .int i => if kvs.length < lim then some (.dK (putD kvs (.inl i) v)) else none
  | .dK kvs, .str x => if kvs.length < lim then some (.dK (putD kvs (.inr x) v)) else none
  | .dT kvs, .wtup ds => match keysOf ds with
    | some ks => if kvs.length < lim then some (.dT (putD kvs ks v)) else none
    | none => none
  | _, _ => none
def keyD : Key → D
  | .inl i => .int i
  | .inr x => .str x
def lstIn (i : Nat) (env : En) : Bool := match env[i]? with
  | some (.own _ (.lst _)) => true
  | _ => false
def Slot.mo? : Slot → Option MO
  | .own _ m => some m
  | .lck _ m => some m
  | _ => none
def dictIn (i : Nat) (env : En) : Bool := match env[i]?.bind Slot.mo? with
  | some (.dK _) => true
  | some (.dT _) => true
  | _ => false
def dkeys : MO → Option (List D)
  | .dK kvs => some (kvs.map fun p => keyD p.1)
  | _ => none
/-- x in d, x not in d -/
def dcmp (o : CO) (p q : P) (env : En) : Option (P × En) := match o, p, q with
  | .in_, .val k, .slot i => match env[i]?.bind Slot.mo? with
    | some m => match dlook m k with
      | some r => some (.val (.bl r.isSome), env)
      | none => none
    | none => none
  | .nin, .val k, .slot i => match env[i]?.bind Slot.mo? with
    | some m => match dlook m k with
      | some r => some (.val (.bl (!r.isSome)), env)
      | none => none
    | none => none
  | _, _, _ => none
/-- d[k] -/
def dix (p : P) (k : D) (env : En) : Option D := match p with
  | .slot i => match env[i]?.bind Slot.mo? with
    | some m => match dlook m k with
      | some (some d) => some d
      | _ => none
    | none => none
  | _ => none
/-- an index of either sign -/
def ixOp : D → D → Option D
  | .tup ds, .int i => atI ds i
  | .lst ds, .int i => atI ds i
  | .scr ns, .int i => (atI ns i).map D.int
  | _, _ => none
def cutD (xs : List D) (lo hi : Option Int) : List D := (xs.drop (HT.sIx xs.length 0 lo)).take (HT.sIx xs.length xs.length hi - HT.sIx xs.length 0 lo)
def slcOp : D → Option Int → Option Int → Option P
  | .tup ds, lo, hi => some (.val (.tup (cutD ds lo hi)))
  | .lst ds, lo, hi => some (.new (.lst (cutD ds lo hi)))
  | .scr ns, lo, hi => some (.new (.lst (cutD (ns.map D.int) lo hi)))
  | _, _, _ => none

/-! ### targets -/
def Slot.free : Slot → Bool
  | .own false _ => false
  | .lck _ _ => false
  | _ => true
def setS (i : Nat) (s : Slot) (env : En) : Option En := match env[i]? with
  | some t => if t.free then some (env.set i s) else none
  | none => none
mutual
def setD : T → D → En → Option En
  | .nm i, d, env => setS i (.dat d) env
  | .tp ts, .tup ds, env => setDs ts ds env
  | .tp ts, .wtup ds, env => setDs ts ds env
  | _, _, _ => none
def setDs : T → List D → En → Option En
  | .nil, [], env => some env
  | .cons t ts, d :: ds, env => match setD t d env with
    | some e => setDs ts ds e
    | none => none
  | _, _, _ => none
end
def setP : T → P → En → Option En
  | .nm i, .new m, env => setS i (.own true m) env
  | t, p, env => match fz p env with
    | some (d, e) => setD t d e
    | none => none

def wipeS (env : En) : List Nat → En
  | [] => env
  | v :: vs => (wipeS env vs).set v .un
/-- the slots vs as they were in old -/
def backS (old env : En) : List Nat → En
  | [] => env
  | v :: vs => match old[v]? with
    | some s => (backS old env vs).set v s
    | none => backS old env vs

/-! ### calls -/
def toArgs : List P → En → Option (List Arg × List Nat)
  | [], _ => some ([], [])
  | .val d :: ps, env => match toArgs ps env with
    | some (as, is) => some (.dat d :: as, is)
    | none => none
  | .new (.lst ds) :: ps, env => match toArgs ps env with
    | some (as, is) => some (.dat (.lst ds) :: as, is)
    | none => none
  | .new _ :: _, _ => none
  | .its _ :: _, _ => none
  | .slot i :: ps, env => match env[i]?, toArgs ps env with
    | some (.own _ m), some (as, is) => if i ∈ is then none else some (.own m :: as, i :: is)
    | some (.dat d), some (as, is) => some (.dat d :: as, is)
    | _, _ => none
def putBack : List Nat → List MO → En → Option En
  | [], [], env => some env
  | i :: is, m :: ms, env => match env[i]? with
    | some (.own f _) => putBack is ms (env.set i (.own f m))
    | _ => none
  | _, _, _ => none
def Ret.p : Ret → P
  | .val d => .val d
  | .new m => .new m

def permL {α : Type} (pm : List Nat) (l : List α) : List α := pm.filterMap fun i => l[i]?
def callK (F : Fn) (pm : List Nat) (x : Option (List Arg × List Nat)) : Option Ret := match x with
  | some (as, is) => match is with
    | [] => match F (permL pm as) with
      | some (r, ms) => match ms with
        | [] => some r
        | _ :: _ => none
      | none => none
    | _ :: _ => none
  | none => none
def wipeOk (env : En) (vs : List Nat) : Bool := vs.all fun v => match env[v]? with
  | some s => s.free
  | none => true

/-! ### the items that a walk goes over; what is walked is locked -/
def itsOf (p : P) (env : En) : Option (List D × Option Nat × En) := match p with
  | .its xs => some (xs, none, env)
  | .val d => match d.seq? with
    | some ds => some (ds, none, env)
    | none => none
  | .new (.lst ds) => some (ds, none, env)
  | .new _ => none
  | .slot i => match env[i]? with
    | some (.own f (.lst ds)) => some (ds, some i, env.set i (.lck f (.lst ds)))
    | some (.lck _ (.lst ds)) => some (ds, none, env)
    | some (.dat d) => match d.seq? with
      | some ds => some (ds, none, env)
      | none => none
    | _ => none
/-- a dict by its name -/
def dictIt (e : E) (env : En) : Option (List D × Option Nat × En) := match e with
  | .var i => match env[i]? with
    | some (.own f m) => match dkeys m with
      | some ks => some (ks, some i, env.set i (.lck f m))
      | none => none
    | _ => none
  | _ => none
/-- behind it -/
def freeS (lk : Option Nat) (env : En) : En := match lk with
  | none => env
  | some i => match env[i]? with
    | some (.lck f m) => env.set i (.own f m)
    | _ => env
def rangeD (lo : Int) (n : Nat) : List D := (List.range n).map fun (i : Nat) => D.int (lo + (i : Int))
def rngOf : List D → Option (List D)
  | [.int n] => if -(2 ^ 40) ≤ n ∧ n ≤ 2 ^ 40 then some (rangeD 0 n.toNat) else none
  | [.int a, .int b] => if -(2 ^ 40) ≤ a ∧ a ≤ 2 ^ 40 ∧ -(2 ^ 40) ≤ b ∧ b ≤ 2 ^ 40 then some (rangeD a (b - a).toNat) else none
  | _ => none

def enumD (ds : List D) : List D := ds.mapIdx fun i d => .wtup [.int (i : Nat), d]
def zipOp : D → D → Option (List D)
  | .lst xs, .lst ys => some (List.zipWith (fun x y => D.wtup [x, y]) xs ys)
  | .tup xs, .tup ys => some (List.zipWith (fun x y => D.wtup [x, y]) xs ys)
  | _, _ => none

/-- [elt for ..]: f gives what a turn makes -/
def lcGo (f : D → En → Option (Option D × En)) : List D → En → Option (List D × En)
  | [], env => some ([], env)
  | x :: xs, env => match f x env with
    | some (o, e1) => match lcGo f xs e1 with
      | some (ys, e2) => some (o.toList ++ ys, e2)
      | none => none
    | none => none

mutual
def evE (Φ : Nat → Fn) : E → En → Option (P × En)
  | .var i, env => match env[i]? with
    | some (.dat d) => some (.val d, env)
    | some (.own _ _) => some (.slot i, env)
    | some (.lck _ _) => some (.slot i, env)
    | _ => none
  | .cst d, env => some (.val d, env)
  | .tup es, env => match evA Φ es env with
    | some (ps, e1) => match fzs ps e1 with
      | some (ds, e2) => if ds.length ≤ lim then some (.val (.tup ds), e2) else none
      | none => none
    | none => none
  | .lst es, env => match evA Φ es env with
    | some (ps, e1) => match fzs ps e1 with
      | some (ds, e2) => if ds.length ≤ lim then some (.new (.lst ds), e2) else none
      | none => none
    | none => none
  | .bin o a b, env => match evE Φ a env with
    | some (p, e1) => match evE Φ b e1 with
      | some (q, e2) => match pk p e2, pk q e2 with
        | some x, some y => match binOp o x y with
          | some z => some (z, e2)
          | none => none
        | _, _ => none
      | none => none
    | none => none
  | .neg a, env => match evE Φ a env with
    | some (.val (.int i), e1) => some (.val (.int (-i)), e1)
    | _ => none
  | .cmp o a b, env => match evE Φ a env with
    | some (p, e1) => match evE Φ b e1 with
      | some (q, e2) => match pk p e2, pk q e2 with
        | some x, some y => match cmpOp o x y with
          | some z => some (.val (.bl z), e2)
          | none => none
        | _, _ => dcmp o p q e2
      | none => none
    | none => none
  | .chn o o' a b c, env => match evE Φ a env with
    | some (.val x, e1) => match evE Φ b e1 with
      | some (.val y, e2) => match cmpOp o x y with
        | some true => match evE Φ c e2 with
          | some (.val z, e3) => match cmpOp o' y z with
            | some r => some (.val (.bl r), e3)
            | none => none
          | _ => none
        | some false => some (.val (.bl false), e2)
        | none => none
      | _ => none
    | _ => none
  | .and a b, env => match evE Φ a env with
    | some (.val (.bl true), e1) => match evE Φ b e1 with
      | some (.val (.bl r), e2) => some (.val (.bl r), e2)
      | _ => none
    | some (.val (.bl false), e1) => some (.val (.bl false), e1)
    | _ => none
  | .or a b, env => match evE Φ a env with
    | some (.val (.bl false), e1) => match evE Φ b e1 with
      | some (.val (.bl r), e2) => some (.val (.bl r), e2)
      | _ => none
    | some (.val (.bl true), e1) => some (.val (.bl true), e1)
    | _ => none
  | .not a, env => match evE Φ a env with
    | some (.val (.bl r), e1) => some (.val (.bl (!r)), e1)
    | _ => none
  | .ite c a b, env => match evE Φ c env with
    | some (.val (.bl true), e1) => evE Φ a e1
    | some (.val (.bl false), e1) => evE Φ b e1
    | _ => none
  | .ix a i, env => match evE Φ a env with
    | some (p, e1) => match evE Φ i e1 with
      | some (.val k, e2) => match pk p e2 with
        | some x => match ixOp x k with
          | some d => some (.val d, e2)
          | none => none
        | none => match dix p k e2 with
          | some d => some (.val d, e2)
          | none => none
      | _ => none
    | none => none
  | .slc a lo hi, env => match evE Φ a env with
    | some (p, e1) => match evO Φ lo e1 with
      | some (l, e2) => match evO Φ hi e2 with
        | some (h, e3) => match pk p e3 with
          | some x => match slcOp x l h with
            | some r => some (r, e3)
            | none => none
          | none => none
        | none => none
      | none => none
    | none => none
  | .call f es, env => match evA Φ es env with
    | some (ps, e1) => match toArgs ps e1 with
      | some (as, is) => match Φ f as with
        | some (r, ms) => match putBack is ms e1 with
          | some e2 => some (r.p, e2)
          | none => none
        | none => none
      | none => none
    | none => none
  | .callk f pm es, env => match evA Φ es env with
    | some (ps, e1) => match callK (Φ f) pm (toArgs ps e1) with
      | some r => some (r.p, e1)
      | none => none
    | none => none
  | .bi b es, env => match evA Φ es env with
    | some (ps, e1) => match pks ps e1 with
      | some ds => match biOp b ds with
        | some r => some (r, e1)
        | none => none
      | none => none
    | none => none
  | .mth m r es, env => match evE Φ r env with
    | some (.slot i, e1) => if lstIn i e1 then match evA Φ es e1 with
      | some (ps, e2) => match m, ps with
        | .append, [p] => match fz p e2 with
          | some (d, e3) => match e3[i]? with
            | some (.own f (.lst ds)) => if ds.length < lim then some (.val .non, e3.set i (.own f (.lst (ds ++ [d])))) else none
            | _ => none
          | none => none
        | .extend, [p] => match fz p e2 with
          | some (.lst zs, e3) => match e3[i]? with
            | some (.own f (.lst ds)) => if ds.length + zs.length ≤ lim then some (.val .non, e3.set i (.own f (.lst (ds ++ zs)))) else none
            | _ => none
          | _ => none
        | .pop, [] => match e2[i]? with
          | some (.own f (.lst ds)) => match ds[ds.length - 1]? with
            | some d => some (.val d, e2.set i (.own f (.lst ds.dropLast)))
            | none => none
          | _ => none
        | .popAt, [.val (.int k)] => match e2[i]? with
          | some (.own f (.lst ds)) => if 0 ≤ k ∧ k ≤ 2 ^ 40 then match ds[k.toNat]? with
              | some d => some (.val d, e2.set i (.own f (.lst (ds.eraseIdx k.toNat))))
              | none => none
            else none
          | _ => none
        | _, _ => none
      | none => none
      else none
    | _ => none
  | .lc vs tg it cs elt, env => match (match dictIt it env with
      | some r => some r
      | none => match evE Φ it env with
        | some (p, e0) => itsOf p e0
        | none => none) with
    | some (xs, lk, e1) => if xs.length ≤ lim then
        match lcGo (fun x e => match setD tg x e with
          | some e2 => match evC Φ cs e2 with
            | some (true, e3) => match evE Φ elt e3 with
              | some (p, e4) => match fz p e4 with
                | some (d, e5) => some (some d, wipeS e5 vs)
                | none => none
              | none => none
            | some (false, e3) => some (none, wipeS e3 vs)
            | none => none
          | none => none) xs (wipeS e1 vs) with
        | some (ds, e2) => some (.new (.lst ds), freeS lk (backS e1 e2 vs))
        | none => none
      else none
    | none => none
  | .lrng es, env => match evA Φ es env with
    | some (ps, e1) => match pks ps e1 with
      | some ds => match rngOf ds with
        | some xs => if xs.length ≤ lim then some (.new (.lst xs), e1) else none
        | none => none
      | none => none
    | none => none
  | .sumL e, env => match evE Φ e env with
    | some (p, e1) => match pk p e1 with
      | some (.lst ds) => match lstsOf ds with
        | some xs => if xs.flatten.length ≤ 1000000 then some (.new (.lst xs.flatten), e1) else none
        | none => none
      | _ => none
    | none => none
  | .dnew t, env => some (.new (if t then .dT [] else .dK []), env)
  | .mq i a b, env => match evE Φ a env with
    | some (p, e1) => match pk p e1 with
      | some (.tup ds) => match evE Φ b e1 with
        | some (.val y, e2) => match qOp i ds y with
          | some n => some (.val (.int n), e2)
          | none => none
        | _ => none
      | some (.lst _) => match evE Φ b e1 with
        | some (.val y, e2) => match pk p e2 with
          | some (.lst ds) => match qOp i ds y with
            | some n => some (.val (.int n), e2)
            | none => none
          | _ => none
        | _ => none
      | _ => none
    | none => none
  | .dget o k x, env => match evE Φ o env with
    | some (.slot i, e1) => if dictIn i e1 then match evE Φ k e1 with
      | some (.val k, e2) => match evE Φ x e2 with
        | some (.val x, e3) => match e3[i]?.bind Slot.mo? with
          | some m => match dlook m k with
            | some r => some (.val (r.getD x), e3)
            | none => none
          | none => none
        | _ => none
      | _ => none
      else none
    | _ => none
  | .anil, _ => none
  | .acons _ _, _ => none
  | .astar _ _, _ => none
  | .gone, _ => none
  | .rng es, env => match evA Φ es env with
    | some (ps, e1) => match pks ps e1 with
      | some ds => match rngOf ds with
        | some xs => some (.its xs, e1)
        | none => none
      | none => none
    | none => none
  | .enm e, env => match evE Φ e env with
    | some (p, e1) => match fz p e1 with
      | some (.lst ds, e2) => some (.its (enumD ds), e2)
      | _ => none
    | none => none
  | .zip a b, env => match evE Φ a env with
    | some (p, e1) => match evE Φ b e1 with
      | some (q, e2) => match fz p e2 with
        | some (x, e3) => match fz q e3 with
          | some (y, e4) => match zipOp x y with
            | some ds => some (.its ds, e4)
            | none => none
          | none => none
        | none => none
      | none => none
    | none => none
  | .items _, _ => none
termination_by structural e => e
/-- an argument list -/
def evA (Φ : Nat → Fn) : E → En → Option (List P × En)
  | .anil, env => some ([], env)
  | .acons e es, env => match evE Φ e env with
    | some (p, e1) => match evA Φ es e1 with
      | some (ps, e2) => some (p :: ps, e2)
      | none => none
    | none => none
  | .astar e es, env => match evE Φ e env with
    | some (p, e1) => match pk p e1 with
      | some x => match x.seq? with
        | some ds => match evA Φ es e1 with
          | some (ps, e2) => some (ds.map P.val ++ ps, e2)
          | none => none
        | none => none
      | none => none
    | none => none
  | _, _ => none
termination_by structural e => e
/-- an end of a slice -/
def evO (Φ : Nat → Fn) : E → En → Option (Option Int × En)
  | .gone, env => some (none, env)
  | .acons e _, env => match evE Φ e env with
    | some (.val (.int i), e1) => some (some i, e1)
    | _ => none
  | _, _ => none
termination_by structural e => e
/-- the tests of a comprehension: none or one -/
def evC (Φ : Nat → Fn) : E → En → Option (Bool × En)
  | .anil, env => some (true, env)
  | .acons e .anil, env => match evE Φ e env with
    | some (.val (.bl b), e1) => some (b, e1)
    | _ => none
  | _, _ => none
termination_by structural e => e
end

/-! ### statements -/
/-- what is stored: data, or a new object -/
def rsP : P → En → Option (P × En)
  | .new m, env => some (.new m, env)
  | p, env => match fz p env with
    | some (d, e) => some (.val d, e)
    | none => none
def rsPs : List P → En → Option (List P × En)
  | [], env => some ([], env)
  | p :: ps, env => match rsP p env with
    | some (q, e1) => match rsPs ps e1 with
      | some (qs, e2) => some (q :: qs, e2)
      | none => none
    | none => none
def setVs : List Nat → List P → En → Option En
  | [], [], env => some env
  | i :: is, .val d :: ps, env => match setS i (.dat d) env with
    | some e1 => setVs is ps e1
    | none => none
  | i :: is, .new m :: ps, env => match setS i (.own true m) env with
    | some e1 => setVs is ps e1
    | none => none
  | _, _, _ => none
def forGo (f : D → En → Option Out) : List D → En → Option Out
  | [], env => some (.nx env)
  | x :: xs, env => match f x env with
    | some (.nx e) => forGo f xs e
    | some (.ct e) => forGo f xs e
    | some (.bk e) => some (.nx e)
    | some (.rt r e) => some (.rt r e)
    | none => none
def whlGo (c : En → Option (Bool × En)) (f : En → Option Out) : Nat → En → Option Out
  | 0, _ => none
  | n + 1, env => match c env with
    | some (true, e1) => match f e1 with
      | some (.nx e) => whlGo c f n e
      | some (.ct e) => whlGo c f n e
      | some (.bk e) => some (.nx e)
      | some (.rt r e) => some (.rt r e)
      | none => none
    | some (false, e1) => some (.nx e1)
    | none => none
def evT (Φ : Nat → Fn) (c : E) (env : En) : Option (Bool × En) := match evE Φ c env with
  | some (.val (.bl b), e1) => some (b, e1)
  | _ => none
/-- a value handed back: an own list goes along -/
def retOf (p : P) (env : En) : Option (Ret × En) := match p with
  | .val d => some (.val d, env)
  | .new m => some (.new m, env)
  | .its _ => none
  | .slot i => match env[i]? with
    | some (.own true m) => some (.new m, env.set i .un)
    | some (.dat d) => some (.val d, env)
    | _ => none
def putAt (m : MO) (k v : D) : Option MO := match m, k with
  | .lst ds, .int i => if 0 ≤ i ∧ i < ds.length then some (.lst (ds.set i.toNat v)) else none
  | .dK _, k => dput m k v
  | .dT _, k => dput m k v
  | _, _ => none

def evS (Φ : Nat → Fn) : S → En → Option Out
  | .nop, env => some (.nx env)
  | .never, _ => none
  | .wipe vs, env => if wipeOk env vs then some (.nx (wipeS env vs)) else none
  | .brk, env => some (.bk env)
  | .cnt, env => some (.ct env)
  | .seq a b, env => match evS Φ a env with
    | some (.nx e) => evS Φ b e
    | o => o
  | .exp e, env => match evE Φ e env with
    | some (_, e1) => some (.nx e1)
    | none => none
  | .asg t e, env => match evE Φ e env with
    | some (p, e1) => match setP t p e1 with
      | some e2 => some (.nx e2)
      | none => none
    | none => none
  | .par is es, env => match evA Φ es env with
    | some (ps, e1) => match rsPs ps e1 with
      | some (qs, e2) => match setVs is qs e2 with
        | some e3 => some (.nx e3)
        | none => none
      | none => none
    | none => none
  | .put o i v, env => match evE Φ v env with
    | some (pv, e1) => match evE Φ o e1 with
      | some (.slot s, e2) => match evE Φ i e2 with
        | some (.val k, e3) => match fz pv e3 with
          | some (d, e4) => match e4[s]? with
            | some (.own f m) => match putAt m k d with
              | some m' => some (.nx (e4.set s (.own f m')))
              | none => none
            | _ => none
          | none => none
        | _ => none
      | _ => none
    | none => none
  | .ret e, env => match evE Φ e env with
    | some (p, e1) => match retOf p e1 with
      | some (r, e2) => some (.rt r e2)
      | none => none
    | none => none
  | .retN, env => some (.rt (.val .non) env)
  | .ite c a b, env => match evT Φ c env with
    | some (true, e1) => evS Φ a e1
    | some (false, e1) => evS Φ b e1
    | none => none
  | .whl n c b, env => whlGo (evT Φ c) (evS Φ b) n env
  | .for_ t it b, env => match (match dictIt it env with
      | some r => some r
      | none => match evE Φ it env with
        | some (p, e0) => itsOf p e0
        | none => none) with
    | some (xs, lk, e1) => match forGo (fun x e => match setD t x e with
        | some e2 => evS Φ b e2
        | none => none) xs e1 with
      | some (.nx e2) => some (.nx (freeS lk e2))
      | some (.rt r e2) => some (.rt r (freeS lk e2))
      | _ => none
    | none => none
termination_by structural s => s

/-! ### defs -/
def Arg.slot : Arg → Slot
  | .dat d => .dat d
  | .own m => .own false m
def outsOf : List Arg → En → Option (List MO)
  | [], _ => some []
  | .dat _ :: as, _ :: env => outsOf as env
  | .own _ :: as, .own false m :: env => match outsOf as env with
    | some ms => some (m :: ms)
    | none => none
  | _, _ => none
/-- np parameters, n slots in all -/
def semF (Φ : Nat → Fn) (np n : Nat) (b : S) : Fn := fun as =>
  if as.length = np then
    match evS Φ b (as.map Arg.slot ++ List.replicate (n - np) Slot.un) with
    | some (.rt r e) => match outsOf as e with
      | some ms => some (r, ms)
      | none => none
    | some (.nx e) => match outsOf as e with
      | some ms => some (.val .non, ms)
      | none => none
    | _ => none
  else none
end Mi

namespace Mi
example (Φ : Nat → Fn) : evE Φ (.bin .add (.var 0) (.cst (.int 1))) [.dat (.int 3)] = some (.val (.int 4), [.dat (.int 3)]) := rfl
example (Φ : Nat → Fn) (xs : List D) : evE Φ (.bi .len (.acons (.var 0) .anil)) [.dat (.tup xs)] = some (.val (.int xs.length), [.dat (.tup xs)]) := rfl
end Mi

/-! MiTup: the rules that make tuples, once more, with the object known but for its items. -/
namespace Mi
open PySem PySem.Spec PyProof.Rows L2

section
variable {X : Cx} {e : Expr} {es : List Expr} {t : TA} {pos : Pos}
/-- t + u -/
def xCat (K : PySem.W.Frag) : R2 := fun x y H Q => ∃ a b xs ys, x = .ref a ∧ y = .ref b ∧ SqT K H a xs ∧ SqT K H b ys ∧ xs.length + ys.length ≤ sizeLine ∧
  (xs = [] → Q (.ref b) H) ∧ (xs ≠ [] → ys = [] → Q (.ref a) H) ∧ (xs ≠ [] → ys ≠ [] → ∀ p o, ExT o → H p = none → Q (.ref p) (upd H p (.frz o (.tup (xs ++ ys)))))
theorem x_cat : OpR X (binaryOp .Add) (xCat X.K) := by
  intro pins s σ H x y v u Q I rx ry h
  obtain ⟨a, b, xs, ys, rfl, rfl, ha, hb, hz, q0, q1, q2⟩ := h
  by_cases hx : xs = []
  · exact op_catA pins s σ H _ _ v u Q I rx ry ⟨a, b, xs, ys, rfl, rfl, ha, hb, hz, q0, q1, fun z => absurd hx z⟩
  · cases rx
    cases ry
    obtain ⟨its, r1, p1, _⟩ := I.tuple ha
    obtain ⟨its2, r2, p2, _⟩ := I.tuple hb
    refine HT.cat_tup p1 p2 (fun z => hx (r1.nil_iff.mp z)) (fun z => ⟨.ref a, H, I, rfl, q1 hx (r2.nil_iff.mp z)⟩) (fun z => ?_) (by rw [← r1.length, ← r2.length]; exact hz)
    refine ⟨.ref s.heap.objs.size, _, I.laid (t' := s.toks) (o := .frz _ (.tup (xs ++ ys))) (fun b ob q => Heap.get?_push_of_some _ q) (Nat.le_refl _) ⟨Heap.get?_push_size _ rfl, ?_⟩, rfl, q2 hx (fun w => z (r2.nil_iff.mpr w)) _ _ ⟨rfl, rfl⟩ (I.hok.fresh (Nat.le_refl _))⟩
    exact ⟨by rw [List.length_append]; exact hz, _, r1.append r2, IsTup.new _ _⟩
/-- t * k -/
def xRep (K : PySem.W.Frag) : R2 := fun x y H Q => ∃ l k xs, x = .ref l ∧ y = .int k ∧ SqT K H l xs ∧ xs ≠ [] ∧ 2 ≤ k ∧ k ≤ 1000 ∧ xs.length ≤ 1000 ∧ ∀ p o, ExT o → H p = none → Q (.ref p) (upd H p (.frz o (.tup ((List.replicate k.toNat xs).flatten))))
theorem x_rep : OpR X (binaryOp .Mult) (xRep X.K) := by
  intro pins s σ H x y v u Q I rx ry h
  obtain ⟨l, k, xs, rfl, rfl, hT, hne, h1, h2, hz, q⟩ := h
  cases rx
  obtain ⟨t, rfl⟩ := ry
  obtain ⟨its, r, ⟨⟨cls, dd, data, sl⟩, ho, hc, n, hd⟩, hs⟩ := I.tuple hT
  simp only at hc hd
  subst hc hd
  have hle : its.length = xs.length := r.length.symm
  have hn : its ≠ [] := fun e => hne (by
    rw [e] at hle
    exact List.eq_nil_of_length_eq_zero hle.symm)
  have hi : its.toArray.isEmpty = false := by
    cases its with
    | nil => exact absurd rfl hn
    | cons a b => rfl
  have hsz0 : its.toArray.size = xs.length := by rw [List.size_toArray, hle]
  have hm : ((its.toArray.size : Nat) : Int) * k ≤ 1000000 := by
    rw [hsz0]
    have a1 : ((xs.length : Nat) : Int) * k ≤ 1000 * k := Int.mul_le_mul_of_nonneg_right (by omega) (by omega)
    omega
  have flen : (List.replicate k.toNat its).flatten.length ≤ sizeLine := by
    rw [PyProof.Rows.lm_len_rep_flat, hle, sizeLine_eq]
    have a1 : k.toNat * xs.length ≤ 1000 * 1000 := Nat.mul_le_mul (by omega) hz
    omega
  have c0 : (decide (k < -(2 ^ 63)) || decide (k ≥ 2 ^ 63)) = false := by
    rw [decide_eq_false (by omega), decide_eq_false (by omega)] <;> rfl
  have c1 : (its.toArray.isEmpty || k == 1) = false := by
    rw [hi, Bool.false_or]
    exact beq_eq_false_iff_ne.mpr (by omega)
  have c2 : (decide (k ≤ 0) || its.toArray.isEmpty) = false := by
    rw [hi, Bool.or_false]
    exact decide_eq_false (by omega)
  have c4 : Builtin.Tuple.tupleTooMany (((its.toArray.size : Nat) : Int) * k) = false := by
    unfold Builtin.Tuple.tupleTooMany
    rw [sizeLine_eq]
    exact decide_eq_false (by omega)
  refine wpAny_binaryOp_repeat_ref (T := "tuple") (U := "int") (by decide) ⟨_, ho, rfl⟩ (fun s' => typeIs_int s' k t) noFill_tuple_mul F.fills_int_mul F.slot_int_rmul repeat_tuple F.slot_int_index.lookup
    (call_meets F.slot_int_rmul (typeIs_int s k t) F.entry_int_rmul (F.args_int_rmul_2 _ _) (int_rmul_tuple k t l its.toArray n dd sl)
      ⟨ho, rfl, ⟨_, ho, rfl⟩, call_meets F.slot_tuple_mul ⟨_, ho, rfl⟩ F.entry_tuple_mul (F.args_tuple_mul_2 _ _) (tuple_mulW l its.toArray n dd sl k t c0 c1 c2 (by omega) c4 (by rw [size_rep, List.size_toArray]; exact flen)) ⟨ho, ?_⟩⟩)
  rw [size_rep]
  refine ⟨.ref s.heap.objs.size, _, I.laid (t' := s.toks) (o := .frz _ (.tup (List.replicate k.toNat xs).flatten)) (fun b ob q => Heap.get?_push_of_some _ q) (Nat.le_refl _) ⟨Heap.get?_push_size _ rfl, ?_⟩, rfl, q _ _ ⟨rfl, rfl⟩ (I.hok.fresh (Nat.le_refl _))⟩
  exact ⟨by rw [PyProof.Rows.lm_len_rep_flat, sizeLine_eq]; have a1 : k.toNat * xs.length ≤ 1000 * 1000 := Nat.mul_le_mul (by omega) hz; omega, _, r.rep k.toNat, IsTup.new _ _⟩
/-- t[lo:hi] -/
def xSl (K : PySem.W.Frag) : V → Option Int → Option Int → Hp → VK → Prop := fun x lo hi H Q => ∃ a xs, x = .ref a ∧ SqT K H a xs ∧
  (HT.sIx xs.length 0 lo = 0 ∧ HT.sIx xs.length xs.length hi = xs.length → Q (.ref a) H) ∧ (¬ (HT.sIx xs.length 0 lo = 0 ∧ HT.sIx xs.length xs.length hi = xs.length) → ∀ p o, ExT o → H p = none → Q (.ref p) (upd H p (.frz o (.tup (cutV xs lo hi)))))
theorem x_slice : SlR X (xSl X.K) := by
  intro pins s σ H x v vl vu lo hi sl Q I rx hs pl pu h
  obtain ⟨a, xs, rfl, hx, q1, q2⟩ := h
  by_cases hw : HT.sIx xs.length 0 lo = 0 ∧ HT.sIx xs.length xs.length hi = xs.length
  · exact sl_tupA pins s σ H _ v vl vu lo hi sl Q I rx hs pl pu ⟨a, xs, rfl, hx, q1, fun z => absurd hw z⟩
  · cases rx
    obtain ⟨its, r, ht, hz⟩ := I.tuple hx
    have hlen : its.toArray.size = xs.length := by rw [List.size_toArray]; exact r.length.symm
    refine ⟨"tuple", _, PyProof.Rows.slot_tuple_getitem.lookup, ht.typeIs, ?_⟩
    refine HT.getItem_tuple_cut ht hs pl pu (by rw [hlen]; exact hw) ?_ (by rw [hlen]; exact hz)
    rw [hlen]
    refine ⟨.ref s.heap.objs.size, _, I.laid (t' := s.toks) (o := .frz _ (.tup (cutV xs lo hi))) (fun b ob q => Heap.get?_push_of_some _ q) (Nat.le_refl _) ⟨Heap.get?_push_size _ rfl, ?_⟩, rfl, q2 hw _ _ ⟨rfl, rfl⟩ (I.hok.fresh (Nat.le_refl _))⟩
    exact ⟨Nat.le_trans (cutV_length xs lo hi) hz, _, (r.drop (HT.sIx xs.length 0 lo)).take (HT.sIx xs.length xs.length hi - HT.sIx xs.length 0 lo), IsTup.new _ _⟩
/-- tuple(x) -/
theorem x_tuple : CallR X (.type "tuple") (fun xs H Q => ∃ p ys, xs = [.ref p] ∧ ((SqL X.K H p ys ∧ ∀ l o, ExT o → H l = none → Q (.ref l) (upd H l (.frz o (.tup ys)))) ∨ (SqT X.K H p ys ∧ Q (.ref p) H))) := by
  intro pins s σ H xs us Q I r h
  obtain ⟨p, ys, rfl, h⟩ := h
  obtain ⟨u, rfl, rx⟩ := vals1 r
  cases rx
  rcases h with ⟨hq, q⟩ | ⟨hq, q⟩
  · obtain ⟨its, r', pl, hz⟩ := I.list hq
    have hlen := r'.length
    refine call_tuple_list pl.isList (fun h' kp => ?_) (by simp only [List.size_toArray] <;> omega)
    have I1 : Inv X pins σ H { s with heap := h' } := I.kept (t' := s.toks) kp
    have I2 : Inv X pins σ (upd H h'.objs.size (.frz { cls := .type "tuple", data := .seq its.toArray } (.tup ys))) { s with heap := h'.push { cls := .type "tuple", data := .seq its.toArray } } :=
      I1.laid (t' := s.toks) (fun b o e => Heap.get?_push_of_some _ e) (Nat.le_refl _) (show ObjOk X.prog X.w _ _ _ (.frz _ (.tup ys)) from ⟨Heap.get?_push_size _ rfl, hz, its, r', IsTup.new _ _⟩)
    exact ⟨.ref h'.objs.size, _, I2, rfl, q _ _ ⟨rfl, rfl⟩ (I1.hok.fresh (Nat.le_refl _))⟩
  · obtain ⟨its, r', pl, hz⟩ := I.tuple hq
    exact call_tuple_same pl ⟨.ref p, H, I, rfl, q⟩
/-- a tuple of written items -/
def xTup (t : TA) : TE := fun σ H Q => t σ H fun xs H1 => xs.length ≤ sizeLine ∧ ∀ p o, ExT o → H1 p = none → Q (.ref p) (upd H1 p (.frz o (.tup xs)))
theorem x_tupl {k0 : Nat} (h : PA X es t) : PE X (.Tuple es k0 pos) (xTup t) := by
  refine ⟨fun pins s σ H Q I hq => ?_⟩
  refine wpAny_Tuple_spliced (thn (h.run pos pins s σ H _ I hq) fun us s1 ⟨xs, H1, I1, r, z, q⟩ => ⟨by rw [← r.length]; exact z, ?_⟩)
  have hf : H1 s1.heap.objs.size = none := I1.hok.fresh (Nat.le_refl _)
  refine ⟨.ref s1.heap.objs.size, _, I1.laid (t' := s1.toks) (o := .frz _ (.tup xs)) (fun b u e => Heap.get?_push_of_some _ e) (Nat.le_refl _) ⟨Heap.get?_push_size _ rfl, ?_⟩, rfl, q _ _ ⟨rfl, rfl⟩ hf⟩
  exact ⟨z, us, r, ⟨_, Heap.get?_push_size _ rfl, rfl, _, rfl⟩⟩
end
end Mi

/-! Mi3: the operators do what the evaluator says. -/
namespace Mi
open PySem PySem.Spec PyProof.Rows L2

/-- what is wanted behind an operation that gives p -/
def ResP (K : PySem.W.Frag) (H B : Hp) (Q : VK) : P → Prop
  | .val d => ∀ v H' B', Gr H B H' B' → Rp K B' v d → Q v H'
  | .new m => ∀ a o H' B', Gr H B H' B' → H a = none → H' a = some o → B' a = none → MOk K B' o m → Q (.ref a) H'
  | _ => False
/-- a value that is looked at -/
def RpS (K : PySem.W.Frag) (B H : Hp) (v : V) (d : D) : Prop := Rp K B v d ∨ ∃ a xs ds, v = .ref a ∧ d = .lst ds ∧ H a = some (.lst xs) ∧ RpA K B xs ds

theorem lim_line : lim ≤ sizeLine := by decide
section
variable {K : PySem.W.Frag} {B H H' B' : Hp} {v : V} {d : D} {Q : VK}
theorem RpS.lst {ds : List D} (h : RpS K B H v (.lst ds)) (s : Sub B H) : ∃ a xs, v = .ref a ∧ H a = some (.lst xs) ∧ RpA K B xs ds := by
  rcases h with h | ⟨a, xs, es, e1, e2, e3, e4⟩
  · cases h with
    | lst h1 h2 => exact ⟨_, _, rfl, s _ _ h1, h2⟩
  · cases e2; exact ⟨a, xs, e1, e3, e4⟩
theorem RpS.tup {ds : List D} (h : RpS K B H v (.tup ds)) (s : Sub B H) : ∃ a xs, v = .ref a ∧ SqT K H a xs ∧ RpA K B xs ds := by
  rcases h with h | ⟨a, xs, es, e1, e2, e3, e4⟩
  · cases h with
    | tup _ h1 h2 => exact ⟨_, _, rfl, st_frz (s _ _ h1), h2⟩
  · cases e2
theorem RpS.scr {ns : List Int} (h : RpS K B H v (.scr ns)) (s : Sub B H) : ∃ a, v = .ref a ∧ SqL K H a (ns.map V.int) := by
  rcases h with h | ⟨a, xs, es, e1, e2, e3, e4⟩
  · cases h with
    | scr h1 => exact ⟨_, rfl, s.seqL h1⟩
  · cases e2
theorem RpS.int {i : Int} (h : RpS K B H v (.int i)) : v = .int i := by
  rcases h with h | ⟨a, xs, es, e1, e2, e3, e4⟩
  · cases h; rfl
  · cases e2
theorem RpS.str {i : Str} (h : RpS K B H v (.str i)) : v = .str i := by
  rcases h with h | ⟨a, xs, es, e1, e2, e3, e4⟩
  · cases h; rfl
  · cases e2
theorem RpS.bl {i : Bool} (h : RpS K B H v (.bl i)) : v = .bl i := by
  rcases h with h | ⟨a, xs, es, e1, e2, e3, e4⟩
  · cases h; rfl
  · cases e2
theorem RpS.non (h : RpS K B H v .non) : v = .non := by
  rcases h with h | ⟨a, xs, es, e1, e2, e3, e4⟩
  · cases h; rfl
  · cases e2
theorem RpS.dp (h : RpS K B H v d) (s : Sub B H) : Dp K H v d.py := by
  rcases h with h | ⟨a, xs, es, e1, e2, e3, e4⟩
  · exact (h.mono s).dp
  · cases e1; cases e2; exact .lst (Evl.sq_of e3) (e4.mono s).dp
theorem RpS.of (h : Rp K B v d) : RpS K B H v d := .inl h
theorem ResP.int {i : Int} (h : ResP K H B Q (.val (.int i))) (s : Sub B H) : Q (.int i) H := h _ _ _ (Gr.refl s) (.int i)
theorem ResP.str {i : Str} (h : ResP K H B Q (.val (.str i))) (s : Sub B H) : Q (.str i) H := h _ _ _ (Gr.refl s) (.str i)
theorem ResP.bl {i : Bool} (h : ResP K H B Q (.val (.bl i))) (s : Sub B H) : Q (.bl i) H := h _ _ _ (Gr.refl s) (.bl i)
theorem ResP.non (h : ResP K H B Q (.val .non)) (s : Sub B H) : Q .non H := h _ _ _ (Gr.refl s) .non
theorem ResP.rp (h : ResP K H B Q (.val d)) (s : Sub B H) (r : Rp K B v d) : Q v H := h _ _ _ (Gr.refl s) r
/-- a new list -/
theorem ResP.lst {xs : List V} {ds : List D} (h : ResP K H B Q (.new (.lst ds))) (s : Sub B H) (r : RpA K B xs ds) {p : Addr} (n : H p = none) : Q (.ref p) (upd H p (.lst xs)) :=
  h p _ _ _ (Gr.newH s n) n upd_same (s.none n) ⟨xs, rfl, r⟩
/-- a new tuple -/
theorem ResP.tup {xs : List V} {ds : List D} (h : ResP K H B Q (.val (.tup ds))) (s : Sub B H) (r : RpA K B xs ds) {p : Addr} {o : Obj} (eo : ExT o) (n : H p = none) : Q (.ref p) (upd H p (.frz o (.tup xs))) :=
  h _ _ _ (Gr.new s n) (.tup eo upd_same (r.mono (Sub.new (s.none n))))
end

def BO.op : BO → Operator
  | .add => .Add | .sub => .Sub | .mul => .Mult | .fdiv => .FloorDiv | .mod => .Mod | .pow => .Pow
def CO.op : CO → CmpOp
  | .eq => .Eq | .ne => .NotEq | .lt => .Lt | .le => .LtE | .gt => .Gt | .ge => .GtE | .is_ => .Is | .isn => .IsNot | .in_ => .In | .nin => .NotIn

/-! ### a tuple times 1 -/
theorem tup_by_one (l : Addr) (items : Array Value) (n : Nat) (u : Tok) :
    Meets (Builtin.«tuple.__mul__» ⟨[.ref l, .int 1 u], []⟩) (fun _ R s => (∃ dd sl, s.heap.get? l = some { cls := .type "tuple", dict := dd, data := .seq items n, slots := sl }) ∧ R (.ok (.ret (Value.ref l))) s) :=
  .of_wp fun prog w A R s h => by
    obtain ⟨hp, g, d, tk, os⟩ := s
    obtain ⟨⟨dd, sl, hl⟩, h⟩ := h
    have f1 := AutoSeq1.idx_int
    have c0 : (decide ((1 : Int) < -(2 ^ 63)) || decide ((1 : Int) ≥ 2 ^ 63)) = false := by decide
    have c1 : (items.isEmpty || ((1 : Int) == 1)) = true := by rw [Bool.or_eq_true]; right; decide
    wp_walk using wpAny_loadPart' hl
    repeat (first
      | (refine wpAny_ite_false (decide_eq_false (by rw [c0]; exact Bool.false_ne_true)) ?_; wp_walk using wpAny_loadPart' hl)
      | (refine wpAny_ite_true (decide_eq_true (by rw [c1])) ?_; wp_walk using wpAny_loadPart' hl))
    exact ⟨_, rfl, h⟩
section
variable {X : Cx}
/-- t * 1 is t -/
theorem op_tup1 : OpR X (binaryOp .Mult) (fun x y H Q => ∃ l xs, x = .ref l ∧ y = .int 1 ∧ SqT X.K H l xs ∧ Q (.ref l) H) := by
  intro pins s σ H x y v u Q I rx ry h
  obtain ⟨l, xs, rfl, rfl, hT, q⟩ := h
  cases rx
  obtain ⟨t, rfl⟩ := ry
  obtain ⟨its, r, ⟨⟨cls, dd, data, sl⟩, ho, hc, n, hd⟩, hs⟩ := I.tuple hT
  simp only at hc hd
  subst hc hd
  exact wpAny_binaryOp_repeat_ref (T := "tuple") (U := "int") (by decide) ⟨_, ho, rfl⟩ (fun s' => typeIs_int s' 1 t) noFill_tuple_mul F.fills_int_mul F.slot_int_rmul repeat_tuple F.slot_int_index.lookup
    (call_meets F.slot_int_rmul (typeIs_int s 1 t) F.entry_int_rmul (F.args_int_rmul_2 _ _) (int_rmul_tuple 1 t l its.toArray n dd sl)
      ⟨ho, rfl, ⟨_, ho, rfl⟩, call_meets F.slot_tuple_mul ⟨_, ho, rfl⟩ F.entry_tuple_mul (F.args_tuple_mul_2 _ _) (tup_by_one l its.toArray n t) ⟨⟨dd, sl, ho⟩, ⟨.ref l, H, I, rfl, q⟩⟩⟩)
/-- // by any number but 0 that is not too great -/
theorem op_fdivA : OpR X (binaryOp .FloorDiv) (rI (fun _ j => j ≠ 0 ∧ j.natAbs.log2 < 9000) fun i j => .int (i.fdiv j)) :=
  opI fun _ _ _ _ _ _ _ hc q => floordiv_int hc.1 q (.inl (PyProof.noPylong_of_log2 hc.2))
theorem op_powA : OpR X (binaryOp .Pow) (rI (fun i j => 2 ≤ i ∧ 1 ≤ j ∧ j ≤ 1000 ∧ i.natAbs.log2 < 4000) fun i j => .int (i ^ j.toNat)) :=
  opI fun i j _ _ _ _ _ hc q => pow_int (by omega) (by
    obtain ⟨_, h1, h2, h3⟩ := hc
    have hb : (Builtin.Int.intBits i : Int) ≤ 4000 := by
      unfold Builtin.Int.intBits
      split <;> omega
    have h4 : (Builtin.Int.intBits i : Int) * j ≤ 4000 * 1000 := Int.mul_le_mul hb h2 (by omega) (by omega)
    omega) q
theorem ok_lay : ∀ (n : Nat) (d : D), d.ok n = true → d.py.canLay0 = true ∧ d.py.depth ≤ n := by
  have all : ∀ (n : Nat), (∀ d : D, d.ok n = true → d.py.canLay0 = true ∧ d.py.depth ≤ n) → ∀ ds : List D, ds.all (D.ok n) = true → PyData.canLayAll0 (D.pyA ds) = true ∧ PyData.depthAll (D.pyA ds) ≤ n := by
    intro n ih ds
    induction ds with
    | nil => intro _; exact ⟨by simp [D.pyA, PyData.canLayAll0], by simp [D.pyA, PyData.depthAll]⟩
    | cons d ds ihd =>
      intro h
      rw [List.all_cons, Bool.and_eq_true] at h
      obtain ⟨h1, h2⟩ := ih d h.1
      obtain ⟨h3, h4⟩ := ihd h.2
      refine ⟨by simp [D.pyA, PyData.canLayAll0, h1, h3], ?_⟩
      simp only [D.pyA, PyData.depthAll]
      omega
  intro n
  induction n with
  | zero =>
    intro d h
    cases d <;> simp_all [D.ok, D.py, PyData.canLay0, PyData.depth]
  | succ n ih =>
    intro d h
    cases d with
    | tup ds =>
      obtain ⟨h1, h2⟩ := all n ih ds (by simpa [D.ok] using h)
      exact ⟨by simpa [D.py, PyData.canLay0] using h1, by simp only [D.py, PyData.depth]; omega⟩
    | lst ds =>
      obtain ⟨h1, h2⟩ := all n ih ds (by simpa [D.ok] using h)
      exact ⟨by simpa [D.py, PyData.canLay0] using h1, by simp only [D.py, PyData.depth]; omega⟩
    | _ => simp_all [D.ok, D.py, PyData.canLay0, PyData.depth]
theorem ok_layA (n : Nat) : ∀ ds : List D, ds.all (D.ok n) = true → PyData.canLayAll0 (D.pyA ds) = true
  | [], _ => by simp [D.pyA, PyData.canLayAll0]
  | d :: ds, h => by
    rw [List.all_cons, Bool.and_eq_true] at h
    simp [D.pyA, PyData.canLayAll0, (ok_lay n d h.1).1, ok_layA n ds h.2]
theorem ok_shaped {d : D} (h : d.ok 9 = true) : SeqAt.shaped d.py = true := by
  obtain ⟨h1, h2⟩ := ok_lay 9 d h
  unfold SeqAt.shaped
  rw [h1, decide_eq_true (show d.py.depth ≤ 64 by omega)] <;> rfl
theorem any_py (f : PyData → Bool) : ∀ ds : List D, (D.pyA ds).any f = ds.any fun d => f d.py
  | [] => rfl
  | d :: ds => by simp only [D.pyA, List.any_cons, any_py f ds]

/-! ### the two-place operators -/
def rBin (K : PySem.W.Frag) (o : BO) : R2 := fun x y H Q => ∃ B d e z, Sub B H ∧ RpS K B H x d ∧ RpS K B H y e ∧ binOp o d e = some z ∧ ResP K H B Q z
theorem lim_le {n : Nat} (h : n ≤ lim) : n ≤ sizeLine := Nat.le_trans h lim_line
theorem RpA.flat {K : PySem.W.Frag} {B : Hp} {xs : List V} {ds : List D} (r : RpA K B xs ds) : ∀ k : Nat, RpA K B (List.replicate k xs).flatten (List.replicate k ds).flatten
  | 0 => .nil
  | k + 1 => by
    rw [List.replicate_succ, List.replicate_succ, List.flatten_cons, List.flatten_cons]
    exact r.app (r.flat k)
theorem bin_ok (o : BO) : OpR X (binaryOp o.op) (rBin X.K o) := by
  intro pins s σ H x y v u Q I rx ry h
  obtain ⟨B, d, e, z, sb, hx, hy, hz, q⟩ := h
  unfold binOp at hz
  split at hz
  · cases hz; cases hx.int; cases hy.int
    exact op_add pins s σ H _ _ v u Q I rx ry ⟨_, _, rfl, rfl, q.int sb⟩
  · split at hz
    · cases hz; cases hx.str; cases hy.str
      exact op_add_str pins s σ H _ _ v u Q I rx ry ⟨_, _, rfl, rfl, lim_le (by assumption), q.str sb⟩
    · cases hz
  · split at hz
    · cases hz
      obtain ⟨a, xs, rfl, h1, r1⟩ := hx.lst sb
      obtain ⟨b, ys, rfl, h2, r2⟩ := hy.lst sb
      exact op_cat pins s σ H _ _ v u Q I rx ry ⟨a, b, xs, ys, rfl, rfl, h1, h2, by rw [r1.length, r2.length]; exact lim_le (by assumption), fun p n => q.lst sb (r1.app r2) n⟩
    · cases hz
  · split at hz
    · cases hz
      obtain ⟨a, xs, rfl, h1, r1⟩ := hx.tup sb
      obtain ⟨b, ys, rfl, h2, r2⟩ := hy.tup sb
      refine x_cat pins s σ H _ _ v u Q I rx ry ⟨a, b, xs, ys, rfl, rfl, h1, h2, by rw [r1.length, r2.length]; exact lim_le (by assumption), fun e => ?_, fun _ e => ?_, fun _ _ p o eo n => q.tup sb (r1.app r2) eo n⟩
      · subst e
        cases r1
        rcases hy with hy | ⟨_, _, _, _, w, _⟩
        · exact q.rp sb hy
        · cases w
      · subst e
        cases r2
        rw [List.append_nil] at q
        rcases hx with hx | ⟨_, _, _, _, w, _⟩
        · exact q.rp sb hx
        · cases w
    · cases hz
  · cases hz; cases hx.int; cases hy.int
    exact op_sub pins s σ H _ _ v u Q I rx ry ⟨_, _, rfl, rfl, q.int sb⟩
  · split at hz
    · cases hz; cases hx.int; cases hy.int
      exact op_mulW pins s σ H _ _ v u Q I rx ry ⟨_, _, rfl, rfl, by assumption, q.int sb⟩
    · cases hz
  · split at hz
    · cases hz
      rename_i xs k hc
      obtain ⟨a, xs', rfl, h1, r1⟩ := hx.lst sb
      cases hy.int
      refine op_rep pins s σ H _ _ v u Q I rx ry ⟨a, k, xs', rfl, rfl, h1, by omega, by omega, ?_, fun p n => q.lst sb (r1.flat _) n⟩
      rw [r1.length]
      have a1 : xs.length * k.toNat ≤ 1000 * 1000 := Nat.mul_le_mul hc.2.2 (by omega)
      rw [sizeLine_eq]
      omega
    · cases hz
  · split at hz
    · cases hz
      rename_i xs k hc
      obtain ⟨hne, hk1, hk2, hl⟩ := hc
      obtain ⟨a, xs', rfl, h1, r1⟩ := hx.tup sb
      cases hy.int
      by_cases hk : k = 1
      · subst hk
        refine op_tup1 pins s σ H _ _ v u Q I rx ry ⟨a, xs', rfl, rfl, h1, ?_⟩
        have e : (List.replicate (1 : Int).toNat xs).flatten = xs := by simp
        rw [e] at q
        rcases hx with hx | ⟨_, _, _, _, w, _⟩
        · exact q.rp sb hx
        · cases w
      · refine x_rep pins s σ H _ _ v u Q I rx ry ⟨a, k, xs', rfl, rfl, h1, fun e => hne ?_, by omega, hk2, by rw [r1.length]; exact hl, fun p o eo n => q.tup sb (r1.flat _) eo n⟩
        subst e
        cases r1
        rfl
    · cases hz
  · split at hz
    · cases hz; cases hx.int; cases hy.int
      exact op_fdivA pins s σ H _ _ v u Q I rx ry ⟨_, _, rfl, rfl, by assumption, q.int sb⟩
    · cases hz
  · split at hz
    · cases hz; cases hx.int; cases hy.int
      exact op_modN pins s σ H _ _ v u Q I rx ry ⟨_, _, rfl, rfl, by assumption, q.int sb⟩
    · cases hz
  · split at hz
    · cases hz; cases hx.int; cases hy.int
      exact op_powA pins s σ H _ _ v u Q I rx ry ⟨_, _, rfl, rfl, by assumption, q.int sb⟩
    · cases hz
  · cases hz

/-! ### comparisons -/
def rCmp (K : PySem.W.Frag) (o : CO) : R2 := fun x y H Q => ∃ B d e z, Sub B H ∧ RpS K B H x d ∧ RpS K B H y e ∧ cmpOp o d e = some z ∧ Q (.bl z) H
theorem intsOf_map : ∀ {ds : List D} {ns : List Int}, intsOf ds = some ns → ds = ns.map D.int
  | [], ns, h => by cases h; rfl
  | d :: ds, ns, h => by
    unfold intsOf at h
    cases d <;> simp only [D.toInt?] at h <;> try (exact absurd h (by simp))
    rename_i i
    cases e : intsOf ds with
    | none => rw [e] at h; exact absurd h (by simp)
    | some ms =>
      rw [e] at h
      cases h
      rw [intsOf_map e]; rfl
theorem blsOf_map : ∀ {ds : List D} {ns : List Bool}, blsOf ds = some ns → ds = ns.map D.bl
  | [], ns, h => by cases h; rfl
  | d :: ds, ns, h => by
    unfold blsOf at h
    cases d <;> simp only [D.toBl?] at h <;> try (exact absurd h (by simp))
    rename_i i
    cases e : blsOf ds with
    | none => rw [e] at h; exact absurd h (by simp)
    | some ms =>
      rw [e] at h
      cases h
      rw [blsOf_map e]; rfl
theorem room9 {A : Around} {a b : PyData} (h : a.depth ≤ 9) (hu : A.units + 65 < cLine) : A.units + 1 + min b.depth a.depth < cLine := by
  have := Nat.min_le_right b.depth a.depth
  omega
theorem cmp_ok (o : CO) (hu : X.A.units + 65 < cLine) : OpR X (compareOp o.op) (rCmp X.K o) := by
  intro pins s σ H x y v u Q I rx ry h
  obtain ⟨B, d, e, z, sb, hx, hy, hz, q⟩ := h
  have eqs : ∀ {r : Bool}, eqOp d e = some r → SeqAt.shaped d.py = true ∧ SeqAt.shaped e.py = true ∧ r = PyData.eqv d.py e.py := by
    intro r h
    unfold eqOp at h
    split at h
    · rename_i hc
      rw [Bool.and_eq_true] at hc
      cases h
      exact ⟨ok_shaped hc.1, ok_shaped hc.2, rfl⟩
    · cases h
  have ins : ∀ {r : Bool}, inOp d e = some r → ∃ ds, (e = .lst ds ∨ e = .tup ds) ∧ d.ok 9 = true ∧ ds.all (D.ok 9) = true ∧ r = (D.pyA ds).any fun z => PyData.eqv z d.py := by
    intro r h
    unfold inOp at h
    split at h
    · rename_i ds hs
      split at h
      · rename_i hc
        rw [Bool.and_eq_true] at hc
        cases h
        refine ⟨ds, ?_, hc.1, hc.2, (any_py (fun z => PyData.eqv z d.py) ds).symm⟩
        unfold D.seq? at hs
        split at hs <;> cases hs
        · exact .inl rfl
        · exact .inr rfl
      · cases h
    · cases h
  unfold cmpOp at hz
  split at hz
  · obtain ⟨s1, s2, rfl⟩ := eqs hz
    exact op_eqD (by omega) pins s σ H _ _ v u Q I rx ry ⟨_, _, hx.dp sb, hy.dp sb, s1, s2, q⟩
  · cases hq : eqOp d e with
    | none => rw [hq] at hz; cases hz
    | some r =>
      rw [hq] at hz; cases hz
      obtain ⟨s1, s2, rfl⟩ := eqs hq
      exact op_neD (by omega) pins s σ H _ _ v u Q I rx ry ⟨_, _, hx.dp sb, hy.dp sb, s1, s2, q⟩
  · cases hz; cases hx.int; cases hy.int
    exact op_lt pins s σ H _ _ v u Q I rx ry ⟨_, _, rfl, rfl, q⟩
  · cases hz; cases hx.int; cases hy.int
    exact op_le pins s σ H _ _ v u Q I rx ry ⟨_, _, rfl, rfl, q⟩
  · cases hz; cases hx.int; cases hy.int
    exact op_gt pins s σ H _ _ v u Q I rx ry ⟨_, _, rfl, rfl, q⟩
  · cases hz; cases hx.int; cases hy.int
    exact op_ge pins s σ H _ _ v u Q I rx ry ⟨_, _, rfl, rfl, q⟩
  · split at hz
    · rename_i e1 e2
      cases hz
      cases intsOf_map e1
      cases intsOf_map e2
      obtain ⟨a, xs, rfl, h1, r1⟩ := hx.tup sb
      obtain ⟨b, ys, rfl, h2, r2⟩ := hy.tup sb
      cases r1.ints
      cases r2.ints
      exact op_ltT (by omega) pins s σ H _ _ v u Q I rx ry ⟨a, b, _, _, rfl, rfl, h1, h2, q⟩
    · cases hz
  · cases hz
    cases hy.non
    refine op_isN pins s σ H _ _ v u Q I rx ry ⟨rfl, ?_⟩
    have e : decide (x = V.non) = d.isNon := by
      rcases hx with hx | ⟨a, xs, ds, rfl, rfl, _⟩
      · cases hx <;> rfl
      · rfl
    rw [e]; exact q
  · cases hz
    cases hy.non
    refine op_notN pins s σ H _ _ v u Q I rx ry ⟨rfl, ?_⟩
    have e : (!decide (x = V.non)) = !d.isNon := by
      rcases hx with hx | ⟨a, xs, ds, rfl, rfl, _⟩
      · cases hx <;> rfl
      · rfl
    rw [e]; exact q
  · obtain ⟨ds, hd, o1, o2, rfl⟩ := ins hz
    obtain ⟨as, r1⟩ := Dp.reads I d.py x v (hx.dp sb) rx
    obtain ⟨bs, r2⟩ := Dp.reads I e.py y u (hy.dp sb) ry
    obtain ⟨l1, l2⟩ := ok_lay 9 d o1
    have l3 := ok_layA 9 ds o2
    have rm : X.A.units + 1 + min (PyData.depthAll (D.pyA ds)) d.py.depth < cLine := by
      have := Nat.min_le_right (PyData.depthAll (D.pyA ds)) d.py.depth
      omega
    rcases hd with rfl | rfl
    · exact SeqAt.in_list_reads r2 r1 l3 l1 rm ⟨.bl _, H, I, rfl, q⟩
    · exact SeqAt.in_tuple_reads r2 r1 l3 l1 rm ⟨.bl _, H, I, rfl, q⟩
  · cases hq : inOp d e with
    | none => rw [hq] at hz; cases hz
    | some r =>
      rw [hq] at hz; cases hz
      obtain ⟨ds, hd, o1, o2, rfl⟩ := ins hq
      obtain ⟨as, r1⟩ := Dp.reads I d.py x v (hx.dp sb) rx
      obtain ⟨bs, r2⟩ := Dp.reads I e.py y u (hy.dp sb) ry
      obtain ⟨l1, l2⟩ := ok_lay 9 d o1
      have l3 := ok_layA 9 ds o2
      have rm : X.A.units + 1 + min (PyData.depthAll (D.pyA ds)) d.py.depth < cLine := by
        have := Nat.min_le_right (PyData.depthAll (D.pyA ds)) d.py.depth
        omega
      rcases hd with rfl | rfl
      · exact SeqAt.notIn_list_reads r2 r1 l3 l1 rm ⟨.bl _, H, I, rfl, q⟩
      · exact SeqAt.notIn_tuple_reads r2 r1 l3 l1 rm ⟨.bl _, H, I, rfl, q⟩
  · cases hz
end
end Mi

/-! MiSort: sorted of tuples of ints, of any length and number. -/
namespace Mi
open PySem PySem.Spec PyProof.Rows L2

/-- v is a tuple of the ints ns -/
def IsTI (h : Heap) (v : Value) (ns : List Int) : Prop := ∃ (a : Addr) (items : Array Value), v = .ref a ∧ IsTup h a items ∧ IntsAre items.toList ns
theorem IsTI.keeps {h h' : Heap} {v : Value} {ns : List Int} (x : IsTI h v ns) (k : ∀ b o, v = .ref b → h.get? b = some o → h'.get? b = some o) : IsTI h' v ns := by
  obtain ⟨a, items, e, ⟨o, g, hc, n, hd⟩, i⟩ := x
  exact ⟨a, items, e, ⟨o, k _ _ e g, hc, n, hd⟩, i⟩
section
variable {prog : Program} {w : World} {A : Around} {E : Value → Shared → Prop} {s : Shared}
theorem ti_type {M : Model} {v : Value} {ns : List Int} (x : IsTI s.heap v ns) : PySem.W.Looks M s.heap (typeOf v) (.type "tuple") := by
  obtain ⟨a, items, rfl, ⟨o, g, hc, n, hd⟩, i⟩ := x
  rw [← hc]
  exact (PySem.W.Looks.ld g).andThen .now
/-- one after the other, item by item -/
theorem lex_ints {b : Bool} {Q : Bool → Shared → Prop} : ∀ {us ws : List Value} {ns ms : List Int} (i : Nat), IntsAre us ns → IntsAre ws ms → Q (HT.lexLt ns ms) s → PySem.W.KatLex prog w A b (decide (us.length < ws.length)) Q (us.zip ws) i s
  | [], [], _, _, i, .nil, .nil, h => PySem.W.kat_nil h
  | [], _ :: _, _, _, i, .nil, .cons n t q, h => PySem.W.kat_nil (by simpa [HT.lexLt] using h)
  | _ :: _, [], _, _, i, .cons n t q, .nil, h => PySem.W.kat_nil (by simpa [HT.lexLt] using h)
  | _ :: us, _ :: ws, _, _, i, .cons (ns := ns) n t q, .cons (ns := ms) m u r, h => by
    rw [HT.lexLt_cons] at h
    rw [List.zip_cons_cons]
    refine PySem.W.kat_cons (SeqAt.EqAt.int_int n t m u prog w _ _ ?_)
    refine PySem.W.kat_go (fun e1 => ?_) (fun e1 => ?_)
    · have ex : n = m := by simpa using e1
      rw [if_pos ex] at h
      have ih := lex_ints (b := b) (i + 1) q r h
      refine PySem.W.kat_yes ?_
      have e : decide ((Value.int n t :: us).length < (Value.int m u :: ws).length) = decide (us.length < ws.length) := by simp
      rw [e]
      exact ih
    · have ex : ¬ n = m := by simpa using e1
      rw [if_neg ex] at h
      exact PySem.W.kat_no (oneLt_any_int h)
theorem lt_tuples {b : Bool} {v u : Value} {ns ms : List Int} {Q : Bool → Shared → Prop} (hv : IsTI s.heap v ns) (hw : IsTI s.heap u ms) (h : Q (HT.lexLt ns ms) s) : wpAny (model prog w) A (keyLt' (tuples' b) v u) Q E s := by
  obtain ⟨a, items, rfl, ⟨o, g, hc, n, hd⟩, i⟩ := hv
  obtain ⟨c, items2, rfl, ⟨o2, g2, hc2, n2, hd2⟩, i2⟩ := hw
  refine PySem.W.kat_lt g hd g2 hd2 ?_
  have := lex_ints (prog := prog) (w := w) (A := A) (b := b) 0 i i2 h
  rwa [Array.length_toList, Array.length_toList] at this
theorem lt_general {v u : Value} {ns ms : List Int} {Q : Bool → Shared → Prop} (hu : A.units < cLine) (hv : IsTI s.heap v ns) (hw : IsTI s.heap u ms) (h : Q (HT.lexLt ns ms) s) : wpAny (model prog w) A (keyLt' general' v u) Q E s := by
  obtain ⟨a, items, rfl, t, i⟩ := hv
  obtain ⟨c, items2, rfl, t2, i2⟩ := hw
  exact PySem.W.kat_one _ _ (HT.lt_tupInts t t2 i i2 hu h)
theorem lt_oneType {v u : Value} {ns ms : List Int} {Q : Bool → Shared → Prop} (hu : A.units < cLine) (hv : IsTI s.heap v ns) (hw : IsTI s.heap u ms) (h : Q (HT.lexLt ns ms) s) : wpAny (model prog w) A (keyLt' oneType' v u) Q E s := by
  obtain ⟨a, items, rfl, ⟨⟨cls, dd, data, sl⟩, g, hc, n, hd⟩, i⟩ := hv
  obtain ⟨c, items2, rfl, ⟨⟨cls2, dd2, data2, sl2⟩, g2, hc2, n2, hd2⟩, i2⟩ := hw
  simp only at hc hd hc2 hd2
  subst hc hd hc2 hd2
  rw [keyLt'_oneType, oneLt'_eq]
  simp only [if_true]
  refine wpAny_bind (wpAny_cRoomFor hu ?_)
  refine wpAny_bind (wpAny_callSpecialIfBound?_slot (T := "tuple") ⟨_, g, rfl⟩ PySem.F.slot_tuple_lt (call_meets PySem.F.slot_tuple_lt ⟨_, g, rfl⟩ PySem.F.entry_tuple_lt (PySem.F.args_tuple_lt_2 _ _) (HT.tuple_lt_ints a c items items2 n n2 dd dd2 sl sl2 _ _ i i2) ⟨g, g2, ?_⟩))
  exact wpAny_truthy_bool h
end
section
variable {M : Model} {A : Around} {E : Value → Shared → Prop} {s : Shared}
theorem ti_first {v : Value} {ns : List Int} (x : IsTI s.heap v ns) : ∃ f : Option Value, (f.isSome = true ↔ ns ≠ []) ∧ ∀ Q : Option Value → Shared → Prop, Q f s → wpAny M A (firstOfTuple' v) Q E s := by
  obtain ⟨a, items, rfl, ⟨o, g, hc, n, hd⟩, i⟩ := x
  refine ⟨items[0]?, ?_, fun Q hq => ?_⟩
  · have hl := i.length
    rw [Array.length_toList] at hl
    cases ns with
    | nil => simp at hl; simp [hl]
    | cons x ns => simp at hl; simp [hl]
  · rw [PySem.W.kas_first_eq]
    refine wpAny_bind (PySem.W.Looks.here (show PySem.W.Looks M s.heap (typeOf (.ref a)) o.cls from (PySem.W.Looks.ld g).andThen .now) ?_)
    rw [hc, if_neg (by first | decide | simp)]
    exact wpAny_bind (listItems_at g hd (wpAny_pure hq))
theorem ti_firsts {k : Value → List Int} : ∀ (vs : List Value), (∀ v ∈ vs, IsTI s.heap v (k v)) → ∃ fs : List (Option Value), Paired (fun v f => Option.isSome f = true ↔ k v ≠ []) vs fs ∧ ∀ Q : List (Option Value) → Shared → Prop, Q fs s → wpAny M A (vs.mapM firstOfTuple') Q E s
  | [], _ => ⟨[], .nil, fun Q hq => by rw [List.mapM_nil]; exact wpAny_pure hq⟩
  | v :: vs, h => by
    obtain ⟨f, h1, h2⟩ := ti_first (M := M) (A := A) (E := E) (h v List.mem_cons_self)
    obtain ⟨fs, h3, h4⟩ := ti_firsts vs fun w hw => h w (List.mem_cons_of_mem _ hw)
    refine ⟨f :: fs, .cons h1 h3, fun Q hq => ?_⟩
    rw [List.mapM_cons]
    exact wpAny_bind (h2 _ (wpAny_bind (h4 _ (wpAny_pure hq))))
theorem ti_katTups {k : Value → List Int} : ∀ (vs : List Value), (∀ v ∈ vs, IsTI s.heap v (k v) ∧ k v ≠ []) → ∃ fs : List Value, PySem.W.KatTups s.heap vs fs ∧ fs.length = vs.length ∧ ∀ f ∈ fs, ∃ x t, f = Value.int x t
  | [], _ => ⟨[], PySem.W.KatTups.nil, rfl, fun f h => (by cases h)⟩
  | v :: vs, h => by
    obtain ⟨fs, h1, h2, h3⟩ := ti_katTups vs fun w hw => h w (List.mem_cons_of_mem _ hw)
    obtain ⟨⟨a, items, rfl, ⟨o, g, hc, n, hd⟩, i⟩, hne⟩ := h v List.mem_cons_self
    generalize k (.ref a) = ns at i hne
    have hi : ∃ x t, items[0]? = some (Value.int x t) := by
      have e : items[0]? = items.toList[0]? := by simp
      rw [e]
      generalize items.toList = us at i
      cases i with
      | nil => exact absurd rfl hne
      | cons x t _ => exact ⟨x, t, rfl⟩
    obtain ⟨x, t, hx⟩ := hi
    refine ⟨.int x t :: fs, PySem.W.KatTups.cons g hc hd hx h1, by simp [h2], fun f hf => ?_⟩
    rcases List.mem_cons.mp hf with rfl | hf
    · exact ⟨x, t, rfl⟩
    · exact h3 f hf
/-- which of the three ways to compare is taken -/
theorem ti_kind {k : Value → List Int} {vs : List Value} (h0 : 0 < vs.length) (hv : ∀ v ∈ vs, IsTI s.heap v (k v)) :
    ∃ κ, (κ = tuples' true ∨ κ = oneType' ∨ κ = general') ∧ ∀ (M : Model) (A : Around) (E : Value → Shared → Prop) (Q : SortKind → Shared → Prop), Q κ s → wpAny M A (keyKind' vs.toArray) Q E s := by
  by_cases hall : ∀ v ∈ vs, k v ≠ []
  · refine ⟨tuples' true, .inl rfl, fun M A E Q hq => ?_⟩
    obtain ⟨fs, h1, h2, h3⟩ := ti_katTups (s := s) (k := k) vs fun v hm => ⟨hv v hm, hall v hm⟩
    refine PySem.W.kat_kind (T := .type "int") h1 (by omega) (fun f hm => ?_) (by rfl) ?_
    · obtain ⟨x, t, rfl⟩ := h3 f hm
      exact PySem.W.Looks.now
    · have e : (Value.type "int" != Value.type "tuple") = true := by first | decide +kernel | rfl | decide
      rw [e]
      exact hq
  · have tail : ∀ (M : Model) (A : Around) (E : Value → Shared → Prop) (fs : List (Option Value)), Paired (fun v f => Option.isSome f = true ↔ k v ≠ []) vs fs → ∀ Q : SortKind → Shared → Prop, Q (if k (vs.headD .none) ≠ [] then general' else oneType') s → wpAny M A (do
        if (fs.toArray.all fun x => x.isSome) = true then
          rule "list.sort.keys-are-tuples"
          return tuples' ((← oneTypeOnly' (fs.toArray.filterMap id)).any (· != .type "tuple"))
        if (fs.toArray[0]?.bind id).isSome = true then return general'
        return if (← oneTypeOnly' vs.toArray).isSome = true then oneType' else general') Q E s := by
      intro M A E fs hp Q hq
      have h1 : ¬ (fs.toArray.all fun x => x.isSome) = true := by
        intro z
        apply hall
        intro v hm
        have z2 : fs.all (fun x => x.isSome) = true := by simpa using z
        obtain ⟨f, hf, q⟩ : ∃ f, f ∈ fs ∧ (Option.isSome f = true ↔ k v ≠ []) := by
          clear hq hv hall h0 z z2
          induction hp with
          | nil => cases hm
          | cons r t ih =>
            rcases List.mem_cons.mp hm with rfl | hm
            · exact ⟨_, List.mem_cons_self, r⟩
            · obtain ⟨f, h1, h2⟩ := ih hm
              exact ⟨f, List.mem_cons_of_mem _ h1, h2⟩
        exact q.mp (List.all_eq_true.mp z2 f hf)
      rw [if_neg h1]
      cases hp with
      | nil => simp at h0
      | @cons v f vs fs r t =>
        have e0 : ((f :: fs).toArray[0]?.bind id) = f := by simp
        rw [e0]
        by_cases c : k v = []
        · have hf : ¬ f.isSome = true := fun z => r.mp z c
          have hq : Q oneType' s := by simpa [c] using hq
          rw [if_neg hf]
          rw [oneTypeOnly'_eq, List.mapM_toArray, map_eq_pure_bind]
          refine wpAny_bind (wpAny_bind (wpAny_bind (PySem.W.kas_mapM (r := Value.type "tuple") _ (fun u hu Q' hq' => (ti_type (hv u hu)).here hq') (wpAny_pure ?_))))
          have hall2 : ((List.map (fun _ => Value.type "tuple") (v :: vs)).toArray.all fun x => x == Value.type "tuple") = true := by
            simp only [List.all_toArray, List.all_map, List.all_eq_true]
            intro _ _
            first | rfl | decide +kernel
          have h0' : (List.map (fun _ => Value.type "tuple") (v :: vs)).toArray[0]? = some (Value.type "tuple") := by simp
          rw [h0']
          simp only [hall2, if_true]
          exact wpAny_pure (wpAny_pure hq)
        · have hf : f.isSome = true := r.mpr c
          have hq : Q general' s := by simpa [c] using hq
          rw [if_pos hf]
          exact wpAny_pure hq
    refine ⟨if k (vs.headD .none) ≠ [] then general' else oneType', ?_, fun M A E Q hq => ?_⟩
    · split
      · exact .inr (.inr rfl)
      · exact .inr (.inl rfl)
    · obtain ⟨fs, h1, h2⟩ := ti_firsts (M := M) (A := A) (E := E) (k := k) vs hv
      rw [keyKind'_eq, List.mapM_toArray, map_eq_pure_bind]
      exact wpAny_bind (wpAny_bind (h2 _ (wpAny_pure (tail M A E fs h1 Q hq))))
end
section
variable {prog : Program} {w : World} {A : Around} {E : Value → Shared → Prop} {s : Shared}
theorem ti_sortable {a : Addr} {vs : List Value} {k : Value → List Int} (h0 : 0 < vs.length) (hu : A.units < cLine) (hv : ∀ v ∈ vs, IsTI s.heap v (k v)) (ha : ∀ o, s.heap.get? a = some o → o.cls ≠ .type "tuple") : SrtO.SortableO prog w A s a vs fun v u => HT.lexLt (k v) (k u) := by
  intro h' keep
  have hv' : ∀ v ∈ vs, IsTI h' v (k v) := fun v hm => by
    obtain ⟨b, items, e, ⟨o, g, hc, n, hd⟩, i⟩ := hv v hm
    exact ⟨b, items, e, ⟨o, keep b o (fun z => by subst z; exact ha o g hc) g, hc, n, hd⟩, i⟩
  obtain ⟨κ, h1, h2⟩ := ti_kind (s := { s with heap := h' }) h0 hv'
  refine ⟨κ, fun Q E hq => h2 _ _ _ _ hq, fun p q hp hq => ?_⟩
  rcases h1 with rfl | rfl | rfl
  · exact lt_tuples (s := { s with heap := h' }) (Q := fun r s' => s' = { s with heap := h' } ∧ r = HT.lexLt (k p.1) (k q.1)) (E := fun _ _ => False) (hv' p.1 hp) (hv' q.1 hq) ⟨rfl, rfl⟩
  · exact lt_oneType (s := { s with heap := h' }) (Q := fun r s' => s' = { s with heap := h' } ∧ r = HT.lexLt (k p.1) (k q.1)) (E := fun _ _ => False) hu (hv' p.1 hp) (hv' q.1 hq) ⟨rfl, rfl⟩
  · exact lt_general (s := { s with heap := h' }) (Q := fun r s' => s' = { s with heap := h' } ∧ r = HT.lexLt (k p.1) (k q.1)) (E := fun _ _ => False) hu (hv' p.1 hp) (hv' q.1 hq) ⟨rfl, rfl⟩
end
/-- x before y, as tuples of ints -/
abbrev ltTI (k : V → List Int) (x y : V) : Bool := HT.lexLt (k x) (k y)
def rSortedTI (K : PySem.W.Frag) : List V → Hp → VK → Prop := fun vs H Q => ∃ (a : Addr) (xs : List V) (k : V → List Int), vs = [V.ref a] ∧ SqL K H a xs ∧ (∀ x ∈ xs, ∃ t, x = V.ref t ∧ SqT K H t ((k x).map V.int)) ∧
  ∀ ys p, SrtO.Srtd (ltTI k) ys → SrtO.Stb (ltTI k) ys xs → H p = none → Q (.ref p) (L2.upd H p (.lst ys))
section
variable {X : Cx}
theorem cr_sortedTI (hu : X.A.units + 65 < cLine) : CallR X (.builtin "sorted") (rSortedTI X.K) := by
  intro pins s σ H vs us Q I r h
  obtain ⟨a, xs, k, rfl, hs, hx, q⟩ := h
  obtain ⟨its, rv, hl, hz⟩ := I.list hs
  obtain ⟨u, rfl, ru⟩ := vals1 r
  obtain rfl : u = Value.ref a := ru
  obtain ⟨e1, e2⟩ := refs_back rv fun x m => by
    obtain ⟨t, e, _⟩ := hx x m
    exact ⟨t, e⟩
  have hti : ∀ v ∈ its, IsTI s.heap v (k (backV v)) := fun v hv => by
    obtain ⟨t, rfl⟩ := e2 v hv
    have hm : V.ref t ∈ xs := by rw [e1]; exact List.mem_map.mpr ⟨_, hv, rfl⟩
    obtain ⟨t', e, ht⟩ := hx _ hm
    cases e
    obtain ⟨its2, r2, p2, _⟩ := I.tuple ht
    exact ⟨t, its2.toArray, rfl, p2, intsAre_of r2⟩
  refine SrtO.sorted_ord (NtL.swo_lexL fun u => k (backV u)) hl.isList (by rw [← rv.length]; exact hz) (fun h2 h₁ b hb kk => ?_) fun out h1 h2 => ?_
  · refine ti_sortable (s := { s with heap := h₁ }) (by omega) (by show X.A.units + 1 + 1 < cLine; omega) (fun v hv => (hti v hv).keeps fun b o _ e => (kk b o e).2) fun o e => ?_
    have e' : some o = some (seqObj "list" its.toArray 0) := e.symm.trans hb
    cases e'
    intro c
    exact absurd (Value.type.inj c) (by decide)
  · have h3 : ∀ u ∈ out, ∃ a, u = Value.ref a := fun u hu => e2 u (h2.perm.mem_iff.mp hu)
    have hsw : SrtO.Swo (ltTI k) := NtL.swo_lexL k
    have hb : SrtO.Stb (ltTI k) (out.map backV) xs := by
      rw [e1]
      exact SrtO.Stb.map hsw backV h2
    refine ⟨.ref (s.heap.objs.size + 1), L2.upd H (s.heap.objs.size + 1) (.lst (out.map backV)), I.laid (t' := s.toks) (fun b o e => sortedAll_old e) (Nat.le_succ _) ⟨?_, out, _, vals_back h3, (sortedAll_at s.heap its out.toArray).choose_spec⟩, rfl, q _ _ (SrtO.srtd_map h1) hb (I.hok.fresh (Nat.le_succ _))⟩
    rw [hb.len]
    exact hz
end
end Mi

/-! Mi4: the built-ins do what the evaluator says. -/
namespace Mi
open PySem PySem.Spec PyProof.Rows L2

/-! ### sum of lists -/
section
variable {prog : Program} {w : World} {A : Around} {R : Result → Shared → Prop} {I : Addr} {fp wr : List Addr} {n : Nat} {P : Nat → Value → Prop} {St : Nat → Heap → Prop}
/-- what a list holds, whatever its bookkeeping -/
abbrev Holds (h : Heap) (a : Addr) (vs : List Value) : Prop := ∃ c, h.get? a = some { cls := .type "list", dict := none, data := .seq vs.toArray c, slots := #[] }
theorem args_sum2 (a b : Value) : argsOk "sum" ⟨[a, b], []⟩ := by unfold argsOk; kernel_rfl
theorem code_sum_lists (W : Walks prog w A.in1 I fp wr n P St) (row : Nat → List Value) (h0 : Heap) (hval : ∀ i v, i < n → P i v → ∃ a, v = .ref a ∧ Holds h0 a (row i)) (hwr : ∀ b ∈ wr, h0.get? b = none) (S : Addr) (hSf : S ∉ fp) (hS0 : h0.get? S = none) (hIf : I ∈ fp) (hal : ∀ i h, St i h → ∀ b ∈ fp, ∃ o, h.get? b = some o)
    (hsz : ((List.range n).map fun i => (row i).length).sum ≤ sizeLine) :
    ∀ (k i : Nat) (s : Shared) (st : Int) (p : Addr) (c : Nat), n - i = k → i ≤ n → St i s.heap → (∀ b o, h0.get? b = some o → s.heap.get? b = some o) → (p ∉ fp) → (p ≠ S) → Holds s.heap p ((List.range i).map row).flatten →
    s.heap.get? S = some { cls := .type "list", dict := none, data := .seq #[.ref p] c, slots := #[] } → (st = 2) →
    (∀ h' tk q, (∀ b o, h0.get? b = some o → h'.get? b = some o) → (∀ b o, b ∉ wr → b ≠ S → s.heap.get? b = some o → h'.get? b = some o) → Holds h' q ((List.range n).map row).flatten → (i = n → q = p) → (i < n → I < q) → R (.ok (.ret (.ref q))) { s with heap := h', toks := tk }) →
    codeAny (model prog w) A (.builtin "sum.loop" ⟨[.ref I, .ref S, rawInt st, rawInt 0], []⟩) R s := by
  have hSw : S ∉ wr := fun h => hSf (W.sub _ h)
  intro k
  induction k with
  | zero =>
    intro i s st p c hk hi hst hold hpf hpS hp hS hs2 hR
    have hin : i = n := by omega
    subst hin
    refine codeAny_builtin F.entry_sum_loop ?_
    rw [Around.under_plainId F.plain_sum_loop _]
    show wpAny _ A.in1 (seqItems? (.ref S) >>= _) _ _ s
    refine wpAny_bind (wpAny_seqItems hS rfl ?_)
    show wpAny _ A.in1 (tryCatch (pyNext (.ref I)) _ >>= _) _ _ s
    refine wpAny_bind (wpAny_tryCatch (W.done s _ _ hst fun h' tk hk' => ?_))
    have nw : ∀ b o, h0.get? b = some o → b ∉ wr := fun b o e hb => by rw [hwr b hb] at e; cases e
    obtain ⟨c2, hp2⟩ := hp
    exact wpAny_pure (hR h' tk p (fun b o e => hk' b o (nw b o e) (hold b o e)) (fun b o hb _ e => hk' b o hb e) ⟨c2, hk' p _ (fun hb => hpf (W.sub _ hb)) hp2⟩ (fun _ => rfl) fun h => absurd h (Nat.lt_irrefl _))
  | succ k ih =>
    intro i s st p c hk hi hst hold hpf hpS hp hS hs2 hR
    subst hs2
    have hlt : i < n := by omega
    have nw : ∀ b o, h0.get? b = some o → b ∉ wr := fun b o e hb => by rw [hwr b hb] at e; cases e
    refine codeAny_builtin F.entry_sum_loop ?_
    rw [Around.under_plainId F.plain_sum_loop _]
    show wpAny _ A.in1 (seqItems? (.ref S) >>= _) _ _ s
    refine wpAny_bind (wpAny_seqItems hS rfl ?_)
    show wpAny _ A.in1 (tryCatch (pyNext (.ref I)) _ >>= _) _ _ s
    refine wpAny_bind (wpAny_tryCatch (W.item i s _ _ hlt hst fun v h' tk hP hst' hk' => ?_))
    obtain ⟨a, rfl, ca, ha⟩ := hval i v hlt hP
    obtain ⟨c2, hp2⟩ := hp
    have hS' := hk' S _ hSw hS
    have hp' := hk' p _ (fun hb => hpf (W.sub _ hb)) hp2
    have ha' := hk' a _ (nw a _ ha) (hold a _ ha)
    have e1 : ((List.range (i + 1)).map row).flatten = ((List.range i).map row).flatten ++ row i := by
      rw [List.range_succ, List.map_append, List.flatten_append]
      simp
    have len : ∀ (j : Nat), ((List.range j).map row).flatten.length = ((List.range j).map fun i => (row i).length).sum := by
      intro j
      rw [List.length_flatten, List.map_map]; rfl
    have mono : ∀ (d j : Nat), ((List.range j).map fun i => (row i).length).sum ≤ ((List.range (j + d)).map fun i => (row i).length).sum := by
      intro d j
      induction d with
      | zero => exact Nat.le_refl _
      | succ d ihd =>
        rw [show j + (d + 1) = (j + d) + 1 by omega, List.range_succ, List.map_append, List.sum_append]
        omega
    have hz : (((List.range i).map row).flatten ++ row i).length ≤ sizeLine := by
      rw [← e1, len]
      have := mono (n - (i + 1)) (i + 1)
      rw [show i + 1 + (n - (i + 1)) = n by omega] at this
      omega
    show wpAny _ A.in1 ((holding [Value.ref a] (binaryOp .Add (.ref p) (.ref a))).attempt >>= _) _ _ _
    refine wpAny_bind (wpAny_attempt (wpAny_holding ?_))
    refine PySem.P.add_list hp' ha' ?_ (by rw [List.size_toArray, List.size_toArray]; rw [List.length_append] at hz; omega)
    generalize hh1 : h'.push { cls := .type "list", data := .seq (((List.range i).map row).flatten.toArray ++ (row i).toArray) } = h1
    have k1 : ∀ b o, h'.get? b = some o → h1.get? b = some o := fun b o e => by rw [← hh1]; exact Heap.get?_push_of_some _ e
    have hq1 : h1.get? h'.objs.size = some { cls := .type "list", data := .seq (((List.range i).map row).flatten.toArray ++ (row i).toArray) } := by rw [← hh1]; exact Heap.get?_push_size _ rfl
    have hq2 : h1.get? h'.objs.size = some { cls := .type "list", data := .seq ((List.range (i + 1)).map row).flatten.toArray } := by
      rw [hq1, e1, List.append_toArray]
    have hS1 := k1 S _ hS'
    have nS : h'.objs.size ≠ S := fun e => by
      have := Heap.lt_size hS'
      rw [e] at this; exact absurd this (Nat.lt_irrefl _)
    show wpAny _ A.in1 (updateSeq S (fun _ => #[Value.ref h'.objs.size]) >>= _) _ _ _
    refine wpAny_bind (wpAny_updateSeq hS1 rfl ?_)
    have hS2 := Heap.get?_update_self (Obj.mapSeq fun _ => #[Value.ref h'.objs.size]) hS1 rfl
    refine wpAny_bind (wpAny_letGo ?_)
    have up : ∀ b o, b ≠ S → h1.get? b = some o → ((h1.update S (Obj.mapSeq fun _ => #[Value.ref h'.objs.size])).update S (Obj.mapSeq fun _ => #[Value.ref h'.objs.size])).get? b = some o := fun b o hb e =>
      (Heap.get?_update_other _ _ (Ne.symm hb)).trans ((Heap.get?_update_other _ _ (Ne.symm hb)).trans e)
    have nfp : h'.objs.size ∉ fp := fun hb => by
      obtain ⟨o, e⟩ := hal _ _ hst' _ hb
      exact absurd (Heap.lt_size e) (Nat.lt_irrefl _)
    have old : ∀ b o, b ∉ wr → b ≠ S → s.heap.get? b = some o → ((h1.update S (Obj.mapSeq fun _ => #[Value.ref h'.objs.size])).update S (Obj.mapSeq fun _ => #[Value.ref h'.objs.size])).get? b = some o :=
      fun b o hb hs e => up b o hs (k1 b o (hk' b o hb e))
    have hst2 : St (i + 1) ((h1.update S (Obj.mapSeq fun _ => #[Value.ref h'.objs.size])).update S (Obj.mapSeq fun _ => #[Value.ref h'.objs.size])) :=
      W.frame _ _ _ hst' fun b hb o e => up b o (fun z => hSf (z ▸ hb)) (k1 b o e)
    refine wpAny_bind (wpAny_updateSeq hS2 rfl (wpAny_pure ⟨plainId_quiet F.plain_sum_loop _, ?_⟩))
    refine ih (i + 1) _ 2 h'.objs.size _ (by omega) hlt hst2 (fun b o e => old b o (nw b o e) (fun z => by rw [z, hS0] at e; cases e) (hold b o e)) nfp nS ⟨_, up _ _ nS hq2⟩ (Heap.get?_update_self _ hS2 rfl) rfl ?_
    intro h'' tk'' q a1 a2 a3 a4 a5
    refine hR h'' tk'' q a1 (fun b o hb hs e => a2 b o hb hs (old b o hb hs e)) a3 (fun z => absurd z (by omega)) fun _ => ?_
    by_cases hin : i + 1 = n
    · have e := a4 hin
      subst e
      obtain ⟨o, e⟩ := hal _ _ hst' I hIf
      exact Heap.lt_size e
    · exact a5 (by omega)
end
section
variable {prog : Program} {w : World} {A : Around} {E : Value → Shared → Prop} {s : Shared}
/-- sum(l, start), l a list of lists, start a list without items: start itself, or a new list -/
theorem call_sum_lists {l st : Addr} {as : List Addr} {rows : List (List Value)} {n c : Nat} {Q : Value → Shared → Prop} (hh : A.handled = none) (hl0 : l ≠ st)
    (hl : s.heap.get? l = some { cls := .type "list", dict := none, data := .seq (as.map Value.ref).toArray n, slots := #[] })
    (hst : s.heap.get? st = some { cls := .type "list", dict := none, data := .seq #[] c, slots := #[] })
    (hr : Paired (fun (a : Addr) (vs : List Value) => Holds s.heap a vs) as rows) (hsz : rows.flatten.length ≤ sizeLine)
    (h : ∀ h' tk q, (∀ b o, s.heap.get? b = some o → h'.get? b = some o) → Holds h' q rows.flatten → (q = st ∨ s.heap.objs.size ≤ q) → Q (.ref q) { s with heap := h', toks := tk }) :
    wpAny (model prog w) A (call (.builtin "sum") [.ref l, .ref st]) Q E s := by
  have hlist : s.heap.IsList l (as.map Value.ref).toArray := ⟨_, hl, rfl, n, rfl⟩
  have hlt : l < s.heap.objs.size := Heap.lt_size hl
  have stt : ∀ s' : Shared, (∀ b o, s.heap.get? b = some o → s'.heap.get? b = some o) → s'.TypeIs (.ref st) "list" := fun s' k => ⟨_, k _ _ hst, rfl⟩
  have hlen : rows.length = as.length := (Paired.length hr).symm
  refine call_function_tree F.kind_sum F.plain_sum F.entry_sum (args_sum2 _ _) ?_
  unfold Builtin.«sum»
  simp only [List.length_cons, List.length_nil]
  rw [if_neg (by decide)]
  refine wpAny_bind (wpAny_of_eq (show Builtin.Builtins.bindParams "sum" ["start"] 0 ⟨[.ref st], []⟩ = pure [some (.ref st)] from rfl) ?_)
  refine wpAny_bind (wpAny_pyIter_list hlist ?_)
  generalize hs2 : ({ s with heap := s.heap.push { cls := .type "list_iterator", data := .fields #[.ref l, .int 0 0] } } : Shared) = s₂
  have k2 : ∀ b o, s.heap.get? b = some o → s₂.heap.get? b = some o := fun b o e => by rw [← hs2]; exact Heap.get?_push_of_some _ e
  refine wpAny_bind (wpAny_pure ?_)
  simp only [List.forIn_cons, List.forIn_nil]
  refine wpAny_bind (wpAny_bind (wpAny_bind (wpAny_isInstance (T := "list") (b := false) (stt s₂ k2) PySem.F.sub_list_str ?_)))
  simp only [Bool.false_eq_true, if_false]
  refine wpAny_pure (wpAny_bind (wpAny_bind (wpAny_isInstance (T := "list") (b := false) (stt s₂ k2) PySem.F.sub_list_bytes ?_)))
  simp only [Bool.false_eq_true, if_false]
  refine wpAny_pure (wpAny_bind (wpAny_bind (wpAny_isInstance (T := "list") (b := false) (stt s₂ k2) PySem.F.sub_list_bytearray ?_)))
  simp only [Bool.false_eq_true, if_false]
  refine wpAny_pure (wpAny_pure ?_)
  refine wpAny_bind (wpAny_newObj_type ?_)
  have hI : s₂.heap.get? s.heap.objs.size = some { cls := .type "list_iterator", data := .fields #[.ref l, .int 0 0] } := by rw [← hs2]; exact Heap.get?_push_size _ rfl
  have lt2 : ∀ b ∈ [s.heap.objs.size, l], b < s₂.heap.objs.size := fun b hb => by
    rcases List.mem_cons.mp hb with e | hb
    · subst e; exact Heap.lt_size hI
    · rcases List.mem_cons.mp hb with e | hb
      · subst e; exact Heap.lt_size (k2 _ _ hl)
      · cases hb
  have hSf : s₂.heap.objs.size ∉ [s.heap.objs.size, l] := fun hm => Nat.lt_irrefl _ (lt2 _ hm)
  have hnl : l ≠ s.heap.objs.size := Nat.ne_of_lt hlt
  have W := Walks.list (prog := prog) (w := w) (A := A.in1) (show A.in1.handled = none from hh) s.heap.objs.size l hnl (as.map Value.ref).toArray
  have stp : ∀ (q : Shared), (∀ b o, s₂.heap.get? b = some o → q.heap.get? b = some o) → q.heap.IsListIter s.heap.objs.size l 0 ∧ q.heap.IsList l (as.map Value.ref).toArray := fun q kq =>
    ⟨⟨_, kq _ _ hI, rfl, rfl⟩, ⟨_, kq _ _ (k2 _ _ hl), rfl, n, rfl⟩⟩
  have szn : (as.map Value.ref).toArray.size = rows.length := by rw [List.size_toArray, List.length_map, hlen]
  have rowsum : ((List.range rows.length).map fun i => (rows.getD i []).length).sum = rows.flatten.length := by
    rw [List.length_flatten]
    congr 1
    refine List.ext_getElem (by simp) fun i h1 h2 => ?_
    simp at h1
    simp [h1]
  have rowall : ((List.range rows.length).map fun i => rows.getD i []).flatten = rows.flatten := by
    congr 1
    refine List.ext_getElem (by simp) fun i h1 h2 => ?_
    simp at h1
    simp [h1]
  have hS0 : s.heap.get? s₂.heap.objs.size = none := by
    cases q : s.heap.get? s₂.heap.objs.size with
    | none => rfl
    | some o => exact absurd (Heap.lt_size (k2 _ _ q)) (Nat.lt_irrefl _)
  have stne : st ≠ s.heap.objs.size := Nat.ne_of_lt (Heap.lt_size hst)
  have pairget : ∀ i a, as[i]? = some a → Holds s.heap a (rows.getD i []) := by
    intro i a e
    have : ∀ (as : List Addr) (rows : List (List Value)), Paired (fun (a : Addr) (vs : List Value) => Holds s.heap a vs) as rows → ∀ i a, as[i]? = some a → Holds s.heap a (rows.getD i []) := by
      intro as
      induction as with
      | nil => intro rows _ i a e; simp at e
      | cons x xs ih =>
        intro rows hp i a e
        cases hp with
        | cons r t =>
          cases i with
          | zero => simp at e; subst e; exact r
          | succ i => exact ih _ t i a (by simpa using e)
    exact this as rows hr i a e
  generalize hs3 : ({ s₂ with heap := s₂.heap.push { cls := .type "list", data := .seq ([Value.ref st]).toArray } } : Shared) = s₃
  have k3 : ∀ b o, s₂.heap.get? b = some o → s₃.heap.get? b = some o := fun b o e => by rw [← hs3]; exact Heap.get?_push_of_some _ e
  refine wpAny_pure ⟨plainId_quiet F.plain_sum_loop _, ?_⟩
  refine code_sum_lists W (fun i => rows.getD i []) s.heap (fun i v hi e => ?_) (fun b hb => ?_) s₂.heap.objs.size hSf hS0 List.mem_cons_self (fun i h hs b hb => ?_) (by rw [szn, rowsum]; exact hsz) _ 0 s₃ 2 st 0 rfl (Nat.zero_le _) (stp s₃ k3) (fun b o e => k3 b o (k2 b o e)) ?_ ?_ ⟨c, k3 _ _ (k2 _ _ hst)⟩ (by rw [← hs3]; exact Heap.get?_push_size _ rfl) rfl fun h' tk q a1 a2 a3 a4 a5 => ?_
  · rw [List.getElem?_toArray, List.getElem?_map] at e
    cases ei : as[i]? with
    | none => rw [ei] at e; cases e
    | some a =>
      rw [ei] at e; cases e
      exact ⟨a, rfl, pairget i a ei⟩
  · have e : b = s.heap.objs.size := by simpa using hb
    subst e
    exact Heap.get?_none_of_le (Nat.le_refl _)
  · obtain ⟨⟨o, e1, _⟩, ⟨o2, e2, _⟩⟩ := hs
    rcases List.mem_cons.mp hb with e | hb
    · subst e; exact ⟨_, e1⟩
    · rcases List.mem_cons.mp hb with e | hb
      · subst e; exact ⟨_, e2⟩
      · cases hb
  · intro hb
    rcases List.mem_cons.mp hb with e | hb
    · exact stne e
    · rcases List.mem_cons.mp hb with e | hb
      · exact hl0 e.symm
      · cases hb
  · exact Nat.ne_of_lt (Heap.lt_size (k2 _ _ hst))
  · rw [szn, rowall] at a3
    have g1 : s₃.gens = s.gens := by rw [← hs3, ← hs2]
    have g2 : s₃.drawn = s.drawn := by rw [← hs3, ← hs2]
    have g3 : s₃.os = s.os := by rw [← hs3, ← hs2]
    show Q (.ref q) { heap := h', gens := s₃.gens, drawn := s₃.drawn, toks := tk, os := s₃.os }
    rw [g1, g2, g3]
    refine h h' tk q a1 a3 ?_
    by_cases hn : rows.length = 0
    · exact .inl (a4 (by rw [szn]; omega))
    · refine .inr ?_
      exact Nat.le_of_lt (a5 (by rw [szn]; omega))
end

/-! ### the built-ins -/
inductive RpSA (K : PySem.W.Frag) (B H : Hp) : List V → List D → Prop
  | nil : RpSA K B H [] []
  | cons {v : V} {vs : List V} {d : D} {ds : List D} : RpS K B H v d → RpSA K B H vs ds → RpSA K B H (v :: vs) (d :: ds)
def BI.fn : BI → Value
  | .len => .builtin "len" | .sum => .builtin "sum" | .all => .builtin "all" | .any => .builtin "any" | .int => .type "int" | .abs => .builtin "abs"
  | .list => .type "list" | .tuple => .type "tuple" | .sorted => .builtin "sorted" | .max2 => .builtin "max" | .min2 => .builtin "min" | .max1 => .builtin "max" | .min1 => .builtin "min"
  | .repr => .builtin "repr" | .isi _ => .builtin "isinstance"
def rBi (K : PySem.W.Frag) (b : BI) : List V → Hp → VK → Prop := fun vs H Q => ∃ B ds z, Sub B H ∧ RpSA K B H vs ds ∧ biOp b ds = some z ∧ ResP K H B Q z
theorem sort_one : ∀ {as bs : List Int}, as.Perm bs → as.Pairwise (· ≤ ·) → bs.Pairwise (· ≤ ·) → as = bs := fun {as bs} h ha hb =>
  List.Perm.eq_of_pairwise (fun a b _ _ h1 h2 => Int.le_antisymm h1 h2) ha hb h
theorem insI_perm (x : Int) : ∀ l : List Int, (insI x l).Perm (x :: l)
  | [] => .refl _
  | y :: ys => by
    unfold insI
    split
    · exact .refl _
    · exact ((insI_perm x ys).cons y).trans (.swap x y ys)
theorem sortI_perm : ∀ ns : List Int, (sortI ns).Perm ns
  | [] => .refl _
  | x :: xs => (insI_perm x _).trans ((sortI_perm xs).cons x)
theorem insI_asc (x : Int) : ∀ {l : List Int}, l.Pairwise (· ≤ ·) → (insI x l).Pairwise (· ≤ ·)
  | [], _ => by unfold insI; exact List.pairwise_singleton _ _
  | y :: ys, h => by
    obtain ⟨h1, h2⟩ := List.pairwise_cons.mp h
    unfold insI
    split
    · rename_i hxy
      refine List.pairwise_cons.mpr ⟨fun z hz => ?_, h⟩
      rcases List.mem_cons.mp hz with rfl | hz
      · exact hxy
      · exact Int.le_trans hxy (h1 z hz)
    · rename_i hxy
      refine List.pairwise_cons.mpr ⟨fun z hz => ?_, insI_asc x h2⟩
      rcases List.mem_cons.mp ((insI_perm x ys).mem_iff.mp hz) with rfl | hz
      · omega
      · exact h1 z hz
theorem sortI_asc : ∀ ns : List Int, (sortI ns).Pairwise (· ≤ ·)
  | [] => .nil
  | x :: xs => insI_asc x (sortI_asc xs)
theorem toInt_some {d : D} {i : Int} (h : d.toInt? = some i) : d = .int i := by
  cases d <;> first | (cases h; rfl) | cases h
theorem prsOf_map : ∀ {ds : List D} {ps : List (Int × Int)}, prsOf ds = some ps → ds = ps.map prD
  | [], ps, h => by cases h; rfl
  | d :: ds, ps, h => by
    unfold prsOf at h
    split at h
    · rename_i i ns h1 h2
      cases h
      rw [List.map_cons, ← prsOf_map h2]
      congr 1
      unfold D.pr? at h1
      split at h1
      · split at h1
        · split at h1
          · rename_i a b x y ha hb
            cases h1
            rw [toInt_some ha, toInt_some hb]
            rfl
          · cases h1
        · cases h1
      · cases h1
    · cases h
theorem leP_iff {p q : Int × Int} : leP p q = true ↔ p.1 < q.1 ∨ (p.1 = q.1 ∧ p.2 ≤ q.2) := by simp [leP]
theorem insP_perm (x : Int × Int) : ∀ l : List (Int × Int), (insP x l).Perm (x :: l)
  | [] => .refl _
  | y :: ys => by
    unfold insP
    split
    · exact .refl _
    · exact ((insP_perm x ys).cons y).trans (.swap x y ys)
theorem sortP_perm : ∀ ns : List (Int × Int), (sortP ns).Perm ns
  | [] => .refl _
  | x :: xs => (insP_perm x _).trans ((sortP_perm xs).cons x)
abbrev AscP (l : List (Int × Int)) : Prop := l.Pairwise fun p q => leP p q = true
theorem leP_trans {a b c : Int × Int} (h1 : leP a b = true) (h2 : leP b c = true) : leP a c = true := by
  rw [leP_iff] at *; omega
theorem leP_total {a b : Int × Int} (h : ¬ leP a b = true) : leP b a = true := by
  rw [leP_iff] at *; omega
theorem leP_anti {a b : Int × Int} (h1 : leP a b = true) (h2 : leP b a = true) : a = b := by
  rw [leP_iff] at *
  obtain ⟨a1, a2⟩ := a
  obtain ⟨b1, b2⟩ := b
  simp only at *
  rw [Prod.mk.injEq]
  omega
theorem insP_asc (x : Int × Int) : ∀ {l : List (Int × Int)}, AscP l → AscP (insP x l)
  | [], _ => by unfold insP; exact List.pairwise_singleton _ _
  | y :: ys, h => by
    obtain ⟨h1, h2⟩ := List.pairwise_cons.mp h
    unfold insP
    split
    · rename_i hxy
      refine List.pairwise_cons.mpr ⟨fun z hz => ?_, h⟩
      rcases List.mem_cons.mp hz with rfl | hz
      · exact hxy
      · exact leP_trans hxy (h1 z hz)
    · rename_i hxy
      refine List.pairwise_cons.mpr ⟨fun z hz => ?_, insP_asc x h2⟩
      rcases List.mem_cons.mp ((insP_perm x ys).mem_iff.mp hz) with rfl | hz
      · exact leP_total hxy
      · exact h1 z hz
theorem sortP_asc : ∀ ns : List (Int × Int), AscP (sortP ns)
  | [] => .nil
  | x :: xs => insP_asc x (sortP_asc xs)
theorem sortP_one {as bs : List (Int × Int)} (h : as.Perm bs) (ha : AscP as) (hb : AscP bs) : as = bs :=
  List.Perm.eq_of_pairwise (fun a b _ _ h1 h2 => leP_anti h1 h2) ha hb h
theorem tupsOf_map : ∀ {ds : List D} {ts : List (List Int)}, tupsOf ds = some ts → ds = ts.map tupI
  | [], ts, h => by cases h; rfl
  | d :: ds, ts, h => by
    unfold tupsOf at h
    split at h
    · rename_i i ns h1 h2
      cases h
      rw [List.map_cons, ← tupsOf_map h2]
      congr 1
      unfold D.ints? at h1
      split at h1
      · rw [intsOf_map h1]
        rfl
      · cases h1
    · cases h
theorem lexT_irrefl : ∀ a : List Int, HT.lexLt a a = false
  | [] => rfl
  | x :: a => by rw [HT.lexLt_cons, if_pos rfl]; exact lexT_irrefl a
theorem lexT_eq : ∀ a b : List Int, HT.lexLt a b = false → HT.lexLt b a = false → a = b
  | [], [], _, _ => rfl
  | [], _ :: _, h, _ => by simp [HT.lexLt] at h
  | _ :: _, [], _, h => by simp [HT.lexLt] at h
  | x :: a, y :: b, h1, h2 => by
    rw [HT.lexLt_cons] at h1 h2
    by_cases c : x = y
    · subst c
      rw [if_pos rfl] at h1 h2
      rw [lexT_eq a b h1 h2]
    · rw [if_neg c] at h1
      rw [if_neg (fun z => c z.symm)] at h2
      simp at h1 h2
      omega
theorem insT_perm (x : List Int) : ∀ l : List (List Int), (insT x l).Perm (x :: l)
  | [] => .refl _
  | y :: ys => by
    unfold insT
    split
    · exact .refl _
    · exact ((insT_perm x ys).cons y).trans (.swap x y ys)
theorem sortT_perm : ∀ ns : List (List Int), (sortT ns).Perm ns
  | [] => .refl _
  | x :: xs => (insT_perm x _).trans ((sortT_perm xs).cons x)
abbrev AscT (l : List (List Int)) : Prop := l.Pairwise fun p q => HT.lexLt q p = false
theorem insT_asc (x : List Int) : ∀ {l : List (List Int)}, AscT l → AscT (insT x l)
  | [], _ => by unfold insT; exact List.pairwise_singleton _ _
  | y :: ys, h => by
    obtain ⟨h1, h2⟩ := List.pairwise_cons.mp h
    unfold insT
    split
    · rename_i hxy
      have hxy : HT.lexLt y x = false := by simpa [leT] using hxy
      refine List.pairwise_cons.mpr ⟨fun z hz => ?_, h⟩
      rcases List.mem_cons.mp hz with rfl | hz
      · exact hxy
      · exact NtL.lex_tr x y z hxy (h1 z hz)
    · rename_i hxy
      have hxy : HT.lexLt y x = true := by simpa [leT] using hxy
      refine List.pairwise_cons.mpr ⟨fun z hz => ?_, insT_asc x h2⟩
      rcases List.mem_cons.mp ((insT_perm x ys).mem_iff.mp hz) with rfl | hz
      · exact NtL.lex_asym _ _ hxy
      · exact h1 z hz
theorem sortT_asc : ∀ ns : List (List Int), AscT (sortT ns)
  | [] => .nil
  | x :: xs => insT_asc x (sortT_asc xs)
theorem sortT_one {as bs : List (List Int)} (h : as.Perm bs) (ha : AscT as) (hb : AscT bs) : as = bs :=
  List.Perm.eq_of_pairwise (fun a b _ _ h1 h2 => lexT_eq a b h2 h1) ha hb h
section
variable {K : PySem.W.Frag} {B : Hp}
def vInts : List V → List Int
  | .int i :: vs => i :: vInts vs
  | _ => []
theorem vInts_map : ∀ ns : List Int, vInts (ns.map V.int) = ns
  | [] => rfl
  | n :: ns => by rw [List.map_cons]; unfold vInts; rw [vInts_map ns]
def kTI (B : Hp) : V → List Int
  | .ref t => match B t with
    | some (.frz _ (.tup xs)) => vInts xs
    | _ => []
  | _ => []
theorem rp_ti {v : V} {ns : List Int} (h : Rp K B v (tupI ns)) : kTI B v = ns ∧ ∃ t o, v = .ref t ∧ B t = some (.frz o (.tup (ns.map V.int))) := by
  unfold tupI at h
  cases h with
  | tup _ h1 h2 =>
    cases h2.ints
    refine ⟨?_, _, _, rfl, h1⟩
    unfold kTI
    simp only [h1, vInts_map]
theorem rpa_tis : ∀ {vs : List V} {ts : List (List Int)}, RpA K B vs (ts.map tupI) → vs.map (kTI B) = ts ∧ ∀ v ∈ vs, Rp K B v (tupI (kTI B v))
  | _, [], .nil => ⟨rfl, fun v h => by cases h⟩
  | _, p :: ts, .cons r a => by
    obtain ⟨h1, h2⟩ := rpa_tis a
    obtain ⟨h3, h4⟩ := rp_ti r
    refine ⟨by rw [List.map_cons, h1, h3], fun v hv => ?_⟩
    rcases List.mem_cons.mp hv with rfl | hv
    · rw [h3]; exact r
    · exact h2 v hv
theorem rpa_fn {f : V → D} : ∀ {vs : List V}, (∀ v ∈ vs, Rp K B v (f v)) → RpA K B vs (vs.map f)
  | [], _ => .nil
  | v :: vs, h => .cons (h v List.mem_cons_self) (rpa_fn fun w hw => h w (List.mem_cons_of_mem _ hw))
def kPr (B : Hp) : V → Int × Int
  | .ref t => match B t with
    | some (.frz _ (.tup xs)) => match xs with
      | [.int a, .int b] => (a, b)
      | _ => (0, 0)
    | _ => (0, 0)
  | _ => (0, 0)
theorem rp_pr {v : V} {p : Int × Int} (h : Rp K B v (prD p)) : kPr B v = p ∧ ∃ t o, v = .ref t ∧ B t = some (.frz o (.tup [.int p.1, .int p.2])) := by
  unfold prD at h
  cases h with
  | tup _ h1 h2 =>
    cases h2 with
    | cons a t =>
      cases t with
      | cons b t =>
        cases t
        cases a
        cases b
        refine ⟨?_, _, _, rfl, h1⟩
        unfold kPr
        simp only [h1]
theorem lex_two (p q : Int × Int) : HT.lexLt [p.1, p.2] [q.1, q.2] = SrtO.lexB p q := by
  unfold SrtO.lexB
  rw [HT.lexLt_cons, HT.lexLt_cons, HT.lexLt_nil_nil]
  split
  · split
    · rename_i e; simp [e]
    · rfl
  · rfl
theorem rpa_prs : ∀ {vs : List V} {ps : List (Int × Int)}, RpA K B vs (ps.map prD) → vs.map (kPr B) = ps ∧ ∀ v ∈ vs, Rp K B v (prD (kPr B v))
  | _, [], .nil => ⟨rfl, fun v h => by cases h⟩
  | _, p :: ps, .cons r a => by
    obtain ⟨h1, h2⟩ := rpa_prs a
    obtain ⟨h3, h4⟩ := rp_pr r
    refine ⟨by rw [List.map_cons, h1, h3], fun v hv => ?_⟩
    rcases List.mem_cons.mp hv with rfl | hv
    · rw [h3]; exact r
    · exact h2 v hv
end
section
variable {X : Cx}
theorem bi_ok (b : BI) (hc : X.calm = true) (hu : X.A.units + 65 < cLine) (hg : X.A.guards = some []) (nisi : ∀ t, b ≠ .isi t) : CallR X b.fn (rBi X.K b) := by
  intro pins s σ H xs us Q I r h
  obtain ⟨B, ds, z, sb, hx, hz, q⟩ := h
  unfold biOp at hz
  split at hz
  · cases hz
    cases hx with
    | cons h1 t => cases t; obtain ⟨a, ys, rfl, h2, r2⟩ := h1.tup sb; exact call_len_seq pins s σ H _ us Q I r ⟨a, ys, rfl, .inr h2, by rw [r2.length]; exact q.int sb⟩
  · cases hz
    cases hx with
    | cons h1 t => cases t; obtain ⟨a, ys, rfl, h2, r2⟩ := h1.lst sb; exact call_len_seq pins s σ H _ us Q I r ⟨a, ys, rfl, .inl (Evl.sq_of h2), by rw [r2.length]; exact q.int sb⟩
  · cases hz
    cases hx with
    | cons h1 t => cases t; obtain ⟨a, rfl, h2⟩ := h1.scr sb; exact call_len_seq pins s σ H _ us Q I r ⟨a, _, rfl, .inl h2, by rw [List.length_map]; exact q.int sb⟩
  · split at hz
    · cases hz
      cases hx with
      | cons h1 t => cases t; cases h1.str; exact call_len_str pins s σ H _ us Q I r ⟨_, rfl, lim_le (by assumption), q.int sb⟩
    · cases hz
  · split at hz
    · cases hz
      rename_i e
      cases intsOf_map e
      cases hx with
      | cons h1 t => cases t; obtain ⟨a, ys, rfl, h2, r2⟩ := h1.lst sb; cases r2.ints; exact cr_sum hc pins s σ H _ us Q I r ⟨a, _, rfl, Evl.sq_of h2, q.int sb⟩
    · cases hz
  · split at hz
    · cases hz
      rename_i e
      cases blsOf_map e
      cases hx with
      | cons h1 t => cases t; obtain ⟨a, ys, rfl, h2, r2⟩ := h1.lst sb; cases r2.bls; exact cr_all hc pins s σ H _ us Q I r ⟨a, _, rfl, Evl.sq_of h2, q.bl sb⟩
    · cases hz
  · split at hz
    · cases hz
      rename_i e
      cases blsOf_map e
      cases hx with
      | cons h1 t => cases t; obtain ⟨a, ys, rfl, h2, r2⟩ := h1.lst sb; cases r2.bls; exact cr_any hc pins s σ H _ us Q I r ⟨a, _, rfl, Evl.sq_of h2, q.bl sb⟩
    · cases hz
  · cases hz
    cases hx with
    | cons h1 t => cases t; cases h1.int; exact call_int1 pins s σ H _ us Q I r (.inl ⟨_, rfl, q.int sb⟩)
  · cases hz
    cases hx with
    | cons h1 t => cases t; cases h1.bl; exact call_int1 pins s σ H _ us Q I r (.inr ⟨_, rfl, q.int sb⟩)
  · cases hz
    cases hx with
    | cons h1 t => cases t; cases h1.int; exact call_abs pins s σ H _ us Q I r ⟨_, rfl, q.int sb⟩
  · cases hz
    cases hx with
    | cons h1 t => cases t; obtain ⟨a, ys, rfl, h2, r2⟩ := h1.lst sb; exact call_list_of pins s σ H _ us Q I r ⟨a, ys, rfl, .inl (Evl.sq_of h2), fun l hl => q.lst sb r2 hl⟩
  · cases hz
    cases hx with
    | cons h1 t => cases t; obtain ⟨a, ys, rfl, h2, r2⟩ := h1.tup sb; exact call_list_of pins s σ H _ us Q I r ⟨a, ys, rfl, .inr h2, fun l hl => q.lst sb r2 hl⟩
  · cases hz
    cases hx with
    | cons h1 t => cases t; obtain ⟨a, ys, rfl, h2, r2⟩ := h1.lst sb; exact x_tuple pins s σ H _ us Q I r ⟨a, ys, rfl, .inl ⟨Evl.sq_of h2, fun l o eo hl => q.tup sb r2 eo hl⟩⟩
  · cases hz
    cases hx with
    | cons h1 t =>
      cases t; obtain ⟨a, ys, rfl, h2, r2⟩ := h1.tup sb
      refine x_tuple pins s σ H _ us Q I r ⟨a, ys, rfl, .inr ⟨h2, ?_⟩⟩
      rcases h1 with h1 | ⟨_, _, _, _, w, _⟩
      · exact q.rp sb h1
      · cases w
  · split at hz
    · cases hz
      rename_i e
      cases intsOf_map e
      rename_i ns
      cases hx with
      | cons h1 t =>
        cases t; obtain ⟨a, ys, rfl, h2, r2⟩ := h1.lst sb; cases r2.ints
        refine cr_sortedI pins s σ H _ us Q I r ⟨a, _, rfl, Evl.sq_of h2, fun ns' p hp hs n => ?_⟩
        have e2 : ns' = sortI ns := sort_one (hp.trans (sortI_perm ns).symm) hs (sortI_asc ns)
        rw [e2]
        exact q.lst sb (RpA.ofInts _) n
    · split at hz
      · cases hz
        rename_i ps e
        cases prsOf_map e
        cases hx with
        | cons h1 t =>
          cases t; obtain ⟨a, ys, rfl, h2, r2⟩ := h1.lst sb
          obtain ⟨k1, k2⟩ := rpa_prs r2
          refine cr_sortedTI hu pins s σ H _ us Q I r ⟨a, ys, fun v => [(kPr B v).1, (kPr B v).2], rfl, Evl.sq_of h2, fun x hx => ?_, fun ys' p hs hb n => ?_⟩
          · obtain ⟨_, t, o, e1, e2⟩ := rp_pr (k2 x hx)
            exact ⟨t, e1, st_frz (sb _ _ e2)⟩
          · have hp : ys'.Perm ys := hb.perm
            have e2 : ys'.map (kPr B) = sortP ps := sortP_one ((hp.map _).trans (by rw [k1]; exact (sortP_perm ps).symm)) (List.pairwise_map.mpr (hs.imp fun {u v} z => by
              have z : HT.lexLt [(kPr B v).1, (kPr B v).2] [(kPr B u).1, (kPr B u).2] = false := z
              rw [lex_two] at z
              have z2 := SrtO.lexB_no.mp z
              rw [leP_iff]
              omega)) (sortP_asc ps)
            have r3 : RpA X.K B ys' ((sortP ps).map prD) := by
              rw [← e2, List.map_map]
              exact rpa_fn fun v hv => k2 v (hp.mem_iff.mp hv)
            exact q.lst sb r3 n
      · split at hz
        · cases hz
          rename_i ts e
          cases tupsOf_map e
          cases hx with
          | cons h1 t =>
            cases t; obtain ⟨a, ys, rfl, h2, r2⟩ := h1.lst sb
            obtain ⟨k1, k2⟩ := rpa_tis r2
            refine cr_sortedTI hu pins s σ H _ us Q I r ⟨a, ys, kTI B, rfl, Evl.sq_of h2, fun x hx => ?_, fun ys' p hs hb n => ?_⟩
            · obtain ⟨_, t, o, e1, e2⟩ := rp_ti (k2 x hx)
              exact ⟨t, e1, st_frz (sb _ _ e2)⟩
            · have hp : ys'.Perm ys := hb.perm
              have e2 : ys'.map (kTI B) = sortT ts := sortT_one ((hp.map _).trans (by rw [k1]; exact (sortT_perm ts).symm)) (List.pairwise_map.mpr (hs.imp fun {u v} z => z)) (sortT_asc ts)
              have r3 : RpA X.K B ys' ((sortT ts).map tupI) := by
                rw [← e2, List.map_map]
                exact rpa_fn fun v hv => k2 v (hp.mem_iff.mp hv)
              exact q.lst sb r3 n
        · cases hz
  · cases hz
    cases hx with
    | cons h1 t => cases t with | cons h2 t => cases t; cases h1.int; cases h2.int; exact call_max2 hc pins s σ H _ us Q I r ⟨_, _, rfl, q.int sb⟩
  · cases hz
    cases hx with
    | cons h1 t => cases t with | cons h2 t => cases t; cases h1.int; cases h2.int; exact call_min2 hc pins s σ H _ us Q I r ⟨_, _, rfl, q.int sb⟩
  · split at hz
    · cases hz
      rename_i d hk
      simp only [D.okRepr, Bool.and_eq_true, decide_eq_true_eq, Bool.not_eq_true'] at hk
      obtain ⟨⟨⟨⟨k1, k2⟩, k3⟩, k4⟩, k5⟩ := hk
      cases hx with
      | cons h1 t =>
        cases t
        obtain ⟨u, rfl, ru⟩ := vals1 r
        obtain ⟨as, rd⟩ := Dp.reads I _ _ u (h1.dp sb) ru
        have hsm : d.py.hasDict = true → sysModules ∉ as := fun w => by rw [k4] at w; cases w
        have fin : ∀ (h' : Heap) (v : Tok) (tk : Nat), (∀ b o, s.heap.get? b = some o → h'.get? b = some o) → EP X pins σ Q (.str d.py.shown v) { s with heap := h', toks := tk } := fun h' v tk hk' =>
          ⟨.str d.py.shown, H, I.kept hk', ⟨_, rfl⟩, q.str sb⟩
        cases d with
        | tup es =>
          obtain ⟨a, ys, rfl, h2, r2⟩ := h1.tup sb
          cases ru
          exact repr_of_reads' rd k1 hsm hg (by omega) (fun _ _ e => e) fin k2
        | lst es =>
          obtain ⟨a, ys, rfl, h2, r2⟩ := h1.lst sb
          cases ru
          exact repr_of_reads' rd k1 hsm hg (by omega) (fun _ _ e => e) fin k2
        | bl b =>
          have e := h1.bl
          subst e
          cases ru
          refine PySem.P.repr_of_bool ⟨.str (D.bl b).py.shown, H, I.tok _, ⟨s.toks, ?_⟩, q.str sb⟩
          cases b <;> rfl
        | non =>
          have e := h1.non
          subst e
          cases ru
          exact PySem.P.repr_of_none ⟨.str D.non.py.shown, H, I.tok _, ⟨_, rfl⟩, q.str sb⟩
        | int i =>
          have e := h1.int
          subst e
          obtain ⟨t, rfl⟩ := ru
          exact PySem.P.repr_of_int (by simpa using k5) ⟨.str (D.int i).py.shown, H, I.tok _, ⟨_, rfl⟩, q.str sb⟩
        | _ => cases k5
    · cases hz
  · rename_i t d
    exact absurd rfl (nisi t)
  · cases hz
end
end Mi

/-! Mi5: what evaluating gives, by values; giving away; looking at; defs by what they give. -/
namespace Mi
open PySem PySem.Spec PyProof.Rows L2

def RpP (K : PySem.W.Frag) (σ : L2.St) (H H' B' : Hp) (v : V) : P → Prop
  | .val d => Rp K B' v d
  | .slot i => σ[i]? = some (some v)
  | .new m => ∃ a o, v = .ref a ∧ H a = none ∧ H' a = some o ∧ B' a = none ∧ MOk K B' o m
  | .its _ => False
/-- the new objects among the values -/
def newsA : List V → List P → List Addr
  | .ref a :: vs, .new _ :: ps => a :: newsA vs ps
  | _ :: vs, _ :: ps => newsA vs ps
  | _, _ => []
structure RpPA (K : PySem.W.Frag) (σ : L2.St) (H H' B' : Hp) (vs : List V) (ps : List P) : Prop where
  all : Paired (fun v p => RpP K σ H H' B' v p) vs ps
  nd : (newsA vs ps).Nodup

section
variable {K : PySem.W.Frag} {σ : L2.St} {H B H' B' H1 B1 : Hp} {env env' env1 : En} {v : V} {p : P} {d : D} {vs : List V} {ps : List P}

theorem RE.ownH (R : RE K σ H B env) {a : Addr} (h : Own σ env a) : ∃ o, H a = some o ∧ B a = none := by
  obtain ⟨i, fz, m, e, pa⟩ := h
  obtain ⟨p, o, a1, b1, c1, _⟩ := R.own e
  have : V.ref p = V.ref a := by
    have := a1.symm.trans pa
    exact Option.some.inj (Option.some.inj this)
  cases this
  exact ⟨o, c1, b1⟩
theorem At.eq {i : Nat} {p q : Addr} (h : At σ i p) (h' : At σ i q) : p = q := by
  have := Option.some.inj (Option.some.inj (h.symm.trans h'))
  cases this; rfl
/-- a new object is no one's -/
theorem new_notOwn (R : RE K σ H B env) (s : Stp σ H B env H' B' env') {a : Addr} (n : H a = none) : ¬ Own σ env' a := fun h => by
  obtain ⟨o, e, _⟩ := R.ownH (s.own h)
  rw [n] at e; cases e
/-- what an earlier part gave stands behind a later one -/
theorem RpP.later (R : RE K σ H B env) (s : Stp σ H B env H1 B1 env1) (t : Stp σ H1 B1 env1 H' B' env') (h : RpP K σ H H1 B1 v p) : RpP K σ H H' B' v p := by
  cases p with
  | val d => exact Rp.mono t.bb h
  | slot i => exact h
  | new m =>
    obtain ⟨a, o, e, n, h1, b1, mo⟩ := h
    have no := new_notOwn R s n
    exact ⟨a, o, e, n, t.fr h1 no, t.none h1 b1 no, mo.mono t.bb⟩
  | its _ => exact h
theorem RpP.sooner (s : Stp σ H B env H1 B1 env1) (h : RpP K σ H1 H' B' v p) : RpP K σ H H' B' v p := by
  cases p with
  | val d => exact h
  | slot i => exact h
  | new m =>
    obtain ⟨a, o, e, n, r⟩ := h
    exact ⟨a, o, e, s.th n, r⟩
  | its _ => exact h
theorem RpPA.nil : RpPA K σ H H' B' [] [] := ⟨.nil, List.nodup_nil⟩
theorem newsA_none : ∀ {vs : List V} {ps : List P}, Paired (fun v p => RpP K σ H H' B' v p) vs ps → ∀ a ∈ newsA vs ps, H a = none ∧ ∃ o, H' a = some o ∧ B' a = none
  | _, _, .nil, a, h => by cases h
  | v :: vs, p :: ps, .cons r t, a, h => by
    cases p with
    | new m =>
      obtain ⟨b, o, rfl, n, x, y, _⟩ := r
      rcases List.mem_cons.mp h with e | h
      · subst e; exact ⟨n, o, x, y⟩
      · exact newsA_none t a h
    | val d => cases v <;> exact newsA_none t a h
    | slot i => cases v <;> exact newsA_none t a h
    | its _ => cases v <;> exact newsA_none t a h
theorem RpPA.cons (R : RE K σ H B env) (s : Stp σ H B env H1 B1 env1) (t : Stp σ H1 B1 env1 H' B' env') (h : RpP K σ H H1 B1 v p) (hs : RpPA K σ H1 H' B' vs ps) : RpPA K σ H H' B' (v :: vs) (p :: ps) := by
  have all : Paired (fun v p => RpP K σ H H' B' v p) vs ps := Paired.mapP hs.all fun _ _ z => z.sooner s
  refine ⟨.cons (h.later R s t) all, ?_⟩
  cases p with
  | new m =>
    obtain ⟨a, o, rfl, n, x, y, _⟩ := h
    refine List.nodup_cons.mpr ⟨fun z => ?_, hs.nd⟩
    obtain ⟨n1, _⟩ := newsA_none hs.all a z
    rw [x] at n1; cases n1
  | val d => cases v <;> exact hs.nd
  | slot i => cases v <;> exact hs.nd
  | its _ => cases v <;> exact hs.nd

/-! ### looking at -/
theorem pk_ok (R : RE K σ H' B' env') (h : RpP K σ H H' B' v p) (e : pk p env' = some d) : RpS K B' H' v d := by
  cases p with
  | val x => cases e; exact .inl h
  | new m =>
    cases m with
    | lst ds =>
      cases e
      obtain ⟨a, o, rfl, _, x, _, xs, rfl, r⟩ := h
      exact .inr ⟨a, xs, ds, rfl, rfl, x, r⟩
    | dK _ => cases e
    | dT _ => cases e
  | slot i =>
    unfold pk at e
    simp only at e
    split at e
    · cases e
      rename_i ei
      obtain ⟨a, o, pa, _, x, xs, rfl, r⟩ := R.own ei
      cases Option.some.inj (Option.some.inj (h.symm.trans pa))
      exact .inr ⟨a, xs, _, rfl, rfl, x, r⟩
    · cases e
      rename_i ei
      obtain ⟨a, o, pa, _, x, xs, rfl, r⟩ := R.lck ei
      cases Option.some.inj (Option.some.inj (h.symm.trans pa))
      exact .inr ⟨a, xs, _, rfl, rfl, x, r⟩
    · cases e
      rename_i ei
      obtain ⟨w, pw, r⟩ := R.dat ei
      cases Option.some.inj (Option.some.inj (h.symm.trans pw))
      exact .inl r
    · cases e
  | its _ => exact h.elim
theorem pks_ok (R : RE K σ H' B' env') : ∀ {vs : List V} {ps : List P} {ds : List D}, Paired (fun v p => RpP K σ H H' B' v p) vs ps → pks ps env' = some ds → RpSA K B' H' vs ds
  | _, _, _, .nil, e => by cases e; exact .nil
  | _, _, _, .cons r t, e => by
    unfold pks at e
    split at e
    · rename_i h1
      split at e
      · rename_i h2
        cases e
        exact .cons (pk_ok R r h1) (pks_ok R t h2)
      · cases e
    · cases e

/-! ### giving away -/
theorem set_get {env : En} {i j : Nat} {s t : Slot} (h : (env.set i s)[j]? = some t) : (j = i ∧ t = s) ∨ (j ≠ i ∧ env[j]? = some t) := by
  by_cases e : j = i
  · subst e
    rw [List.getElem?_set] at h
    simp only [if_true] at h
    split at h
    · cases h; exact .inl ⟨rfl, rfl⟩
    · cases h
  · rw [List.getElem?_set_ne (Ne.symm e)] at h
    exact .inr ⟨e, h⟩
theorem set_lk {env : En} {i : Nat} {s : Slot} (h : ∀ f m, env[i]? ≠ some (.lck f m)) (hs : ∀ f m, s ≠ .lck f m) {j : Nat} {fz : Bool} {m : MO} : (env.set i s)[j]? = some (Slot.lck fz m) ↔ env[j]? = some (Slot.lck fz m) := by
  by_cases e : j = i
  · subst e
    refine ⟨fun z => ?_, fun z => absurd z (h _ _)⟩
    rcases set_get z with ⟨_, z⟩ | ⟨z, _⟩
    · exact absurd z.symm (hs _ _)
    · exact absurd rfl z
  · rw [List.getElem?_set_ne (Ne.symm e)]
/-- the object at a becomes data -/
theorem RE.data (R : RE K σ H B env) {a : Addr} {o : HO} (h : H a = some o) (n : ¬ Own σ env a) (nl : ∀ {i : Nat} {fz m}, env[i]? = some (Slot.lck fz m) → ¬ At σ i a) (b : B a = none) : RE K σ H (upd B a o) env where
  sub := R.sub.updL h
  len := R.len
  dat := fun e => by
    obtain ⟨w, x, r⟩ := R.dat e
    exact ⟨w, x, r.mono (Sub.new b)⟩
  own := fun {i fz m} e => by
    obtain ⟨q, u, x, y, z, r⟩ := R.own e
    refine ⟨q, u, x, ?_, z, r.mono (Sub.new b)⟩
    have ne : q ≠ a := fun w => n ⟨i, fz, m, e, by rw [← w]; exact x⟩
    rw [upd_ne ne]; exact y
  lck := fun {i fz m} e => by
    obtain ⟨q, u, x, y, z, r⟩ := R.lck e
    refine ⟨q, u, x, ?_, z, r.mono (Sub.new b)⟩
    have ne : q ≠ a := fun w => nl e (by rw [← w]; exact x)
    rw [upd_ne ne]; exact y
  apart := R.apart
/-- slot i's own object becomes data -/
theorem RE.freeze (R : RE K σ H B env) {i : Nat} {ds : List D} (e : env[i]? = some (Slot.own true (.lst ds))) :
    ∃ a o, At σ i a ∧ H a = some o ∧ B a = none ∧ RE K σ H (upd B a o) (env.set i (.dat (.lst ds))) ∧ Rp K (upd B a o) (.ref a) (.lst ds) ∧ (∀ {w : V}, σ[i]? = some (some w) → w = .ref a) := by
  obtain ⟨a, o, pa, nb, ha, xs, rfl, r⟩ := R.own e
  have rp : Rp K (upd B a (.lst xs)) (.ref a) (.lst ds) := .lst upd_same (r.mono (Sub.new nb))
  refine ⟨a, _, pa, ha, nb, ⟨R.sub.updL ha, by rw [List.length_set]; exact R.len, fun {j d} h => ?_, fun {j fz m} h => ?_, fun {j fz m} h => ?_, fun {j k s t p} h1 h2 m1 m2 x1 x2 => ?_⟩, rp, fun {w} hw => Option.some.inj (Option.some.inj (hw.symm.trans pa))⟩
  · rcases set_get h with ⟨rfl, e2⟩ | ⟨_, h⟩
    · cases e2; exact ⟨_, pa, rp⟩
    · obtain ⟨w, x, r⟩ := R.dat h
      exact ⟨w, x, r.mono (Sub.new nb)⟩
  · rcases set_get h with ⟨_, e2⟩ | ⟨ne, h⟩
    · cases e2
    · obtain ⟨q, u, x, y, z, r⟩ := R.own h
      refine ⟨q, u, x, ?_, z, r.mono (Sub.new nb)⟩
      have ne2 : q ≠ a := fun w => ne (R.apart h e rfl rfl x (by rw [w]; exact pa))
      rw [upd_ne ne2]; exact y
  · rcases set_get h with ⟨_, e2⟩ | ⟨ne, h⟩
    · cases e2
    · obtain ⟨q, u, x, y, z, r⟩ := R.lck h
      refine ⟨q, u, x, ?_, z, r.mono (Sub.new nb)⟩
      have ne2 : q ≠ a := fun w => ne (R.apart h e rfl rfl x (by rw [w]; exact pa))
      rw [upd_ne ne2]; exact y
  · rcases set_get h1 with ⟨_, e2⟩ | ⟨_, h1⟩
    · subst e2; cases m1
    · rcases set_get h2 with ⟨_, e2⟩ | ⟨_, h2⟩
      · subst e2; cases m2
      · exact R.apart h1 h2 m1 m2 x1 x2
/-- what a start has come to -/
structure Cm (K : PySem.W.Frag) (σ : L2.St) (H B : Hp) (env : En) (H' B' : Hp) (env' : En) : Prop where
  r0 : RE K σ H B env
  st : Stp σ H B env H' B' env'
  re : RE K σ H' B' env'
theorem Cm.refl (R : RE K σ H B env) : Cm K σ H B env H B env := ⟨R, Stp.refl, R⟩
theorem Cm.trans (a : Cm K σ H B env H1 B1 env1) (b : Cm K σ H1 B1 env1 H' B' env') : Cm K σ H B env H' B' env' := ⟨a.r0, a.st.trans b.st, b.re⟩
theorem Cm.grow (a : Cm K σ H B env H1 B1 env1) (g : Gr H1 B1 H' B') : Cm K σ H B env H' B' env1 := ⟨a.r0, a.st.trans g.stp, a.re.grow g⟩
theorem lck_new (c : Cm K σ H B env H' B' env') {a : Addr} (n : H a = none) : ∀ {i : Nat} {fz m}, env'[i]? = some (Slot.lck fz m) → ¬ At σ i a := fun e x => by
  obtain ⟨q, u, y, _, z, _⟩ := c.r0.lck (c.st.lk.mp e)
  cases At.eq x y
  rcases z.rd with z | ⟨w, z⟩
  · rw [n] at z; cases z
  · rw [n] at z; cases z

/-- giving p away; what other parts have given stands (ws, qs), if it is other new objects -/
theorem fz_ok (c : Cm K σ H B env H' B' env') (h : RpP K σ H H' B' v p) {env2 : En} (e : fz p env' = some (d, env2)) :
    ∃ B2, Cm K σ H B env H' B2 env2 ∧ Sub B' B2 ∧ Rp K B2 v d ∧ ∀ {w : V} {q : P}, RpP K σ H H' B' w q → (∀ a, v = .ref a → w = .ref a → ∀ m m', p = .new m → q = .new m' → False) → RpP K σ H H' B2 w q := by
  have keep : ∀ {B2 : Hp} {a : Addr} {o : HO}, B2 = upd B' a o → B' a = none → (∃ o', H a = some o') ∨ v = .ref a ∧ (∃ m, p = .new m) → ∀ {w : V} {q : P}, RpP K σ H H' B' w q → (∀ a, v = .ref a → w = .ref a → ∀ m m', p = .new m → q = .new m' → False) → RpP K σ H H' B2 w q := by
    intro B2 a o eB nb hh w q hq hd
    subst eB
    cases q with
    | val x => exact Rp.mono (Sub.new nb) hq
    | slot j => exact hq
    | its _ => exact hq
    | new m =>
      obtain ⟨b, u, rfl, n, x, y, mo⟩ := hq
      refine ⟨b, u, rfl, n, x, ?_, mo.mono (Sub.new nb)⟩
      rw [upd_ne (fun z => ?_)]; exact y
      subst z
      rcases hh with ⟨o', z⟩ | ⟨rfl, m', rfl⟩
      · rw [n] at z; cases z
      · exact hd _ rfl rfl _ _ rfl rfl
  cases p with
  | val x =>
    cases e
    exact ⟨B', c, Sub.refl _, h, fun hq _ => hq⟩
  | its _ => exact h.elim
  | new m =>
    cases m with
    | dK _ => cases e
    | dT _ => cases e
    | lst ds =>
      cases e
      obtain ⟨a, o, rfl, n, x, y, xs, rfl, r⟩ := h
      have no := new_notOwn c.r0 c.st n
      have R2 := c.re.data x no (lck_new c n) y
      refine ⟨upd B' a (.lst xs), ⟨c.r0, ⟨c.st.bb.trans (Sub.new y), c.st.th, c.st.fr, fun {b u} hb => ?_, c.st.ow, c.st.lk⟩, R2⟩, Sub.new y, .lst upd_same (r.mono (Sub.new y)), fun hq hd => keep rfl y (.inr ⟨rfl, _, rfl⟩) hq hd⟩
      by_cases z : b = a
      · subst z; exact .inr (.inl n)
      · rw [upd_ne z] at hb; exact c.st.fre hb
  | slot i =>
    unfold fz at e
    simp only at e
    split at e
    · rename_i ds ei
      cases e
      obtain ⟨a, o, pa, ha, nb, R2, rp, ew⟩ := c.re.freeze ei
      cases ew h
      obtain ⟨m', e0⟩ := c.st.ow ei
      obtain ⟨q, u, x1, x2, x3, _⟩ := c.r0.own e0
      cases At.eq pa x1
      refine ⟨upd B' a o, ⟨c.r0, ⟨c.st.bb.trans (Sub.new nb), c.st.th, c.st.fr, fun {b u} hb => ?_, fun {j fz m} hj => ?_, fun {j fz m} => ?_⟩, R2⟩, Sub.new nb, rp, fun hq hd => keep rfl nb (.inl ⟨_, x3⟩) hq hd⟩
      · by_cases z : b = a
        · subst z; exact .inr (.inr ⟨i, m', e0, pa⟩)
        · rw [upd_ne z] at hb; exact c.st.fre hb
      · rcases set_get hj with ⟨_, e2⟩ | ⟨_, hj⟩
        · cases e2
        · exact c.st.ow hj
      · exact (set_lk (by intro f m z; rw [ei] at z; cases z) (by intro f m z; cases z)).trans c.st.lk
    · rename_i ei
      cases e
      obtain ⟨w, pw, r⟩ := c.re.dat ei
      cases Option.some.inj (Option.some.inj (h.symm.trans pw))
      exact ⟨B', c, Sub.refl _, r, fun hq _ => hq⟩
    · cases e
theorem newsA_mem : ∀ {ws : List V} {qs : List P} {i : Nat} {b : Addr} {m : MO}, ws[i]? = some (.ref b) → qs[i]? = some (.new m) → b ∈ newsA ws qs
  | w :: ws, q :: qs, 0, b, m, h1, h2 => by
    simp at h1 h2
    subst h1 h2
    exact List.mem_cons_self
  | w :: ws, q :: qs, i + 1, b, m, h1, h2 => by
    have ih := newsA_mem (ws := ws) (qs := qs) (i := i) (by simpa using h1) (by simpa using h2)
    cases w <;> cases q <;> first | exact ih | exact List.mem_cons_of_mem _ ih
  | [], _, _, _, _, h, _ => by simp at h
  | _ :: _, [], _, _, _, _, h => by simp at h
theorem Paired.mapW {α β : Type} {F G : α → β → Prop} : ∀ {l₁ : List α} {l₂ : List β}, Paired F l₁ l₂ → (∀ (i : Nat) a b, l₁[i]? = some a → l₂[i]? = some b → F a b → G a b) → Paired G l₁ l₂
  | _, _, .nil, _ => .nil
  | _, _, .cons r t, f => .cons (f 0 _ _ rfl rfl r) (Paired.mapW t fun i a b h1 h2 => f (i + 1) a b (by simpa using h1) (by simpa using h2))
theorem fzs_ok : ∀ {ps : List P} {vs : List V} {ds : List D} {B' : Hp} {env' env2 : En}, Cm K σ H B env H' B' env' → RpPA K σ H H' B' vs ps → fzs ps env' = some (ds, env2) →
    ∃ B2, Cm K σ H B env H' B2 env2 ∧ Sub B' B2 ∧ RpA K B2 vs ds
  | [], vs, ds, B', env', env2, c, h, e => by
    cases e
    cases h.all
    exact ⟨B', c, Sub.refl _, .nil⟩
  | p :: ps, vs, ds, B', env', env2, c, h, e => by
    unfold fzs at e
    cases h1 : fz p env' with
    | none => rw [h1] at e; cases e
    | some r =>
      obtain ⟨d, e1⟩ := r
      rw [h1] at e
      simp only at e
      cases h2 : fzs ps e1 with
      | none => rw [h2] at e; cases e
      | some r2 =>
        obtain ⟨es, e2⟩ := r2
        rw [h2] at e
        cases e
        obtain ⟨hall, hnd⟩ := h
        cases hall with
        | cons r t =>
          rename_i v vs
          obtain ⟨B2, c2, s2, r2, k2⟩ := fz_ok c r h1
          have nd2 : (newsA vs ps).Nodup := by
            cases p with
            | new m => obtain ⟨a, o, rfl, _⟩ := r; exact (List.nodup_cons.mp hnd).2
            | val d => cases v <;> exact hnd
            | slot i => cases v <;> exact hnd
            | its _ => cases v <;> exact hnd
          have t2 : Paired (fun v p => RpP K σ H H' B2 v p) vs ps := Paired.mapW t fun i w q g1 g2 hq => k2 hq fun a ea eb m m' ep eq => by
            subst ea eb ep eq
            exact (List.nodup_cons.mp hnd).1 (newsA_mem g1 g2)
          obtain ⟨B3, c3, s3, r3⟩ := fzs_ok c2 ⟨t2, nd2⟩ h2
          exact ⟨B3, c3, s2.trans s3, .cons (r2.mono s3) r3⟩

/-- what an operation behind a start is to give -/
theorem ResP.of {Q : VK} {z : P} (c : Cm K σ H B env H' B' env') (k : ∀ v H2 B2, Cm K σ H B env H2 B2 env' → RpP K σ H H2 B2 v z → Q v H2) (nz : (∃ d, z = .val d) ∨ ∃ m, z = .new m) : ResP K H' B' Q z := by
  rcases nz with ⟨d, rfl⟩ | ⟨m, rfl⟩
  · exact fun v H2 B2 g r => k v H2 B2 (c.grow g) r
  · exact fun a o H2 B2 g n h2 b2 mo => k _ H2 B2 (c.grow g) ⟨a, o, rfl, c.st.th n, h2, b2, mo⟩
end

/-! ### readings -/
section
variable (K : PySem.W.Frag) (Φ : Nat → Fn)
def tE (e : E) : TE := fun σ H Q => ∃ B env p env', RE K σ H B env ∧ evE Φ e env = some (p, env') ∧ ∀ v H' B', Cm K σ H B env H' B' env' → RpP K σ H H' B' v p → Q v H'
def tA (es : E) : TA := fun σ H Q => ∃ B env ps env', RE K σ H B env ∧ evA Φ es env = some (ps, env') ∧ ∀ vs H' B', Cm K σ H B env H' B' env' → RpPA K σ H H' B' vs ps → Q vs H'
end
end Mi

/-! Mi6: expressions without calls. -/
namespace Mi
open PySem PySem.Spec PyProof.Rows L2

theorem _root_.L2.PE.imp {X : Cx} {e : Expr} {t t' : TE} (h : PE X e t) (k : ∀ σ H Q, t' σ H Q → t σ H Q) : PE X e t' := ⟨fun pins s σ H Q I hw => h.run pins s σ H Q I (k σ H Q hw)⟩
theorem _root_.L2.PK.imp {X : Cx} {e : List Keyword} {t t' : TA} (h : PK X e t) (k : ∀ σ H Q, t' σ H Q → t σ H Q) : PK X e t' := ⟨fun pos pins s σ H Q I hw => h.run pos pins s σ H Q I (k σ H Q hw)⟩
theorem _root_.L2.PA.imp {X : Cx} {e : List Expr} {t t' : TA} (h : PA X e t) (k : ∀ σ H Q, t' σ H Q → t σ H Q) : PA X e t' := ⟨fun pos pins s σ H Q I hw => h.run pos pins s σ H Q I (k σ H Q hw)⟩
theorem _root_.L2.PT.imp {X : Cx} {e : Expr} {t t' : TT} (h : PT X e t) (k : ∀ σ H Q, t' σ H Q → t σ H Q) : PT X e t' := ⟨fun pins s σ H Q I hw => h.run pins s σ H Q I (k σ H Q hw)⟩
theorem _root_.L2.PW.imp {X : Cx} {e : Expr} {t t' : TT} (h : PW X e t) (k : ∀ σ H Q, t' σ H Q → t σ H Q) : PW X e t' := ⟨fun w pins s σ H Q I hw => h.run w pins s σ H Q I (k σ H Q hw)⟩
theorem _root_.L2.PO.imp {X : Cx} {e : Option Expr} {t t' : TO} (h : PO X e t) (k : ∀ σ H Q, t' σ H Q → t σ H Q) : PO X e t' := ⟨fun pins s σ H Q I hw => h.run pins s σ H Q I (k σ H Q hw)⟩

theorem _root_.L2.PE.or {X : Cx} {e : Expr} {t t' : TE} (h : PE X e t) (h' : PE X e t') : PE X e (fun σ H Q => t σ H Q ∨ t' σ H Q) :=
  ⟨fun pins s σ H Q I hw => hw.elim (h.run pins s σ H Q I) (h'.run pins s σ H Q I)⟩
theorem _root_.L2.PT.or {X : Cx} {e : Expr} {t t' : TT} (h : PT X e t) (h' : PT X e t') : PT X e (fun σ H Q => t σ H Q ∨ t' σ H Q) :=
  ⟨fun pins s σ H Q I hw => hw.elim (h.run pins s σ H Q I) (h'.run pins s σ H Q I)⟩

/-! ### dicts looked at -/
section
variable {K : PySem.W.Frag} {B H : Hp} {σ : L2.St} {env : En}
theorem valV_rel {κ : Type} [DecidableEq κ] : ∀ {ws : List (κ × V)} {kvs : List (κ × D)}, Paired (fun (p : κ × V) (q : κ × D) => p.1 = q.1 ∧ Rp K B p.2 q.2) ws kvs → ∀ k, (valD kvs k = none → valV ws k = none) ∧ ∀ d, valD kvs k = some d → ∃ v, valV ws k = some v ∧ Rp K B v d
  | _, _, .nil, k => ⟨fun _ => rfl, fun d h => by simp [valD] at h⟩
  | (k1, v1) :: ws, (k2, d2) :: kvs, .cons r t, k => by
    obtain ⟨e, r⟩ := r
    simp only at e r
    subst e
    obtain ⟨h1, h2⟩ := valV_rel t k
    unfold valD
    by_cases hk : k1 = k
    · subst hk
      rw [if_pos rfl]
      refine ⟨fun h => (by cases h), fun d h => ?_⟩
      cases h
      exact ⟨v1, by simp [valV, List.find?_cons], r⟩
    · rw [if_neg hk]
      have e : valV ((k1, v1) :: ws) k = valV ws k := by simp [valV, List.find?_cons, hk]
      rw [e]
      exact ⟨h1, h2⟩
theorem keysOf_rel : ∀ {ds : List D} {ks : List Key} {vs : List V}, keysOf ds = some ks → RpA K B vs ds → vs = ks.map kV
  | [], ks, vs, h, r => by cases h; cases r; rfl
  | d :: ds, ks, vs, h, r => by
    unfold keysOf at h
    split at h
    · rename_i k1 ks1 h1 h2
      cases h
      cases r with
      | cons r t =>
        rw [keysOf_rel h2 t]
        cases d <;> simp only [D.key?] at h1 <;> cases h1 <;> cases r <;> rfl
    · cases h
/-- the object that a slot's dict is -/
theorem RE.mo (R : RE K σ H B env) {i : Nat} {m : MO} (h : env[i]?.bind Slot.mo? = some m) : ∃ a o, At σ i a ∧ Rd H a o ∧ MOk K B o m := by
  cases e : env[i]? with
  | none => rw [e] at h; cases h
  | some s =>
    rw [e] at h
    cases s with
    | own f m' =>
      cases h
      obtain ⟨a, o, x, _, y, z⟩ := R.own e
      exact ⟨a, o, x, .inl y, z⟩
    | lck f m' =>
      cases h
      obtain ⟨a, o, x, _, y, z⟩ := R.lck e
      exact ⟨a, o, x, y.rd, z⟩
    | un => cases h
    | dat _ => cases h
theorem dlook_ok {a : Addr} {o : HO} {m : MO} {y : V} {k : D} {r : Option D} (sb : Sub B H) (hr : Rd H a o) (hm : MOk K B o m) (hy : Rp K B y k) (h : dlook m k = some r) : ∃ ov, DGet H a y ov ∧ (r = none → ov = none) ∧ ∀ d, r = some d → ∃ v, ov = some v ∧ Rp K B v d := by
  unfold dlook at h
  split at h
  · cases h
    obtain ⟨ws, rfl, pw⟩ := hm
    cases hy
    obtain ⟨h1, h2⟩ := valV_rel pw (.inl ‹Int›)
    exact ⟨_, .inl ⟨ws, _, hr, rfl, rfl⟩, h1, h2⟩
  · cases h
    obtain ⟨ws, rfl, pw⟩ := hm
    cases hy
    obtain ⟨h1, h2⟩ := valV_rel pw (.inr ‹Str›)
    exact ⟨_, .inl ⟨ws, _, hr, rfl, rfl⟩, h1, h2⟩
  · rename_i kvs ds
    cases hk : keysOf ds with
    | none => rw [hk] at h; cases h
    | some ks =>
      rw [hk] at h
      cases h
      obtain ⟨ws, rfl, pw⟩ := hm
      cases hy with
      | wtup h3 h4 =>
        obtain ⟨h1, h2⟩ := valV_rel pw ks
        have e := keysOf_rel hk h4
        exact ⟨_, .inr ⟨ws, ks, _, hr, rfl, by rw [← e]; exact sb _ _ h3, rfl⟩, h1, h2⟩
  · cases h
end

section
variable (K : PySem.W.Frag) (Φ : Nat → Fn)
def tT (c : E) : TT := fun σ H Q => ∃ B env b env', RE K σ H B env ∧ evT Φ c env = some (b, env') ∧ ∀ H' B', Cm K σ H B env H' B' env' → Q b H'
def tO (e : E) : TO := fun σ H Q => ∃ B env i env', RE K σ H B env ∧ evO Φ e env = some (i, env') ∧ ∀ H' B', Cm K σ H B env H' B' env' → Q i H'
end

section
variable {X : Cx} {Φ : Nat → Fn} {pos : Pos} {a b c : Expr} {ea eb ec : E}
theorem ev_name {i : Nat} {x : Str} (hN : X.N[i]? = some x) (hv : Vis X.env.scope x) (hd : (x == ("__debug__" : Str)) = false) (hcd : (x == ("__classdict__" : Str)) = false) : PE X (.Name x pos) (tE X.K Φ (.var i)) :=
  (pe_var hN hv hd hcd).imp fun σ H Q ⟨B, env, p, env', R, h, k⟩ => by
    unfold evE at h
    split at h
    · cases h
      rename_i e
      obtain ⟨v, pv, r⟩ := R.dat e
      exact ⟨v, pv, k v H B (Cm.refl R) r⟩
    · cases h
      rename_i e
      obtain ⟨q, o, pa, _⟩ := R.own e
      exact ⟨_, pa, k _ H B (Cm.refl R) pa⟩
    · cases h
      rename_i e
      obtain ⟨q, o, pa, _⟩ := R.lck e
      exact ⟨_, pa, k _ H B (Cm.refl R) pa⟩
    · cases h
theorem ev_cst {v : V} {d : D} (he : PE X a (tC v)) (hr : ∀ B, Rp X.K B v d) : PE X a (tE X.K Φ (.cst d)) :=
  he.imp fun σ H Q ⟨B, env, p, env', R, h, k⟩ => by
    cases h
    exact k v H B (Cm.refl R) (hr B)
theorem ev_tup {es : List Expr} {ees : E} {k0 : Nat} (ha : PA X es (tA X.K Φ ees)) : PE X (.Tuple es k0 pos) (tE X.K Φ (.tup ees)) :=
  (x_tupl ha).imp fun σ H Q ⟨B, env, p, env', R, h, k⟩ => by
    unfold evE at h
    split at h
    · rename_i ps e1 h1
      split at h
      · rename_i ds e2 h2
        split at h
        · cases h
          refine ⟨B, env, ps, e1, R, h1, fun vs H1 B1 c r => ?_⟩
          obtain ⟨B2, c2, s2, ra⟩ := fzs_ok c r h2
          exact ⟨by rw [ra.length]; exact lim_le (by assumption), fun q o eo n => k _ _ _ (c2.grow (Gr.new c2.re.sub n)) (.tup eo upd_same (ra.mono (Sub.new (c2.re.sub.none n))))⟩
        · cases h
      · cases h
    · cases h
theorem ev_lst {es : List Expr} {ees : E} (ha : PA X es (tA X.K Φ ees)) : PE X (.List es pos) (tE X.K Φ (.lst ees)) :=
  (pe_lst ha).imp fun σ H Q ⟨B, env, p, env', R, h, k⟩ => by
    unfold evE at h
    split at h
    · rename_i ps e1 h1
      split at h
      · rename_i ds e2 h2
        split at h
        · cases h
          refine ⟨B, env, ps, e1, R, h1, fun vs H1 B1 c r => ?_⟩
          obtain ⟨B2, c2, s2, ra⟩ := fzs_ok c r h2
          exact ⟨by rw [ra.length]; exact lim_le (by assumption), fun q n => k _ _ _ (c2.grow (Gr.newH c2.re.sub n)) ⟨q, _, rfl, c2.st.th n, upd_same, c2.re.sub.none n, vs, rfl, ra⟩⟩
        · cases h
      · cases h
    · cases h
theorem va_nil : PA X [] (tA X.K Φ .anil) :=
  pa_nil.imp fun σ H Q ⟨B, env, p, env', R, h, k⟩ => by
    cases h
    exact k [] H B (Cm.refl R) RpPA.nil
theorem va_cons {es : List Expr} {ees : E} (ha : PE X a (tE X.K Φ ea)) (hs : PA X es (tA X.K Φ ees)) (st : starEach (a :: es) X.env = (false, eval a X.env) :: starEach es X.env) : PA X (a :: es) (tA X.K Φ (.acons ea ees)) :=
  (pa_cons ha hs st).imp fun σ H Q ⟨B, env, p, env', R, h, k⟩ => by
    unfold evA at h
    split at h
    · rename_i p1 e1 h1
      split at h
      · rename_i ps e2 h2
        cases h
        exact ⟨B, env, p1, e1, R, h1, fun v H1 B1 c1 r1 => ⟨B1, e1, ps, env', c1.re, h2, fun vs H2 B2 c2 r2 => k _ H2 B2 (c1.trans c2) (RpPA.cons c1.r0 c1.st c2.st r1 r2)⟩⟩
      · cases h
    · cases h
theorem vk_nil : PK X [] (tA X.K Φ .anil) := pk_nil.imp fun σ H Q ⟨B, env, ps, env', R, h, k⟩ => by
  cases h
  exact k [] H B (Cm.refl R) RpPA.nil
theorem vk_cons {es : List Keyword} {ees : E} {nm : Option Str} {kpos : Pos} (ha : PE X a (tE X.K Φ ea)) (hs : PK X es (tA X.K Φ ees)) : PK X (⟨nm, a, kpos⟩ :: es) (tA X.K Φ (.acons ea ees)) :=
  (pk_cons ha hs).imp fun σ H Q ⟨B, env, p, env', R, h, k⟩ => by
    unfold evA at h
    split at h
    · rename_i p1 e1 h1
      split at h
      · rename_i ps e2 h2
        cases h
        exact ⟨B, env, p1, e1, R, h1, fun v H1 B1 c1 r1 => ⟨B1, e1, ps, env', c1.re, h2, fun vs H2 B2 c2 r2 => k _ H2 B2 (c1.trans c2) (RpPA.cons c1.r0 c1.st c2.st r1 r2)⟩⟩
      · cases h
    · cases h
theorem RpPA.vals {K : PySem.W.Frag} {σ : L2.St} {H H' B' : Hp} {vs ws : List V} {ds : List D} {ps : List P} (r : RpA K B' vs ds) (h : RpPA K σ H H' B' ws ps) : RpPA K σ H H' B' (vs ++ ws) (ds.map P.val ++ ps) := by
  induction r using RpA.rec (motive_1 := fun _ _ _ => True) with
  | nil => exact h
  | @cons v vs d ds r t _ ih =>
    refine ⟨.cons r ih.all, ?_⟩
    cases v <;> exact ih.nd
  | _ => trivial
theorem va_star {es : List Expr} {ees : E} {p0 : Pos} (ha : PE X a (tE X.K Φ ea)) (hs : PA X es (tA X.K Φ ees)) : PA X (.Starred a p0 :: es) (tA X.K Φ (.astar ea ees)) :=
  (StX.pa_star ha hs rfl).imp fun σ H Q ⟨B, env, p, env', R, h, k⟩ => by
    unfold evA at h
    split at h
    · rename_i p1 e1 h1
      split at h
      · rename_i x hx
        split at h
        · rename_i ds hd
          split at h
          · rename_i ps e2 h2
            cases h
            refine ⟨B, env, p1, e1, R, h1, fun v H1 B1 c1 r1 => ?_⟩
            have rs := pk_ok c1.re r1 hx
            have fin : ∀ (a : Addr) (xs : List V), v = .ref a → (SqT X.K H1 a xs ∨ SqL X.K H1 a xs) → RpA X.K B1 xs ds → StX.tStar X.K (fun _ H Q => Q v H) (tA X.K Φ ees) σ H1 Q := fun a xs ev hq ra =>
              ⟨a, xs, ev, hq, ⟨B1, e1, ps, env', c1.re, h2, fun vs H2 B2 c2 r2 => k _ H2 B2 (c1.trans c2) (RpPA.vals (ra.mono c2.st.bb) ⟨Paired.mapP r2.all fun _ _ z => z.sooner c1.st, r2.nd⟩)⟩⟩
            unfold D.seq? at hd
            split at hd
            · cases hd
              obtain ⟨q, xs, rfl, hh, ra⟩ := rs.lst c1.re.sub
              exact fin q xs rfl (.inr (Evl.sq_of hh)) ra
            · cases hd
              obtain ⟨q, xs, rfl, hh, ra⟩ := rs.tup c1.re.sub
              exact fin q xs rfl (.inl hh) ra
            · cases hd
          · cases h
        · cases h
      · cases h
    · cases h
theorem bin_nz {o : BO} {x y : D} {z : P} (h : binOp o x y = some z) : (∃ d, z = .val d) ∨ ∃ m, z = .new m := by
  unfold binOp at h
  repeat' split at h
  all_goals first | (cases h; exact .inl ⟨_, rfl⟩) | (cases h; exact .inr ⟨_, rfl⟩) | cases h
theorem ev_bin (o : BO) (ha : PE X a (tE X.K Φ ea)) (hb : PE X b (tE X.K Φ eb)) : PE X (.BinOp a o.op b pos) (tE X.K Φ (.bin o ea eb)) :=
  (pe_op (bin_ok o) ha hb).imp fun σ H Q ⟨B, env, p, env', R, h, k⟩ => by
    unfold evE at h
    split at h
    · rename_i p1 e1 h1
      split at h
      · rename_i p2 e2 h2
        split at h
        · rename_i x y hx hy
          split at h
          · rename_i z hz
            cases h
            exact ⟨B, env, p1, e1, R, h1, fun v H1 B1 c1 r1 => ⟨B1, e1, p2, _, c1.re, h2, fun w H2 B2 c2 r2 =>
              ⟨B2, x, y, _, c2.re.sub, pk_ok c2.re (r1.later c1.r0 c1.st c2.st) hx, pk_ok c2.re r2 hy, hz, ResP.of (c1.trans c2) k (bin_nz hz)⟩⟩⟩
          · cases h
        · cases h
      · cases h
    · cases h
/-- what a comparison of the evaluator's kind gives, by either road -/
def tCm (K : PySem.W.Frag) (o : CO) (ta tb : TE) : TE := fun σ H Q => tOp (rCmp K o) ta tb σ H Q ∨ (o = .in_ ∧ tDIn ta tb σ H Q) ∨ (o = .nin ∧ tDNotIn ta tb σ H Q)
theorem pe_tCm (o : CO) (hu : X.A.units + 65 < cLine) {ta tb : TE} (ha : PE X a ta) (hb : PE X b tb) (hm : behindInMarks o.op b = false) : PE X (.Compare a [o.op] [b] pos) (tCm X.K o ta tb) := by
  have h1 := pe_cmpR (pos := pos) (cmp_ok o hu) ha hb hm
  refine ⟨fun pins s σ H Q I hw => ?_⟩
  rcases hw with hw | ⟨rfl, hw⟩ | ⟨rfl, hw⟩
  · exact h1.run pins s σ H Q I hw
  · exact (pe_cmp (pos := pos) (pc_din (by omega) ha hb) hm).run pins s σ H Q I hw
  · exact (pe_cmp (pos := pos) (pc_dnotin (by omega) ha hb) hm).run pins s σ H Q I hw
theorem pt_tCm (o : CO) (hu : X.A.units + 65 < cLine) {ta tb : TE} (ha : PE X a ta) (hb : PE X b tb) (hm : behindInMarks o.op b = false) : PT X (.Compare a [o.op] [b] pos) (tTest (tCm X.K o ta tb)) := by
  have h1 := pt_cmpR (pos := pos) (cmp_ok o hu) ha hb hm
  refine ⟨fun pins s σ H Q I hw => ?_⟩
  rcases hw with hw | ⟨rfl, hw⟩ | ⟨rfl, hw⟩
  · exact h1.run pins s σ H Q I hw
  · exact (pt_cmp (pos := pos) (pc_din (by omega) ha hb) hm).run pins s σ H Q I hw
  · exact (pt_cmp (pos := pos) (pc_dnotin (by omega) ha hb) hm).run pins s σ H Q I hw
theorem tCm_of {o : CO} {σ : L2.St} {H : Hp} {Q : VK} (h : tE X.K Φ (.cmp o ea eb) σ H Q) : tCm X.K o (tE X.K Φ ea) (tE X.K Φ eb) σ H Q := by
  obtain ⟨B, env, p, env', R, h, k⟩ := h
  unfold evE at h
  split at h
  · rename_i p1 e1 h1
    split at h
    · rename_i p2 e2 h2
      split at h
      · rename_i x y hx hy
        split at h
        · rename_i z hz
          cases h
          exact .inl ⟨B, env, p1, e1, R, h1, fun v H1 B1 c1 r1 => ⟨B1, e1, p2, _, c1.re, h2, fun w H2 B2 c2 r2 =>
            ⟨B2, x, y, z, c2.re.sub, pk_ok c2.re (r1.later c1.r0 c1.st c2.st) hx, pk_ok c2.re r2 hy, hz, k _ H2 B2 (c1.trans c2) (.bl z)⟩⟩⟩
        · cases h
      · unfold dcmp at h
        split at h
        · rename_i kd i
          split at h
          · rename_i m hm
            split at h
            · rename_i r hr
              cases h
              refine .inr (.inl ⟨rfl, B, env, _, e1, R, h1, fun v H1 B1 c1 r1 => ⟨B1, e1, _, _, c1.re, h2, fun w H2 B2 c2 r2 => ?_⟩⟩)
              obtain ⟨q, o, pa, hd, mo⟩ := c2.re.mo hm
              cases Option.some.inj (Option.some.inj (show some (some w) = some (some (V.ref q)) from r2.symm.trans pa))
              obtain ⟨ov, g, n1, n2⟩ := dlook_ok c2.re.sub hd mo (Rp.mono c2.st.bb r1) hr
              refine ⟨q, ov, rfl, g, ?_⟩
              have e : ov.isSome = r.isSome := by
                cases r with
                | none => rw [n1 rfl] <;> rfl
                | some d => obtain ⟨v, e, _⟩ := n2 d rfl; rw [e] <;> rfl
              rw [e]
              exact k _ H2 B2 (c1.trans c2) (.bl _)
            · cases h
          · cases h
        · rename_i kd i
          split at h
          · rename_i m hm
            split at h
            · rename_i r hr
              cases h
              refine .inr (.inr ⟨rfl, B, env, _, e1, R, h1, fun v H1 B1 c1 r1 => ⟨B1, e1, _, _, c1.re, h2, fun w H2 B2 c2 r2 => ?_⟩⟩)
              obtain ⟨q, o, pa, hd, mo⟩ := c2.re.mo hm
              cases Option.some.inj (Option.some.inj (show some (some w) = some (some (V.ref q)) from r2.symm.trans pa))
              obtain ⟨ov, g, n1, n2⟩ := dlook_ok c2.re.sub hd mo (Rp.mono c2.st.bb r1) hr
              refine ⟨q, ov, rfl, g, ?_⟩
              have e : ov.isSome = r.isSome := by
                cases r with
                | none => rw [n1 rfl] <;> rfl
                | some d => obtain ⟨v, e, _⟩ := n2 d rfl; rw [e] <;> rfl
              rw [e]
              exact k _ H2 B2 (c1.trans c2) (.bl _)
            · cases h
          · cases h
        · cases h
    · cases h
  · cases h
theorem ev_cmp (o : CO) (hu : X.A.units + 65 < cLine) (ha : PE X a (tE X.K Φ ea)) (hb : PE X b (tE X.K Φ eb)) (hm : behindInMarks o.op b = false) : PE X (.Compare a [o.op] [b] pos) (tE X.K Φ (.cmp o ea eb)) :=
  (pe_tCm o hu ha hb hm).imp fun σ H Q h => tCm_of h
theorem ev_neg (ha : PE X a (tE X.K Φ ea)) : PE X (.UnaryOp .USub a pos) (tE X.K Φ (.neg ea)) :=
  (pe_un un_neg ha).imp fun σ H Q ⟨B, env, p, env', R, h, k⟩ => by
    unfold evE at h
    split at h
    · rename_i i e1 h1
      cases h
      refine ⟨B, env, _, _, R, h1, fun v H1 B1 c1 r1 => ?_⟩
      cases r1
      exact ⟨i, rfl, k _ H1 B1 c1 (.int _)⟩
    · cases h
theorem evT_of {c : E} {env env' : En} {b : Bool} (h : evE Φ c env = some (.val (.bl b), env')) : evT Φ c env = some (b, env') := by
  unfold evT; rw [h]
theorem evT_iff {c : E} {env env' : En} {b : Bool} (h : evT Φ c env = some (b, env')) : evE Φ c env = some (.val (.bl b), env') := by
  unfold evT at h
  split at h
  · cases h; assumption
  · cases h
theorem ev_and {rest : List Expr} (ha : PE X a (tE X.K Φ ea)) (hb : PE X (.BoolOp .And (b :: rest) pos) (tE X.K Φ eb)) : PE X (.BoolOp .And (a :: b :: rest) pos) (tE X.K Φ (.and ea eb)) :=
  (pe_and ha hb).imp fun σ H Q ⟨B, env, p, env', R, h, k⟩ => by
    unfold evE at h
    split at h
    · rename_i e1 h1
      split at h
      · rename_i r e2 h2
        cases h
        refine ⟨B, env, _, _, R, h1, fun v H1 B1 c1 r1 => ?_⟩
        cases r1
        exact ⟨true, rfl, iteT ⟨B1, e1, _, _, c1.re, h2, fun w H2 B2 c2 r2 => k w H2 B2 (c1.trans c2) r2⟩⟩
      · cases h
    · rename_i e1 h1
      cases h
      refine ⟨B, env, _, _, R, h1, fun v H1 B1 c1 r1 => ?_⟩
      cases r1
      exact ⟨false, rfl, iteF (k _ H1 B1 c1 (.bl false))⟩
    · cases h
theorem ev_or {rest : List Expr} (ha : PE X a (tE X.K Φ ea)) (hb : PE X (.BoolOp .Or (b :: rest) pos) (tE X.K Φ eb)) : PE X (.BoolOp .Or (a :: b :: rest) pos) (tE X.K Φ (.or ea eb)) :=
  (pe_or ha hb).imp fun σ H Q ⟨B, env, p, env', R, h, k⟩ => by
    unfold evE at h
    split at h
    · rename_i e1 h1
      split at h
      · rename_i r e2 h2
        cases h
        refine ⟨B, env, _, _, R, h1, fun v H1 B1 c1 r1 => ?_⟩
        cases r1
        exact ⟨false, rfl, iteF ⟨B1, e1, _, _, c1.re, h2, fun w H2 B2 c2 r2 => k w H2 B2 (c1.trans c2) r2⟩⟩
      · cases h
    · rename_i e1 h1
      cases h
      refine ⟨B, env, _, _, R, h1, fun v H1 B1 c1 r1 => ?_⟩
      cases r1
      exact ⟨true, rfl, iteT (k _ H1 B1 c1 (.bl true))⟩
    · cases h
theorem ev_one {op : BoolOp} (ha : PE X a (tE X.K Φ ea)) : PE X (.BoolOp op [a] pos) (tE X.K Φ ea) := pe_one ha
theorem ev_not (ha : PE X a (tE X.K Φ ea)) : PE X (.UnaryOp .Not a pos) (tE X.K Φ (.not ea)) :=
  (pe_not ha).imp fun σ H Q ⟨B, env, p, env', R, h, k⟩ => by
    unfold evE at h
    split at h
    · rename_i r e1 h1
      cases h
      refine ⟨B, env, _, _, R, h1, fun v H1 B1 c1 r1 => ?_⟩
      cases r1
      exact ⟨r, rfl, k _ H1 B1 c1 (.bl _)⟩
    · cases h
theorem ev_ite (hc : PT X c (tT X.K Φ ec)) (ha : PE X a (tE X.K Φ ea)) (hb : PE X b (tE X.K Φ eb)) : PE X (.IfExp c a b pos) (tE X.K Φ (.ite ec ea eb)) :=
  (pe_ifExp hc ha hb).imp fun σ H Q ⟨B, env, p, env', R, h, k⟩ => by
    unfold evE at h
    split at h
    · rename_i e1 h1
      exact ⟨B, env, true, e1, R, evT_of h1, fun H1 B1 c1 => iteT ⟨B1, e1, p, env', c1.re, h, fun v H2 B2 c2 r2 => k v H2 B2 (c1.trans c2) (r2.sooner c1.st)⟩⟩
    · rename_i e1 h1
      exact ⟨B, env, false, e1, R, evT_of h1, fun H1 B1 c1 => iteF ⟨B1, e1, p, env', c1.re, h, fun v H2 B2 c2 r2 => k v H2 B2 (c1.trans c2) (r2.sooner c1.st)⟩⟩
    · cases h
theorem ev_chn (o o' : CO) (hu : X.A.units + 65 < cLine) (ha : PE X a (tE X.K Φ ea)) (hb : PE X b (tE X.K Φ eb)) (hc : PE X c (tE X.K Φ ec)) (hm : lastMarks [o.op, o'.op] [b, c] = false) :
    PE X (.Compare a [o.op, o'.op] [b, c] pos) (tE X.K Φ (.chn o o' ea eb ec)) :=
  (pe_chain (cmp_ok o hu) (cmp_ok o' hu) ha hb hc hm).imp fun σ H Q ⟨B, env, p, env', R, h, k⟩ => by
    unfold evE at h
    split at h
    · rename_i x e1 h1
      split at h
      · rename_i y e2 h2
        split at h
        · rename_i hz
          split at h
          · rename_i z e3 h3
            split at h
            · rename_i r hr
              cases h
              exact ⟨B, env, _, e1, R, h1, fun v H1 B1 c1 r1 => ⟨B1, e1, _, e2, c1.re, h2, fun w H2 B2 c2 r2 =>
                ⟨B2, x, y, true, c2.re.sub, .inl (Rp.mono c2.st.bb r1), .inl r2, hz, true, rfl, iteT ⟨B2, e2, _, _, c2.re, h3, fun u H3 B3 c3 r3 =>
                  ⟨B3, y, z, r, c3.re.sub, .inl (Rp.mono c3.st.bb r2), .inl r3, hr, k _ H3 B3 ((c1.trans c2).trans c3) (.bl r)⟩⟩⟩⟩⟩
            · cases h
          · cases h
        · rename_i hz
          cases h
          exact ⟨B, env, _, e1, R, h1, fun v H1 B1 c1 r1 => ⟨B1, e1, _, _, c1.re, h2, fun w H2 B2 c2 r2 =>
            ⟨B2, x, y, false, c2.re.sub, .inl (Rp.mono c2.st.bb r1), .inl r2, hz, false, rfl, iteF (k _ H2 B2 (c1.trans c2) (.bl false))⟩⟩⟩
        · cases h
      · cases h
    · cases h
theorem ixN_map {n m : Nat} (h : n = m) (i : Int) : ixN n i = ixN m i := by rw [h]
theorem RpA.atI {K : PySem.W.Frag} {B : Hp} {vs : List V} {ds : List D} {i : Int} {d : D} (r : RpA K B vs ds) (h : atI ds i = some d) : ∃ v, atI vs i = some v ∧ Rp K B v d := by
  unfold L2.atI at h ⊢
  rw [r.length]
  cases e : ixN ds.length i with
  | none => rw [e] at h; cases h
  | some j =>
    rw [e] at h
    exact r.get h
theorem ev_ix (hu : X.A.units + 65 < cLine) (ha : PE X a (tE X.K Φ ea)) (hb : PE X b (tE X.K Φ eb)) (hp : PlainIx b) (hs : NoSl b) : PE X (.Subscript a b pos) (tE X.K Φ (.ix ea eb)) :=
  ((pe_ix (ix_list.or ix_tup) ha hb hp).or (pe_dget (by omega) ha hb hs)).imp fun σ H Q ⟨B, env, p, env', R, h, k⟩ => by
    unfold evE at h
    split at h
    · rename_i p1 e1 h1
      split at h
      · rename_i y e2 h2
        split at h
        · rename_i x hx
          split at h
          · rename_i d hd
            cases h
            refine .inl ⟨B, env, p1, e1, R, h1, fun v H1 B1 c1 r1 => ⟨B1, e1, _, _, c1.re, h2, fun w H2 B2 c2 r2 => ?_⟩⟩
            have rs := pk_ok c2.re (r1.later c1.r0 c1.st c2.st) hx
            have kk : ∀ v, Rp X.K B2 v d → Q v H2 := fun v r => k v H2 B2 (c1.trans c2) r
            unfold ixOp at hd
            split at hd
            · cases r2
              obtain ⟨q, xs, rfl, hh, ra⟩ := rs.tup c2.re.sub
              obtain ⟨v, hv, rv⟩ := ra.atI hd
              exact .inr ⟨q, xs, _, v, rfl, rfl, hh, hv, kk v rv⟩
            · cases r2
              obtain ⟨q, xs, rfl, hh, ra⟩ := rs.lst c2.re.sub
              obtain ⟨v, hv, rv⟩ := ra.atI hd
              exact .inl ⟨q, xs, _, v, rfl, rfl, Evl.sq_of hh, hv, kk v rv⟩
            · cases r2
              obtain ⟨q, rfl, hh⟩ := rs.scr c2.re.sub
              rename_i ns i
              cases hi : L2.atI ns i with
              | none => rw [hi] at hd; cases hd
              | some n =>
                rw [hi] at hd; cases hd
                refine .inl ⟨q, _, _, .int n, rfl, rfl, hh, ?_, kk _ (.int n)⟩
                unfold L2.atI at hi ⊢
                rw [List.length_map]
                cases e : ixN ns.length i with
                | none => rw [e] at hi; cases hi
                | some j =>
                  rw [e] at hi
                  simp only [Option.bind_some] at hi ⊢
                  rw [List.getElem?_map, hi]; rfl
            · cases hd
          · cases h
        · split at h
          · rename_i d hd
            cases h
            refine .inr ⟨B, env, p1, e1, R, h1, fun v H1 B1 c1 r1 => ⟨B1, e1, _, _, c1.re, h2, fun w H2 B2 c2 r2 => ?_⟩⟩
            unfold dix at hd
            split at hd
            · split at hd
              · rename_i m hm
                split at hd
                · rename_i d' hr
                  cases hd
                  obtain ⟨q, o, pa, hd, mo⟩ := c2.re.mo hm
                  cases Option.some.inj (Option.some.inj (show some (some v) = some (some (V.ref q)) from r1.symm.trans pa))
                  obtain ⟨ov, g, n1, n2⟩ := dlook_ok c2.re.sub hd mo r2 hr
                  obtain ⟨u, e, ru⟩ := n2 _ rfl
                  subst e
                  exact ⟨q, u, rfl, g, k _ H2 B2 (c1.trans c2) ru⟩
                · cases hd
              · cases hd
            · cases hd
          · cases h
      · cases h
    · cases h
theorem vo_none : PO X none (tO X.K Φ .gone) :=
  po_none.imp fun σ H Q ⟨B, env, p, env', R, h, k⟩ => by
    cases h
    exact k H B (Cm.refl R)
theorem vo_some {ees : E} (ha : PE X a (tE X.K Φ ea)) : PO X (some a) (tO X.K Φ (.acons ea ees)) :=
  (po_some ha).imp fun σ H Q ⟨B, env, p, env', R, h, k⟩ => by
    unfold evO at h
    split at h
    · rename_i i e1 h1
      cases h
      refine ⟨B, env, _, _, R, h1, fun v H1 B1 c1 r1 => ?_⟩
      cases r1
      exact ⟨i, rfl, k H1 B1 c1⟩
    · cases h
theorem RpA.cut {K : PySem.W.Frag} {B : Hp} {vs : List V} {ds : List D} (r : RpA K B vs ds) (lo hi : Option Int) : RpA K B (cutV vs lo hi) (cutD ds lo hi) := by
  unfold cutV cutD
  rw [r.length]
  exact (r.drop _).take _
theorem slc_nz {x : D} {l h : Option Int} {z : P} (e : slcOp x l h = some z) : (∃ d, z = .val d) ∨ ∃ m, z = .new m := by
  unfold slcOp at e
  split at e <;> cases e
  · exact .inl ⟨_, rfl⟩
  · exact .inr ⟨_, rfl⟩
  · exact .inr ⟨_, rfl⟩
theorem cut_whole {ds : List D} {lo hi : Option Int} (h : HT.sIx ds.length 0 lo = 0 ∧ HT.sIx ds.length ds.length hi = ds.length) : cutD ds lo hi = ds := by
  unfold cutD
  rw [h.1, h.2]
  simp
theorem ev_slc {lo hi : Option Expr} {el eh : E} {p2 : Pos} (ha : PE X a (tE X.K Φ ea)) (hl : PO X lo (tO X.K Φ el)) (hh : PO X hi (tO X.K Φ eh)) : PE X (.Subscript a (.Slice lo hi none p2) pos) (tE X.K Φ (.slc ea el eh)) :=
  (pe_slice (SlR.or sl_list x_slice) ha hl hh).imp fun σ H Q ⟨B, env, p, env', R, h, k⟩ => by
    unfold evE at h
    split at h
    · rename_i p1 e1 h1
      split at h
      · rename_i l e2 h2
        split at h
        · rename_i u e3 h3
          split at h
          · rename_i x hx
            split at h
            · rename_i z hz
              cases h
              refine ⟨B, env, p1, e1, R, h1, fun v H1 B1 c1 r1 => ⟨B1, e1, l, e2, c1.re, h2, fun H2 B2 c2 => ⟨B2, e2, u, _, c2.re, h3, fun H3 B3 c3 => ?_⟩⟩⟩
              have rs := pk_ok c3.re ((r1.later c1.r0 c1.st c2.st).later c1.r0 (c1.trans c2).st c3.st) hx
              have q := ResP.of ((c1.trans c2).trans c3) k (slc_nz hz)
              unfold slcOp at hz
              split at hz
              · cases hz
                obtain ⟨b, xs, rfl, hb, ra⟩ := rs.tup c3.re.sub
                refine .inr ⟨b, xs, rfl, hb, fun w => ?_, fun _ p o eo n => q.tup c3.re.sub (ra.cut l u) eo n⟩
                rw [ra.length] at w
                rw [cut_whole w] at q
                rcases rs with rs | ⟨_, _, _, _, w, _⟩
                · exact q.rp c3.re.sub rs
                · cases w
              · cases hz
                obtain ⟨b, xs, rfl, hb, ra⟩ := rs.lst c3.re.sub
                exact .inl ⟨b, xs, rfl, Evl.sq_of hb, fun p n => q.lst c3.re.sub (ra.cut l u) n⟩
              · cases hz
                obtain ⟨b, rfl, hb⟩ := rs.scr c3.re.sub
                exact .inl ⟨b, _, rfl, hb, fun p n => q.lst c3.re.sub ((RpA.ofInts _).cut l u) n⟩
              · cases hz
            · cases h
          · cases h
        · cases h
      · cases h
    · cases h

/-! ### tests -/
theorem et_val {e : Expr} {ee : E} (h : PE X e (tE X.K Φ ee)) (he : ∀ whole, isTrue e X.env whole = (do let v ← whole; standAt e.pos; holding [v] (truthy v))) : PT X e (tT X.K Φ ee) :=
  (pt_val h he).imp fun σ H Q ⟨B, env, b, env', R, h, k⟩ => ⟨B, env, _, env', R, evT_iff h, fun v H1 B1 c1 r1 => by
    cases r1
    exact ⟨b, rfl, k H1 B1 c1⟩⟩
theorem et_cmp (o : CO) (hu : X.A.units + 65 < cLine) (ha : PE X a (tE X.K Φ ea)) (hb : PE X b (tE X.K Φ eb)) (hm : behindInMarks o.op b = false) : PT X (.Compare a [o.op] [b] pos) (tT X.K Φ (.cmp o ea eb)) :=
  (pt_tCm o hu ha hb hm).imp fun σ H Q ⟨B, env, r, env', R, h, k⟩ => tCm_of ⟨B, env, _, env', R, evT_iff h, fun v H1 B1 c1 r1 => by
    cases r1
    exact ⟨r, rfl, k H1 B1 c1⟩⟩
theorem et_chn (o o' : CO) (hu : X.A.units + 65 < cLine) (ha : PE X a (tE X.K Φ ea)) (hb : PE X b (tE X.K Φ eb)) (hc : PE X c (tE X.K Φ ec)) (hm : lastMarks [o.op, o'.op] [b, c] = false) :
    PT X (.Compare a [o.op, o'.op] [b, c] pos) (tT X.K Φ (.chn o o' ea eb ec)) :=
  (pt_chain (cmp_ok o hu) (cmp_ok o' hu) ha hb hc hm).imp fun σ H Q ⟨B, env, r0, env', R, h, k⟩ => by
    have h := evT_iff h
    unfold evE at h
    split at h
    · rename_i x e1 h1
      split at h
      · rename_i y e2 h2
        split at h
        · rename_i hz
          split at h
          · rename_i z e3 h3
            split at h
            · rename_i r hr
              cases h
              exact ⟨B, env, _, e1, R, h1, fun v H1 B1 c1 r1 => ⟨B1, e1, _, e2, c1.re, h2, fun w H2 B2 c2 r2 =>
                ⟨B2, x, y, true, c2.re.sub, .inl (Rp.mono c2.st.bb r1), .inl r2, hz, true, rfl, iteT ⟨B2, e2, _, _, c2.re, h3, fun u H3 B3 c3 r3 =>
                  ⟨B3, y, z, r0, c3.re.sub, .inl (Rp.mono c3.st.bb r2), .inl r3, hr, r0, rfl, k H3 B3 ((c1.trans c2).trans c3)⟩⟩⟩⟩⟩
            · cases h
          · cases h
        · rename_i hz
          cases h
          exact ⟨B, env, _, e1, R, h1, fun v H1 B1 c1 r1 => ⟨B1, e1, _, _, c1.re, h2, fun w H2 B2 c2 r2 =>
            ⟨B2, x, y, false, c2.re.sub, .inl (Rp.mono c2.st.bb r1), .inl r2, hz, false, rfl, iteF ⟨false, rfl, k H2 B2 (c1.trans c2)⟩⟩⟩⟩
        · cases h
      · cases h
    · cases h
theorem et_not (ha : PT X a (tT X.K Φ ea)) : PT X (.UnaryOp .Not a pos) (tT X.K Φ (.not ea)) :=
  (pt_not ha).imp fun σ H Q ⟨B, env, r0, env', R, h, k⟩ => by
    have h := evT_iff h
    unfold evE at h
    split at h
    · rename_i r e1 h1
      cases h
      exact ⟨B, env, r, _, R, evT_of h1, fun H1 B1 c1 => k H1 B1 c1⟩
    · cases h
theorem ew_one {op : BoolOp} (ha : PT X a (tT X.K Φ ea)) : PW X (.BoolOp op [a] pos) (tT X.K Φ ea) := by
  cases op with
  | And => exact pw_and1 ha
  | Or => exact pw_or1 ha
theorem ew_and {rest : List Expr} (ha : PT X a (tT X.K Φ ea)) (hb : PW X (.BoolOp .And (b :: rest) pos) (tT X.K Φ eb)) : PW X (.BoolOp .And (a :: b :: rest) pos) (tT X.K Φ (.and ea eb)) :=
  (pw_and ha hb).imp fun σ H Q ⟨B, env, r0, env', R, h, k⟩ => by
    have h := evT_iff h
    unfold evE at h
    split at h
    · rename_i e1 h1
      split at h
      · rename_i r e2 h2
        cases h
        exact ⟨B, env, true, e1, R, evT_of h1, fun H1 B1 c1 => iteT ⟨B1, e1, _, _, c1.re, evT_of h2, fun H2 B2 c2 => k H2 B2 (c1.trans c2)⟩⟩
      · cases h
    · rename_i e1 h1
      cases h
      exact ⟨B, env, false, _, R, evT_of h1, fun H1 B1 c1 => iteF (k H1 B1 c1)⟩
    · cases h
theorem ew_or {rest : List Expr} (ha : PT X a (tT X.K Φ ea)) (hb : PW X (.BoolOp .Or (b :: rest) pos) (tT X.K Φ eb)) : PW X (.BoolOp .Or (a :: b :: rest) pos) (tT X.K Φ (.or ea eb)) :=
  (pw_or ha hb).imp fun σ H Q ⟨B, env, r0, env', R, h, k⟩ => by
    have h := evT_iff h
    unfold evE at h
    split at h
    · rename_i e1 h1
      split at h
      · rename_i r e2 h2
        cases h
        exact ⟨B, env, false, e1, R, evT_of h1, fun H1 B1 c1 => iteF ⟨B1, e1, _, _, c1.re, evT_of h2, fun H2 B2 c2 => k H2 B2 (c1.trans c2)⟩⟩
      · cases h
    · rename_i e1 h1
      cases h
      exact ⟨B, env, true, _, R, evT_of h1, fun H1 B1 c1 => iteT (k H1 B1 c1)⟩
    · cases h
end
end Mi

/-! Mi7: calls. -/
namespace Mi
open PySem PySem.Spec PyProof.Rows L2

/-! ### a def's promise, by what it gives -/
def ownA : List V → List Arg → List Addr
  | .ref a :: vs, .own _ :: as => a :: ownA vs as
  | _ :: vs, _ :: as => ownA vs as
  | _, _ => []
def ArgOk (K : PySem.W.Frag) (B H : Hp) (v : V) : Arg → Prop
  | .dat d => Rp K B v d
  | .own m => ∃ a o, v = .ref a ∧ B a = none ∧ H a = some o ∧ MOk K B o m
def RetOk (K : PySem.W.Frag) (H H' B' : Hp) (v : V) : Ret → Prop
  | .val d => Rp K B' v d
  | .new m => ∃ a o, v = .ref a ∧ H a = none ∧ H' a = some o ∧ B' a = none ∧ MOk K B' o m
def OutOk (K : PySem.W.Frag) (H' B' : Hp) (a : Addr) (m : MO) : Prop := B' a = none ∧ ∃ o, H' a = some o ∧ MOk K B' o m
/-- what a call leaves: fs are the arguments that it may write to -/
structure Lft (fs : List Addr) (H B H' B' : Hp) : Prop where
  bb : Sub B B'
  bh : Sub B' H'
  th : ∀ {a}, H' a = none → H a = none
  fr : ∀ {a o}, H a = some o → a ∉ fs → H' a = some o
  fre : ∀ {a o}, B' a = some o → (∃ u, B a = some u) ∨ H a = none
def spF (K : PySem.W.Frag) (F : Fn) (vs : List V) (H : Hp) (Q : VK) : Prop := ∃ B as r ms, Sub B H ∧ Paired (ArgOk K B H) vs as ∧ (ownA vs as).Nodup ∧ F as = some (r, ms) ∧
  ∀ v H' B', Lft (ownA vs as) H B H' B' → RetOk K H H' B' v r → Paired (OutOk K H' B') (ownA vs as) ms → Q v H'
structure FnG (P : Program) (w : World) (K : PySem.W.Frag) (mg : Str → Option Value) (base : Heap) (k : Nat) (f : Addr) (fd : FuncData) (ps : List Str) (F : Fn) : Prop where
  len : ∀ {as r}, F as = some r → as.length = ps.length
  run : ∀ (A : Around) (outer : List Env) (s : Shared) (H : Hp) (args : Args) (us : List Value) (vs : List V) (Q : VK), Room k A → A.guards = some [] → Env0 P w K mg base A outer s H → BindsTo s fd args (ps.zip us) → Vals vs us → spF K F vs H Q →
    codeAny (model P w) A (.call (.ref f) args) (CR CX0 outer P w H s Q E0) s
theorem FnG.mono {P : Program} {w : World} {K : PySem.W.Frag} {mg : Str → Option Value} {base : Heap} {j k : Nat} {f : Addr} {fd : FuncData} {ps : List Str} {F : Fn} (G : FnG P w K mg base j f fd ps F) (h : j ≤ k) : FnG P w K mg base k f fd ps F :=
  ⟨G.len, fun A outer s H args us vs Q hr => G.run A outer s H args us vs Q (hr.mono h)⟩
theorem paired_len {α β : Type} {F : α → β → Prop} {l : List α} {l2 : List β} (h : Paired F l l2) : l.length = l2.length := Paired.length h
theorem run_g {X : Cx} {k : Nat} {f : Addr} {fd : FuncData} {ps : List Str} {F : Fn} {pins : List (Addr × Obj)} {σ : L2.St} {H : Hp} {s : Shared} {Q : VK} {us : List Value} {vs : List V} (G : FnG X.prog X.w X.K X.mg X.base k f fd ps F) (hr : Room k X.A) (hg : X.A.guards = some []) (hb : Binds X.K fd ps [])
    (I : Inv X pins σ H s) (r : Vals vs us) (h : spF X.K F vs H Q) : wpAny (model X.prog X.w) X.A (call (.ref f) us) (EP X pins σ Q) X.xe s := by
  obtain ⟨B, as, rt, ms, e1, e2, e3, e4, e5⟩ := h
  have hl : (us ++ []).length = ps.length := by rw [List.append_nil, ← r.length, paired_len e2]; exact G.len e4
  have b0 := hb s us I.kIn hl
  rw [List.append_nil] at b0
  refine wpAny_call (codeAny_mono (G.run X.A X.stack s H ⟨us, []⟩ us vs Q hr hg I.env0 b0 r ⟨B, as, rt, ms, e1, e2, e3, e4, e5⟩) fun z s' hz => ?_)
  cases z with
  | error e => exact False.elim hz
  | ok fl => cases fl with
    | ret u => exact I.after hz
    | next => exact False.elim hz
    | brk => exact False.elim hz
    | cont => exact False.elim hz

/-- the orders of keywords that the calls of a def use -/
class KwTab where
  tab : Str → List (List Str × List Nat)
def KwB (K : PySem.W.Frag) (fd : FuncData) (ps ks : List Str) (pm : List Nat) : Prop := ∀ (s : Shared) (ws : List Value), K.In s.heap → ws.length = ks.length → BindsTo s fd ⟨[], ks.zip ws⟩ (ps.zip (permL pm ws))
abbrev KwA [KwTab] (K : PySem.W.Frag) (x : Str) (fd : FuncData) (ps : List Str) : Prop := ∀ ks pm, (ks, pm) ∈ KwTab.tab x → KwB K fd ps ks pm
/-- what the code at hand leans on -/
structure GX [KwTab] (nms : List Str) (Φ : Nat → Fn) (X : Cx) (k : Nat) : Prop where
  calm : X.calm = true
  nd : X.N.Nodup
  room : Room k X.A
  gd : X.A.guards = some []
  blt : ∀ x : Str, x ∈ (["len", "sum", "all", "any", "int", "abs", "list", "tuple", "sorted", "max", "min", "repr", "isinstance", "range", "enumerate", "zip", "bool", "str", "dict"] : List Str) → X.mg x = none
  fns : ∀ (i : Nat) (x : Str) (as : List Arg) (r : Ret × List MO), nms[i]? = some x → Φ i as = some r → ∃ f fd ps, X.mg x = some (.ref f) ∧ PySem.W.keepIn X.K (.ref f) = true ∧ (Binds X.K fd ps [] ∧ KwA X.K x fd ps) ∧ FnG X.prog X.w X.K X.mg X.base k f fd ps (Φ i)
theorem GX.hu [KwTab] {nms : List Str} {Φ : Nat → Fn} {X : Cx} {k : Nat} (g : GX nms Φ X k) : X.A.units + 65 < cLine := by
  have := g.room.un
  omega

section
variable {K : PySem.W.Frag} {σ : L2.St} {H B H' B' H1 B1 : Hp} {env env' env1 : En} {v : V} {p : P} {d : D} {vs : List V} {ps : List P}
/-- the arguments of a call -/
theorem args_ok : ∀ {ps : List P} {vs : List V} {as : List Arg} {is : List Nat} {B' : Hp}, Cm K σ H B env H' B' env' → RpPA K σ H H' B' vs ps → toArgs ps env' = some (as, is) →
    ∃ B2, Cm K σ H B env H' B2 env' ∧ Sub B' B2 ∧ Paired (ArgOk K B2 H') vs as ∧ Paired (fun (a : Addr) (i : Nat) => At σ i a ∧ ∃ fz m, env'[i]? = some (Slot.own fz m)) (ownA vs as) is ∧ is.Nodup
  | [], vs, as, is, B', c, h, e => by
    cases e
    cases h.all
    exact ⟨B', c, Sub.refl _, .nil, .nil, List.nodup_nil⟩
  | p :: ps, vs, as, is, B', c, h, e => by
    obtain ⟨hall, hnd⟩ := h
    cases hall with
    | cons r t =>
      rename_i v vs
      cases p with
      | its _ => cases e
      | val d =>
        have nd2 : (newsA vs ps).Nodup := by cases v <;> exact hnd
        unfold toArgs at e
        cases h2 : toArgs ps env' with
        | none => rw [h2] at e; cases e
        | some q =>
          obtain ⟨as2, is2⟩ := q
          rw [h2] at e
          cases e
          obtain ⟨B2, c2, s2, a2, o2, n2⟩ := args_ok c ⟨t, nd2⟩ h2
          exact ⟨B2, c2, s2, .cons (Rp.mono s2 r) a2, by cases v <;> exact o2, n2⟩
      | new m =>
        cases m with
        | dK _ => cases e
        | dT _ => cases e
        | lst ds =>
          unfold toArgs at e
          cases h2 : toArgs ps env' with
          | none => rw [h2] at e; cases e
          | some q =>
            obtain ⟨as2, is2⟩ := q
            rw [h2] at e
            cases e
            obtain ⟨B3, c3, s3, r3, k3⟩ := fz_ok c r (show fz (.new (.lst ds)) env' = some (.lst ds, env') from rfl)
            obtain ⟨a, o, rfl, _⟩ := r
            have t3 : Paired (fun v p => RpP K σ H H' B3 v p) vs ps := Paired.mapW t fun i w q g1 g2 hq => k3 hq fun b ea eb m m' ep eq => by
              subst eb eq
              cases ea
              exact (List.nodup_cons.mp hnd).1 (newsA_mem g1 g2)
            obtain ⟨B2, c2, s2, a2, o2, n2⟩ := args_ok c3 ⟨t3, (List.nodup_cons.mp hnd).2⟩ h2
            exact ⟨B2, c2, s3.trans s2, .cons (r3.mono s2) a2, o2, n2⟩
      | slot i =>
        have nd2 : (newsA vs ps).Nodup := by cases v <;> exact hnd
        unfold toArgs at e
        split at e
        · rename_i f m as2 is2 hi h2
          split at e
          · cases e
          · cases e
            obtain ⟨B2, c2, s2, a2, o2, n2⟩ := args_ok c ⟨t, nd2⟩ h2
            obtain ⟨a, o, pa, x1, x2, x3⟩ := c2.re.own hi
            cases Option.some.inj (Option.some.inj (show some (some v) = some (some (V.ref a)) from r.symm.trans pa))
            exact ⟨B2, c2, s2, .cons ⟨a, o, rfl, x1, x2, x3⟩ a2, .cons ⟨pa, _, _, hi⟩ o2, List.nodup_cons.mpr ⟨by assumption, n2⟩⟩
        · rename_i d as2 is2 hi h2
          cases e
          obtain ⟨B2, c2, s2, a2, o2, n2⟩ := args_ok c ⟨t, nd2⟩ h2
          obtain ⟨w, pw, rw⟩ := c2.re.dat hi
          cases Option.some.inj (Option.some.inj (show some (some v) = some (some w) from r.symm.trans pw))
          exact ⟨B2, c2, s2, .cons rw a2, by cases v <;> exact o2, n2⟩
        · cases e
theorem paired_mem {α β : Type} {F : α → β → Prop} : ∀ {l : List α} {l2 : List β}, Paired F l l2 → ∀ a ∈ l, ∃ b ∈ l2, F a b
  | _, _, .nil, a, h => by cases h
  | _, _, .cons r t, a, h => by
    rcases List.mem_cons.mp h with rfl | h
    · exact ⟨_, List.mem_cons_self, r⟩
    · obtain ⟨b, h1, h2⟩ := paired_mem t a h
      exact ⟨b, List.mem_cons_of_mem _ h1, h2⟩
theorem paired_at {α β : Type} {F : α → β → Prop} : ∀ {l : List α} {l2 : List β}, Paired F l l2 → ∀ {i : Nat} {b : β}, l2[i]? = some b → ∃ a, l[i]? = some a ∧ F a b
  | _, _, .nil, i, b, h => by simp at h
  | _, _, .cons r t, 0, b, h => by simp at h; subst h; exact ⟨_, rfl, r⟩
  | _, _, .cons r t, i + 1, b, h => by
    obtain ⟨a, h1, h2⟩ := paired_at t (i := i) (by simpa using h)
    exact ⟨a, by simpa using h1, h2⟩
theorem paired_at1 {α β : Type} {F : α → β → Prop} : ∀ {l : List α} {l2 : List β}, Paired F l l2 → ∀ {i : Nat} {a : α}, l[i]? = some a → ∃ b, l2[i]? = some b ∧ F a b
  | _, _, .nil, i, b, h => by simp at h
  | _, _, .cons r t, 0, b, h => by simp at h; subst h; exact ⟨_, rfl, r⟩
  | _, _, .cons r t, i + 1, b, h => by
    obtain ⟨a, h1, h2⟩ := paired_at1 t (i := i) (by simpa using h)
    exact ⟨a, by simpa using h1, h2⟩
theorem apart_nd (R : RE K σ H B env) : ∀ {fs : List Addr} {is : List Nat}, Paired (fun (a : Addr) (i : Nat) => At σ i a ∧ ∃ fz m, env[i]? = some (Slot.own fz m)) fs is → is.Nodup → fs.Nodup
  | _, _, .nil, _ => List.nodup_nil
  | _, _, .cons r t, h => by
    obtain ⟨h1, h2⟩ := List.nodup_cons.mp h
    refine List.nodup_cons.mpr ⟨fun z => ?_, apart_nd R t h2⟩
    obtain ⟨j, hj, pj, f, m, ej⟩ := paired_mem t _ z
    obtain ⟨pi, f', m', ei⟩ := r
    exact h1 (R.apart ei ej rfl rfl pi pj ▸ hj)
/-- what is written back -/
theorem putBack_at : ∀ {is : List Nat} {ms : List MO} {env e2 : En}, putBack is ms env = some e2 → is.Nodup → e2.length = env.length ∧ is.length = ms.length ∧ ∀ {j : Nat} {s : Slot}, e2[j]? = some s →
    (j ∉ is ∧ env[j]? = some s) ∨ ∃ (k : Nat) (m : MO) (f : Bool) (m0 : MO), is[k]? = some j ∧ ms[k]? = some m ∧ s = .own f m ∧ env[j]? = some (.own f m0)
  | [], [], env, e2, h, _ => by cases h; exact ⟨rfl, rfl, fun h => .inl ⟨by simp, h⟩⟩
  | [], _ :: _, _, _, h, _ => by cases h
  | _ :: _, [], _, _, h, _ => by cases h
  | i :: is, m :: ms, env, e2, h, nd => by
    unfold putBack at h
    obtain ⟨n1, n2⟩ := List.nodup_cons.mp nd
    split at h
    · rename_i f m0 hi
      obtain ⟨l1, l2, k⟩ := putBack_at h n2
      refine ⟨by rw [l1, List.length_set], by simp [l2], fun {j s} hs => ?_⟩
      rcases k hs with ⟨h1, h2⟩ | ⟨q, m', f', m1, h1, h2, h3, h4⟩
      · rcases set_get h2 with ⟨rfl, rfl⟩ | ⟨ne, h2⟩
        · exact .inr ⟨0, m, f, m0, rfl, rfl, rfl, hi⟩
        · exact .inl ⟨by simp [ne, h1], h2⟩
      · rcases set_get h4 with ⟨rfl, e⟩ | ⟨ne, h4⟩
        · exact absurd (List.mem_of_getElem? h1) n1
        · exact .inr ⟨q + 1, m', f', m1, by simpa using h1, by simpa using h2, h3, h4⟩
    · cases h
theorem call_back {fs : List Addr} {is : List Nat} {ms : List MO} {e2 : En} (R : RE K σ H B env) (hf : Paired (fun (a : Addr) (i : Nat) => At σ i a ∧ ∃ fz m, env[i]? = some (Slot.own fz m)) fs is) (nd : is.Nodup)
    (L : Lft fs H B H' B') (ho : Paired (OutOk K H' B') fs ms) (hp : putBack is ms env = some e2) : Cm K σ H B env H' B' e2 := by
  obtain ⟨l1, l2, kp⟩ := putBack_at hp nd
  have fsown : ∀ a ∈ fs, Own σ env a := fun a ha => by
    obtain ⟨i, _, pi, f, m, e⟩ := paired_mem hf a ha
    exact ⟨i, f, m, e, pi⟩
  have notfs : ∀ {j : Nat} {a : Addr} {f : Bool} {m : MO}, env[j]? = some (Slot.own f m) → At σ j a → j ∉ is → a ∉ fs := fun {j a f m} e pa nj ha => by
    obtain ⟨i, hi, pi, f', m', e'⟩ := paired_mem hf a ha
    exact nj (R.apart e e' rfl rfl pa pi ▸ hi)
  have nb : ∀ {a : Addr} {o : HO}, H a = some o → B a = none → B' a = none := fun {a o} h b => by
    cases q : B' a with
    | none => rfl
    | some u =>
      rcases L.fre q with ⟨w, x⟩ | x
      · rw [b] at x; cases x
      · rw [h] at x; cases x
  refine ⟨R, ⟨L.bb, L.th, fun h n => L.fr h fun z => n (fsown _ z), fun h => ?_, fun {j f m} h => ?_, fun {j f m} => ⟨fun h => ?_, fun h => ?_⟩⟩, ⟨L.bh, by rw [l1]; exact R.len, fun {j d} h => ?_, fun {j f m} h => ?_, fun {j f m} h => ?_, fun {i j s t p} h1 h2 m1 m2 x1 x2 => ?_⟩⟩
  · rcases L.fre h with x | x
    · exact .inl x
    · exact .inr (.inl x)
  · rcases kp h with ⟨_, h⟩ | ⟨k, m', f', m0, _, _, e, h⟩
    · exact ⟨_, h⟩
    · cases e; exact ⟨_, h⟩
  · rcases kp h with ⟨_, h⟩ | ⟨k, m', f', m0, _, _, e, _⟩
    · exact h
    · cases e
  · cases hs : e2[j]? with
    | none =>
      have lt : j < env.length := by
        rcases Nat.lt_or_ge j env.length with z | z
        · exact z
        · rw [List.getElem?_eq_none z] at h; cases h
      rw [← l1] at lt
      rw [List.getElem?_eq_getElem lt] at hs
      cases hs
    | some s =>
      rcases kp hs with ⟨_, h'⟩ | ⟨k, m', f', m0, _, _, e, h'⟩
      · rw [h] at h'; cases h'; rfl
      · rw [h] at h'; cases h'
  · rcases kp h with ⟨_, h⟩ | ⟨k, m', f', m0, _, _, e, h⟩
    · obtain ⟨v, x, r⟩ := R.dat h
      exact ⟨v, x, r.mono L.bb⟩
    · cases e
  · rcases kp h with ⟨nj, h⟩ | ⟨k, m', f', m0, h1, h2, e, h⟩
    · obtain ⟨p, o, pa, x, y, z⟩ := R.own h
      exact ⟨p, o, pa, nb y x, L.fr y (notfs h pa nj), z.mono L.bb⟩
    · cases e
      obtain ⟨a, ha, pa, _⟩ := paired_at hf h1
      obtain ⟨m2, hm, nb2, o, ho2, mo⟩ := paired_at1 ho ha
      rw [h2] at hm
      cases hm
      exact ⟨a, o, pa, nb2, ho2, mo⟩
  · rcases kp h with ⟨nj, h⟩ | ⟨k, m', f', m0, _, _, e, h⟩
    · obtain ⟨p, o, pa, x, y, z⟩ := R.lck h
      have nfs : p ∉ fs := fun ha => by
        obtain ⟨i, hi, pi, f', m', e'⟩ := paired_mem hf p ha
        exact nj (R.apart h e' rfl rfl pa pi ▸ hi)
      refine ⟨p, o, pa, ?_, y.mono fun u hu => L.fr hu nfs, z.mono L.bb⟩
      rcases y.rd with y | ⟨u, y⟩
      · exact nb y x
      · exact nb y x
    · cases e
  · have o1 : ∃ s0, env[i]? = some s0 ∧ s0.mut = true := by
      rcases kp h1 with ⟨_, h⟩ | ⟨k, m', f', m0, _, _, e, h⟩
      · exact ⟨_, h, m1⟩
      · exact ⟨_, h, rfl⟩
    have o2 : ∃ s0, env[j]? = some s0 ∧ s0.mut = true := by
      rcases kp h2 with ⟨_, h⟩ | ⟨k, m', f', m0, _, _, e, h⟩
      · exact ⟨_, h, m2⟩
      · exact ⟨_, h, rfl⟩
    obtain ⟨_, o1, w1⟩ := o1
    obtain ⟨_, o2, w2⟩ := o2
    exact R.apart o1 o2 w1 w2 x1 x2
end
section
variable [KwTab] {nms : List Str} {X : Cx} {Φ : Nat → Fn} {k : Nat} {pos p0 : Pos} {x : Str} {i : Nat}
/-- what a call of a def asks, from the evaluator -/
theorem call_sp {σ : L2.St} {H B H' B' : Hp} {env env' : En} {vs : List V} {ps : List P} {as : List Arg} {is : List Nat} {r : Ret} {ms : List MO} {e2 : En} {Q : VK} (c : Cm X.K σ H B env H' B' env') (hr : RpPA X.K σ H H' B' vs ps)
    (h1 : toArgs ps env' = some (as, is)) (h2 : Φ i as = some (r, ms)) (h3 : putBack is ms env' = some e2) (k : ∀ v H2 B2, Cm X.K σ H B env H2 B2 e2 → RpP X.K σ H H2 B2 v r.p → Q v H2) : spF X.K (Φ i) vs H' Q := by
  obtain ⟨B2, c2, s2, a2, o2, n2⟩ := args_ok c hr h1
  refine ⟨B2, as, r, ms, c2.re.sub, a2, apart_nd c2.re o2 n2, h2, fun v H3 B3 L rt ho => ?_⟩
  have c3 := c2.trans (call_back c2.re o2 n2 L ho h3)
  refine k v H3 B3 c3 ?_
  cases r with
  | val d => exact rt
  | new m =>
    obtain ⟨a, o, e, n, x1, x2, x3⟩ := rt
    exact ⟨a, o, e, c.st.th n, x1, x2, x3⟩
theorem ev_call {es : List Expr} {ees : E} {a : Expr} (g : GX nms Φ X k) (hx : nms[i]? = some x) (hg : Gl X x) (ha : PA X (a :: es) (tA X.K Φ ees)) (hdb : (x == ("__debug__" : Str)) = false)
    (st : starEach (a :: es) X.env = (false, eval a X.env) :: starEach es X.env) (hpl : (backTo pos (starEach es X.env)).any (·.1) = false) : PE X (.Call (.Name x p0) (a :: es) [] pos) (tE X.K Φ (.call i ees)) := by
  refine ⟨fun pins s σ H Q I h => ?_⟩
  obtain ⟨B, env, p, env', R, h, kk⟩ := h
  unfold evE at h
  split at h
  · rename_i ps e1 h1
    split at h
    · rename_i as is h2
      split at h
      · rename_i r ms h3
        split at h
        · rename_i e2 h4
          cases h
          obtain ⟨f, fd, pars, hm, hk, hb, G⟩ := g.fns i x as _ hx h3
          refine wpAny_Call_Name_kw (ld_glob I hg hm ?_ hdb)
          refine PySem.W.callWith_K (h₀ := X.base) I.ok.mod.kin hk (thn (ha.run pos pins s σ H _ I ⟨B, env, ps, e1, R, h1, fun vs H1 B1 c1 r1 => ?Z⟩) fun us s1 ⟨vs, H1, I1, r1, q1⟩ => ⟨I1.kIn, run_g G g.room g.gd hb.1 I1 r1 q1⟩) st hpl
          exact call_sp c1 r1 h2 h3 h4 kk
        · cases h
      · cases h
    · cases h
  · cases h
theorem ev_call0 {ees : E} (g : GX nms Φ X k) (hx : nms[i]? = some x) (hg : Gl X x) (hdb : (x == ("__debug__" : Str)) = false) : PE X (.Call (.Name x p0) [] [] pos) (tE X.K Φ (.call i .anil)) := by
  refine ⟨fun pins s σ H Q I h => ?_⟩
  obtain ⟨B, env, p, env', R, h, kk⟩ := h
  unfold evE at h
  split at h
  · rename_i ps e1 h1
    split at h
    · rename_i as is h2
      split at h
      · rename_i r ms h3
        split at h
        · rename_i e2 h4
          cases h
          cases h1
          obtain ⟨f, fd, pars, hm, hk, hb, G⟩ := g.fns i x as _ hx h3
          refine wpAny_Call_Name_kw (ld_glob I hg hm ?_ hdb)
          exact PySem.W.callWith_K0 I.kIn hk (run_g (us := []) G g.room g.gd hb.1 I .nil (call_sp (Cm.refl R) RpPA.nil h2 h3 h4 kk))
        · cases h
      · cases h
    · cases h
  · cases h
theorem permL_pair {α β : Type} {F : α → β → Prop} : ∀ {pm : List Nat} {l : List α} {m : List β}, Paired F l m → Paired F (permL pm l) (permL pm m)
  | [], _, _, _ => .nil
  | i :: pm, l, m, h => by
    have ih := permL_pair (pm := pm) h
    unfold permL at ih ⊢
    rw [List.filterMap_cons, List.filterMap_cons]
    have hl := paired_len h
    cases e : m[i]? with
    | none =>
      have : l[i]? = none := List.getElem?_eq_none (by rw [hl]; exact List.getElem?_eq_none_iff.mp e)
      rw [this]
      exact ih
    | some q =>
      obtain ⟨v, hv, r⟩ := paired_at h e
      rw [hv]
      exact .cons r ih
theorem vals_paired : ∀ {vs : List V} {us : List Value}, Vals vs us → Paired (fun v u => RelV v u) vs us
  | _, _, .nil => .nil
  | _, _, .cons r t => .cons r (vals_paired t)
theorem paired_vals : ∀ {vs : List V} {us : List Value}, Paired (fun v u => RelV v u) vs us → Vals vs us
  | _, _, .nil => .nil
  | _, _, .cons r t => .cons r (paired_vals t)
theorem toArgs_dat : ∀ {ps : List P} {env : En} {as : List Arg}, toArgs ps env = some (as, []) → ∀ q ∈ as, ∃ d, q = .dat d
  | [], env, as, h => by cases h; intro q hq; cases hq
  | p :: ps, env, as, h => by
    cases p with
    | its _ => cases h
    | val d =>
      unfold toArgs at h
      cases h2 : toArgs ps env with
      | none => rw [h2] at h; cases h
      | some z =>
        obtain ⟨as2, is2⟩ := z
        rw [h2] at h
        cases h
        intro q hq
        rcases List.mem_cons.mp hq with rfl | hq
        · exact ⟨_, rfl⟩
        · exact toArgs_dat h2 q hq
    | new m =>
      cases m with
      | dK _ => cases h
      | dT _ => cases h
      | lst ds =>
        unfold toArgs at h
        cases h2 : toArgs ps env with
        | none => rw [h2] at h; cases h
        | some z =>
          obtain ⟨as2, is2⟩ := z
          rw [h2] at h
          cases h
          intro q hq
          rcases List.mem_cons.mp hq with rfl | hq
          · exact ⟨_, rfl⟩
          · exact toArgs_dat h2 q hq
    | slot i =>
      unfold toArgs at h
      split at h
      · split at h <;> cases h
      · rename_i d as2 is2 hi h2
        cases h
        intro q hq
        rcases List.mem_cons.mp hq with rfl | hq
        · exact ⟨_, rfl⟩
        · exact toArgs_dat h2 q hq
      · cases h
theorem ownA_dat : ∀ {vs : List V} {as : List Arg}, (∀ q ∈ as, ∃ d, q = .dat d) → ownA vs as = []
  | [], _, _ => rfl
  | v :: vs, [], _ => by cases v <;> rfl
  | v :: vs, q :: as, h => by
    obtain ⟨d, rfl⟩ := h _ List.mem_cons_self
    have ih := ownA_dat (vs := vs) (as := as) fun q hq => h q (List.mem_cons_of_mem _ hq)
    cases v <;> exact ih
theorem permL_mem {α : Type} {pm : List Nat} {l : List α} {x : α} (h : x ∈ permL pm l) : x ∈ l := by
  obtain ⟨i, _, e⟩ := List.mem_filterMap.mp h
  exact List.mem_of_getElem? e
/-- f(k = e, ..) -/
theorem ev_callk {kws : List Keyword} {ks : List Str} {pm : List Nat} {ees : E} (g : GX nms Φ X k) (hx : nms[i]? = some x) (hg : Gl X x) (ha : PK X kws (tA X.K Φ ees)) (hdb : (x == ("__debug__" : Str)) = false)
    (ht : (ks, pm) ∈ KwTab.tab x) (hall : (backToKw pos (keywordEach kws X.env)).all (·.1.isSome) = true) (hks : (backToKw pos (keywordEach kws X.env)).filterMap (·.1) = ks) (hlen : ∀ {σ H Q}, tA X.K Φ ees σ H Q → tA X.K Φ ees σ H fun vs H' => vs.length = ks.length ∧ Q vs H')
    (hpl : ((backTo pos (starEach [] X.env)).any (·.1) || (backToKw pos (keywordEach kws X.env)).any (·.1.isNone)) = false) : PE X (.Call (.Name x p0) [] kws pos) (tE X.K Φ (.callk i pm ees)) := by
  refine ⟨fun pins s σ H Q I h => ?_⟩
  obtain ⟨B, env, p, env', R, h, kk⟩ := h
  unfold evE at h
  split at h
  · rename_i ps e1 h1
    split at h
    · rename_i r h2
      cases h
      unfold callK at h2
      split at h2
      · rename_i as is h3
        split at h2
        · split at h2
          · rename_i r' ms h4
            split at h2
            · cases h2
              obtain ⟨f, fd, pars, hm, hk, hb, G⟩ := g.fns i x _ _ hx h4
              refine wpAny_Call_Name_kw (ld_glob I hg hm ?_ hdb)
              refine PySem.W.callWith_KW0 (h₀ := X.base) I.ok.mod.kin hk hall (thn (ha.run pos pins s σ H (fun vs H1 => vs.length = ks.length ∧ spF X.K (Φ i) (permL pm vs) H1 Q) I (hlen (Q := fun vs H1 => spF X.K (Φ i) (permL pm vs) H1 Q) ⟨B, env, ps, env', R, h1, fun vs H1 B1 c1 r1 => ?Z⟩)) fun us s1 ⟨vs, H1, I1, r1, l1, q1⟩ => ⟨I1.kIn, ?_⟩) hpl
              case Z =>
                show spF X.K (Φ i) (permL pm vs) H1 Q
                obtain ⟨B2, c2, s2, a2, o2, n2⟩ := args_ok c1 r1 h3
                have hd := toArgs_dat h3
                have own0 : ownA (permL pm vs) (permL pm as) = [] := ownA_dat fun q hq => hd q (permL_mem hq)
                have own1 : ownA vs as = [] := ownA_dat hd
                refine ⟨B2, permL pm as, r, [], c2.re.sub, permL_pair a2, by rw [own0]; exact List.nodup_nil, h4, fun v H3 B3 L rt ho => ?_⟩
                rw [own0] at L
                have c3 := c2.trans (call_back (fs := []) (is := []) (ms := []) (e2 := env') c2.re .nil List.nodup_nil L .nil rfl)
                refine kk v H3 B3 c3 ?_
                cases r with
                | val d => exact rt
                | new m =>
                  obtain ⟨a, o, e, n, x1, x2, x3⟩ := rt
                  exact ⟨a, o, e, c1.st.th n, x1, x2, x3⟩
              rw [hks]
              have q1 : spF X.K (Φ i) (permL pm vs) H1 Q := q1
              have b0 := hb.2 _ _ ht s1 us I1.kIn (r1.length.symm.trans l1)
              refine wpAny_call (codeAny_mono (G.run X.A X.stack s1 H1 ⟨[], ks.zip us⟩ (permL pm us) (permL pm vs) Q g.room g.gd I1.env0 b0 (paired_vals (permL_pair (vals_paired r1))) q1) fun z s' hz => ?_)
              cases z with
              | error e => exact False.elim hz
              | ok fl => cases fl with
                | ret u => exact I1.after hz
                | next => exact False.elim hz
                | brk => exact False.elim hz
                | cont => exact False.elim hz
            · cases h2
          · cases h2
        · cases h2
      · cases h2
    · cases h
  · cases h
end
end Mi

/-! Mi8: calls of built-ins, methods. -/
namespace Mi
open PySem PySem.Spec PyProof.Rows L2

def BI.name : BI → Str
  | .len => "len" | .sum => "sum" | .all => "all" | .any => "any" | .int => "int" | .abs => "abs" | .list => "list" | .tuple => "tuple" | .sorted => "sorted"
  | .max2 => "max" | .min2 => "min" | .max1 => "max" | .min1 => "min" | .repr => "repr" | .isi _ => "isinstance"
theorem boots (b : BI) : bootBuiltins b.name = some b.fn := by
  cases b with
  | isi t => show bootBuiltins "isinstance" = some (.builtin "isinstance"); decide +kernel
  | _ => decide +kernel
theorem bi_nz {b : BI} {ds : List D} {z : P} (h : biOp b ds = some z) : (∃ d, z = .val d) ∨ ∃ m, z = .new m := by
  unfold biOp at h
  repeat' split at h
  all_goals first | (cases h; exact .inl ⟨_, rfl⟩) | (cases h; exact .inr ⟨_, rfl⟩) | cases h

section
variable [KwTab] {nms : List Str} {X : Cx} {Φ : Nat → Fn} {k : Nat} {pos p0 : Pos} {a : Expr} {es : List Expr} {ea eb : E}
theorem bi_entails {b : BI} {ees : E} {σ : L2.St} {H : Hp} {Q : VK} (h : tE X.K Φ (.bi b ees) σ H Q) : tCB (rBi X.K b) (tA X.K Φ ees) σ H Q := by
  obtain ⟨B, env, p, env', R, h, kk⟩ := h
  unfold evE at h
  split at h
  · rename_i ps e1 h1
    split at h
    · rename_i ds h2
      split at h
      · rename_i r h3
        cases h
        exact ⟨B, env, ps, _, R, h1, fun vs H1 B1 c1 r1 => ⟨B1, ds, _, c1.re.sub, pks_ok c1.re r1.all h2, h3, ResP.of c1 kk (bi_nz h3)⟩⟩
      · cases h
    · cases h
  · cases h
theorem ev_bi (b : BI) {ees : E} (g : GX nms Φ X k) (nisi : ∀ t, b ≠ .isi t) (hg : Gl X b.name) (ha : PA X (a :: es) (tA X.K Φ ees))
    (st : starEach (a :: es) X.env = (false, eval a X.env) :: starEach es X.env) (hpl : (backTo pos (starEach es X.env)).any (·.1) = false) : PE X (.Call (.Name b.name p0) (a :: es) [] pos) (tE X.K Φ (.bi b ees)) := by
  have r := bi_ok b g.calm g.hu g.gd nisi
  have hv := boots b
  have key : PE X (.Call (.Name b.name p0) (a :: es) [] pos) (tCB (rBi X.K b) (tA X.K Φ ees)) := by
    cases b with
    | isi t => exact absurd rfl (nisi t)
    | int => exact pe_callTy r hg (g.blt _ (by decide +kernel)) hv ha (by decide) (by decide) st hpl
    | list => exact pe_callTy r hg (g.blt _ (by decide +kernel)) hv ha (by decide) (by decide) st hpl
    | tuple => exact pe_callTy r hg (g.blt _ (by decide +kernel)) hv ha (by decide) (by decide) st hpl
    | _ => exact pe_callB r hg (g.blt _ (by decide +kernel)) hv ha (by decide) (by decide) st hpl
  exact key.imp fun σ H Q h => bi_entails h

/-! ### isinstance -/
theorem kit_all (d : D) (t : String) (ht : t = "int" ∨ t = "bool" ∨ t = "str" ∨ t = "tuple" ∨ t = "list") : kitB (kindOf d) t = some (d.isA t) := by
  have kb : ∀ k ∈ ["NoneType", "bool", "int", "str", "tuple", "list"], ∀ t ∈ ["int", "bool", "str", "tuple", "list"], kitB k t = some (k == t || (k == "bool" && t == "int")) := by decide +kernel
  have ht2 : t ∈ ["int", "bool", "str", "tuple", "list"] := by simp [ht]
  have hk : kindOf d ∈ ["NoneType", "bool", "int", "str", "tuple", "list"] := by cases d <;> simp [kindOf]
  rw [kb _ hk _ ht2]
  cases d <;> (rcases ht with rfl | rfl | rfl | rfl | rfl <;> simp [kindOf, D.isA])
theorem tyx {K : PySem.W.Frag} {B H : Hp} {v : V} {d : D} (h : RpS K B H v d) (sb : Sub B H) : TyX K H v (.type (kindOf d)) := by
  cases d with
  | non => cases h.non; exact .base .non
  | bl b => cases h.bl; exact .base (.bl b)
  | int i => cases h.int; exact .base (.int i)
  | str x => cases h.str; exact .base (.str x)
  | tup ds =>
    rcases h with h | ⟨_, _, _, _, w, _⟩
    · cases h with
      | tup _ h1 _ => exact .fTuple (sb _ _ h1)
    · cases w
  | wtup ds =>
    rcases h with h | ⟨_, _, _, _, w, _⟩
    · cases h with
      | wtup h1 _ => exact .base (.tup (sb _ _ h1))
    · cases w
  | lst ds => obtain ⟨a, xs, rfl, h1, _⟩ := h.lst sb; exact .base (.lst h1)
  | scr ns =>
    obtain ⟨a, rfl, h1⟩ := h.scr sb
    rcases h1 with (h1 | ⟨o, h1⟩) | ⟨o, its, n, h1, h2, _⟩
    · exact .base (.lst h1)
    · exact .base (.frz h1)
    · exact .kList h1 h2
theorem ev_isi (t : String) {pt : Pos} (g : GX nms Φ X k) (hg : Gl X "isinstance") (hgt : Gl X (Str.ofString t)) (hmt : X.mg (Str.ofString t) = none) (hvt : bootBuiltins (Str.ofString t) = some (.type t)) (hnt : Str.ofString t ≠ "__name__") (hdt : (Str.ofString t == ("__debug__" : Str)) = false)
    (ha : PE X a (tE X.K Φ ea)) (st : starEach [a, .Name (Str.ofString t) pt] X.env = (false, eval a X.env) :: starEach [.Name (Str.ofString t) pt] X.env) :
    PE X (.Call (.Name "isinstance" p0) [a, .Name (Str.ofString t) pt] [] pos) (tE X.K Φ (.bi (.isi t) (.acons ea .anil))) := by
  have h2 : PE X (.Name (Str.ofString t) pt) (tC (.ty t)) := pe_bltn hgt hmt hvt rfl hnt hdt
  refine (pe_callB (pos := pos) (p := p0) call_isi hg (g.blt _ (by decide +kernel)) (boots (.isi t)) (pa_cons ha (pa_cons h2 pa_nil rfl) st) (by decide) (by decide) st rfl).imp fun σ H Q h => ?_
  obtain ⟨B, env, p, env', R, h, kk⟩ := h
  unfold evE at h
  split at h
  · rename_i ps e1 h1
    unfold evA at h1
    split at h1
    · rename_i p1 e2 h3
      unfold evA at h1
      simp only at h1
      cases h1
      split at h
      · rename_i ds h4
        split at h
        · rename_i r h5
          cases h
          refine ⟨B, env, p1, _, R, h3, fun v H1 B1 c1 r1 => ?_⟩
          cases h6 : pk p1 env' with
          | none => simp [pks, h6] at h4
          | some d =>
            simp [pks, h6] at h4
            subst h4
            have rs := pk_ok c1.re r1 h6
            simp only [biOp] at h5
            split at h5
            · rename_i ht
              cases h5
              exact ⟨v, .ty t, _, _, d.isA t, rfl, .ty t, tyx rs c1.re.sub, kit_ty (kit_all d t ht), kk _ H1 B1 c1 (.bl _)⟩
            · cases h5
        · cases h
      · cases h
    · cases h1
  · cases h

/-! ### sum of lists -/
def rSumL (K : PySem.W.Frag) : List V → Hp → VK → Prop := fun vs H Q => ∃ B l st xs ds rows, vs = [.ref l, .ref st] ∧ l ≠ st ∧ H l = some (.lst xs) ∧ H st = some (.lst []) ∧ Sub B H ∧ RpA K B xs ds ∧ lstsOf ds = some rows ∧ rows.flatten.length ≤ 1000000 ∧
  ∀ q ws, (q = st ∨ H q = none) → RpA K B ws rows.flatten → Q (.ref q) (upd H q (.lst ws))
theorem lsts_rows {K : PySem.W.Frag} {B H : Hp} {pins : List (Addr × Obj)} {σ : L2.St} {s : Shared} (I : Inv X pins σ H s) (sb : Sub B H) : ∀ {ds : List D} {rows : List (List D)} {xs : List V}, lstsOf ds = some rows → RpA K B xs ds →
    ∃ (as : List Addr) (vss : List (List V)) (uss : List (List Value)), xs = as.map V.ref ∧ Paired (fun (a : Addr) (us : List Value) => Holds s.heap a us) as uss ∧ Vals vss.flatten uss.flatten ∧ RpA K B vss.flatten rows.flatten
  | [], rows, xs, h, r => by cases h; cases r; exact ⟨[], [], [], rfl, .nil, .nil, .nil⟩
  | d :: ds, rows, xs, h, r => by
    unfold lstsOf at h
    split at h
    · rename_i i ns h1 h2
      cases h
      cases r with
      | cons r t =>
        obtain ⟨as, vss, uss, rfl, h3, h4, h5⟩ := lsts_rows I sb h2 t
        cases d <;> simp only [D.lstOf?] at h1 <;> cases h1
        cases r with
        | lst ha ra =>
          obtain ⟨hz, its, n, rv, hl, e⟩ := I.lstM (sb _ _ ha)
          exact ⟨_ :: as, _ :: vss, its :: uss, rfl, .cons ⟨n, e⟩ h3, rv.append h4, ra.app h5⟩
    · cases h
theorem vals_refs : ∀ {as : List Addr} {us : List Value}, Vals (as.map V.ref) us → us = as.map Value.ref
  | [], _, .nil => rfl
  | a :: as, _, .cons r t => by rw [vals_refs t]; cases r; rfl
theorem sumL_ok (hc : X.calm = true) : CallR X (.builtin "sum") (rSumL X.K) := by
  intro pins s σ H xs us Q I r h
  obtain ⟨B, l, st, ys, ds, rows, rfl, hne, hl, hst, sb, ra, hr, hz, q⟩ := h
  obtain ⟨u, w', rfl, ru, rw'⟩ := vals2 r
  cases ru
  cases rw'
  obtain ⟨as, vss, uss, rfl, h3, h4, h5⟩ := lsts_rows I sb hr ra
  obtain ⟨z1, its, n, rv, hl1, e1⟩ := I.lstM hl
  obtain ⟨z2, its2, c, rv2, hl2, e2⟩ := I.lstM hst
  cases rv2
  cases vals_refs rv
  have hlen : uss.flatten.length ≤ sizeLine := by
    rw [← h4.length, h5.length]
    exact Nat.le_trans hz (by decide)
  refine call_sum_lists (I.ok.hd hc) hne e1 e2 h3 hlen fun h' tk q' hk hh hq => ?_
  rcases hq with rfl | hq
  · obtain ⟨c', hh⟩ := hh
    have e3 := (hk _ _ e2).symm.trans hh
    have e4 : uss.flatten = [] := by
      have := congrArg (fun o => match o with | some (o : Obj) => (match o.data with | .seq xs _ => xs.toList | _ => []) | none => []) e3
      simpa using this.symm
    rw [e4] at h4
    have e5 : vss.flatten = [] := by
      cases e : vss.flatten with
      | nil => rfl
      | cons x y => rw [e] at h4; cases h4
    rw [e5] at h5
    have eh : upd H q' (.lst []) = H := by
      funext b
      by_cases hb : b = q'
      · subst hb; rw [upd_same, hst]
      · rw [upd_ne hb]
    have fin := q q' [] (.inl rfl) h5
    rw [eh] at fin
    exact ⟨.ref q', H, I.kept hk, rfl, fin⟩
  · have nq : H q' = none := I.hok.fresh hq
    obtain ⟨c', hh⟩ := hh
    exact ⟨.ref q', _, I.laid (t' := tk) (o := .lst vss.flatten) hk hq ⟨by rw [h4.length]; exact hlen, uss.flatten, c', h4, hh⟩, rfl, q q' _ (.inr nq) h5⟩
theorem ev_sumL {p2 : Pos} (g : GX nms Φ X k) (hg : Gl X "sum") (ha : PE X a (tE X.K Φ ea)) (st : starEach [a, .List [] p2] X.env = (false, eval a X.env) :: starEach [.List [] p2] X.env) :
    PE X (.Call (.Name "sum" p0) [a, .List [] p2] [] pos) (tE X.K Φ (.sumL ea)) := by
  refine (pe_callB (pos := pos) (p := p0) (sumL_ok g.calm) hg (g.blt _ (by decide +kernel)) (boots .sum) (pa_cons ha (pa_cons (pe_lst pa_nil) pa_nil rfl) st) (by decide) (by decide) st rfl).imp fun σ H Q h => ?_
  obtain ⟨B, env, p, env', R, h, kk⟩ := h
  unfold evE at h
  split at h
  · rename_i p1 e1 h1
    split at h
    · rename_i ds hd
      split at h
      · rename_i rows hr
        split at h
        · rename_i hz
          cases h
          refine ⟨B, env, p1, _, R, h1, fun v H1 B1 c1 r1 => ⟨Nat.zero_le _, fun st nst => ?_⟩⟩
          obtain ⟨l, xs, rfl, hl, ra⟩ := (pk_ok c1.re r1 hd).lst c1.re.sub
          have nl : l ≠ st := ne_of_none hl nst
          refine ⟨B1, l, st, xs, ds, rows, rfl, nl, by rw [upd_ne nl]; exact hl, upd_same, c1.re.sub.trans (Sub.new nst), ra, hr, hz, fun q ws hq rw => ?_⟩
          have nq : H1 q = none := by
            rcases hq with rfl | hq
            · exact nst
            · exact (Sub.new nst).none hq
          have c2 := c1.grow (Gr.newH c1.re.sub nst (o := .lst []))
          have g2 : Gr H1 B1 (upd (upd H1 st (.lst [])) q (.lst ws)) B1 := by
            rcases hq with rfl | hq
            · rw [upd_upd]; exact Gr.newH c1.re.sub nst
            · exact (Gr.newH c1.re.sub nst).trans (Gr.newH (c1.re.sub.trans (Sub.new nst)) hq)
          exact kk _ _ B1 (c1.grow g2) ⟨q, _, rfl, c1.st.th nq, upd_same, c1.re.sub.none nq, ws, rfl, rw⟩
        · cases h
      · cases h
    · cases h
  · cases h


/-! ### list(range(..)) -/
theorem rgV_rp {K : PySem.W.Frag} {B : Hp} (lo hi : Int) : RpA K B (rgV lo hi) (rangeD lo (hi - lo).toNat) := by
  unfold rgV rangeD
  generalize List.range (hi - lo).toNat = l
  induction l with
  | nil => exact .nil
  | cons n l ih => exact .cons (.int _) ih
def rngB : List D → Option (Int × Int)
  | [.int n] => if -(2 ^ 40) ≤ n ∧ n ≤ 2 ^ 40 then some (0, n) else none
  | [.int a, .int b] => if -(2 ^ 40) ≤ a ∧ a ≤ 2 ^ 40 ∧ -(2 ^ 40) ≤ b ∧ b ≤ 2 ^ 40 then some (a, b) else none
  | _ => none
theorem lrng_go {σ : L2.St} {H H1 B B1 : Hp} {env e1 : En} {lo hi : Int} {xs : List D} {Q : VK} (c1 : Cm X.K σ H B env H1 B1 e1) (bd : -(2 ^ 40) ≤ lo ∧ lo ≤ 2 ^ 40 ∧ -(2 ^ 40) ≤ hi ∧ hi ≤ 2 ^ 40) (hx : xs = rangeD lo (hi - lo).toNat) (hl : xs.length ≤ lim)
    (kk : ∀ v H' B', Cm X.K σ H B env H' B' e1 → RpP X.K σ H H' B' v (.new (.lst xs)) → Q v H') : RgOk lo hi ∧ ∀ q, H1 q = none → Q (.ref q) (upd H1 q (.lst (rgV lo hi))) := by
  subst hx
  have hn : (hi - lo).toNat ≤ lim := by simpa [rangeD] using hl
  refine ⟨⟨by omega, by omega, by omega, by omega, Nat.le_trans hn (by decide)⟩, fun q nq => ?_⟩
  exact kk _ _ B1 (c1.grow (Gr.newH c1.re.sub nq)) ⟨q, _, rfl, c1.st.th nq, upd_same, c1.re.sub.none nq, _, rfl, rgV_rp lo hi⟩
theorem int_of {K : PySem.W.Frag} {B H : Hp} {v : V} {d : D} {i : Int} (h : RpS K B H v d) (e : d = .int i) : v = .int i := by subst e; exact h.int
theorem ev_lrng1 {p1 p2 : Pos} {e : Expr} {ee : E} (g : GX nms Φ X k) (hg : Gl X "list") (hr : Gl X "range") (he : PE X e (tE X.K Φ ee)) (n1 : starEach [e] X.env = (false, eval e X.env) :: starEach [] X.env)
    (n2 : starEach [Expr.Call (.Name "range" p1) [e] [] p2] X.env = (false, eval (Expr.Call (.Name "range" p1) [e] [] p2) X.env) :: starEach [] X.env) :
    PE X (.Call (.Name "list" p0) [.Call (.Name "range" p1) [e] [] p2] [] pos) (tE X.K Φ (.lrng (.acons ee .anil))) := by
  refine (pe_listRg g.calm hg (g.blt _ (by decide +kernel)) (prg_1 hr (g.blt _ (by decide +kernel)) he n1) n2).imp fun σ H Q h => ?_
  obtain ⟨B, env, p, env', R, h, kk⟩ := h
  unfold evE at h
  split at h
  · rename_i ps e1 h1
    unfold evA at h1
    split at h1
    · rename_i q1 e2 h3
      unfold evA at h1
      simp only at h1
      cases h1
      split at h
      · rename_i ds h4
        split at h
        · rename_i xs h5
          split at h
          · rename_i hl
            cases h
            refine ⟨B, env, q1, _, R, h3, fun v H1 B1 c1 r1 => ?_⟩
            cases h6 : pk q1 env' with
            | none => simp [pks, h6] at h4
            | some d =>
              simp [pks, h6] at h4
              subst h4
              have rs := pk_ok c1.re r1 h6
              unfold rngOf at h5
              split at h5
              · rename_i n ed
                cases ed
                split at h5
                · rename_i bd
                  cases h5
                  exact ⟨n, rs.int, lrng_go c1 ⟨by omega, by omega, bd.1, bd.2⟩ (by rw [Int.sub_zero]) hl kk⟩
                · cases h5
              · rename_i ed
                cases ed
              · cases h5
          · cases h
        · cases h
      · cases h
    · cases h1
  · cases h
theorem ev_lrng2 {p1 p2 : Pos} {e f : Expr} {ee ef : E} (g : GX nms Φ X k) (hg : Gl X "list") (hr : Gl X "range") (he : PE X e (tE X.K Φ ee)) (hf : PE X f (tE X.K Φ ef)) (n1 : starEach [e, f] X.env = (false, eval e X.env) :: starEach [f] X.env) (n3 : starEach [f] X.env = (false, eval f X.env) :: starEach [] X.env) (n4 : (backTo p2 (starEach [f] X.env)).any (·.1) = false)
    (n2 : starEach [Expr.Call (.Name "range" p1) [e, f] [] p2] X.env = (false, eval (Expr.Call (.Name "range" p1) [e, f] [] p2) X.env) :: starEach [] X.env) :
    PE X (.Call (.Name "list" p0) [.Call (.Name "range" p1) [e, f] [] p2] [] pos) (tE X.K Φ (.lrng (.acons ee (.acons ef .anil)))) := by
  refine (pe_listRg g.calm hg (g.blt _ (by decide +kernel)) (prg_2 hr (g.blt _ (by decide +kernel)) he hf n1 n3 n4) n2).imp fun σ H Q h => ?_
  obtain ⟨B, env, p, env', R, h, kk⟩ := h
  unfold evE at h
  split at h
  · rename_i ps e1 h1
    unfold evA at h1
    split at h1
    · rename_i q1 e2 h3
      unfold evA at h1
      split at h1
      · rename_i qs e3 h7
        cases h1
        split at h7
        · rename_i q2 e4 h8
          unfold evA at h7
          simp only at h7
          cases h7
          split at h
          · rename_i ds h4
            split at h
            · rename_i xs h5
              split at h
              · rename_i hl
                cases h
                refine ⟨B, env, q1, _, R, h3, fun v H1 B1 c1 r1 => ⟨B1, _, q2, _, c1.re, h8, fun w H2 B2 c2 r2 => ?_⟩⟩
                have r1' := r1.later c1.r0 c1.st c2.st
                cases h6 : pk q1 env' with
                | none => simp [pks, h6] at h4
                | some d =>
                  cases h9 : pk q2 env' with
                  | none => simp [pks, h6, h9] at h4
                  | some d2 =>
                    simp [pks, h6, h9] at h4
                    subst h4
                    have rs := pk_ok c2.re r1' h6
                    have rs2 := pk_ok c2.re r2 h9
                    unfold rngOf at h5
                    split at h5
                    · rename_i ed
                      cases ed
                    · rename_i a b ed
                      cases ed
                      split at h5
                      · rename_i bd
                        cases h5
                        exact ⟨a, b, rs.int, rs2.int, lrng_go (c1.trans c2) bd rfl hl kk⟩
                      · cases h5
                    · cases h5
              · cases h
            · cases h
          · cases h
        · cases h7
      · cases h1
    · cases h1
  · cases h

/-! ### dicts -/
theorem ev_dnewK : PE X (.Dict [] [] pos) (tE X.K Φ (.dnew false)) := pe_dnewK.imp fun σ H Q ⟨B, env, p, env', R, h, kk⟩ => by
  cases h
  exact fun q nq => kk _ _ B ((Cm.refl R).grow (Gr.newH R.sub nq)) ⟨q, _, rfl, nq, upd_same, R.sub.none nq, _, rfl, .nil⟩
theorem ev_dnewT : PE X (.Dict [] [] pos) (tE X.K Φ (.dnew true)) := pe_dnewT.imp fun σ H Q ⟨B, env, p, env', R, h, kk⟩ => by
  cases h
  exact fun q nq => kk _ _ B ((Cm.refl R).grow (Gr.newH R.sub nq)) ⟨q, _, rfl, nq, upd_same, R.sub.none nq, _, rfl, .nil⟩
theorem ev_dget {o e f : Expr} {eo ee ef : E} {apos cpos : Pos} (hu : X.A.units + 65 < cLine) (ho : PE X o (tE X.K Φ eo)) (he : PE X e (tE X.K Φ ee)) (hf : PE X f (tE X.K Φ ef)) (m : M2 X o "get" apos e f cpos) :
    PE X (.Call (.Attribute o "get" apos) [e, f] [] cpos) (tE X.K Φ (.dget eo ee ef)) :=
  (pe_dget2 (by omega) ho he hf m).imp fun σ H Q ⟨B, env, p, env', R, h, kk⟩ => by
    unfold evE at h
    split at h
    · rename_i i e1 h1
      split at h
      · rename_i hd
        split at h
        · rename_i ky e2 h2
          split at h
          · rename_i x e3 h3
            split at h
            · rename_i mo hm
              split at h
              · rename_i r hr
                cases h
                refine ⟨B, env, _, e1, R, h1, fun v H1 B1 c1 r1 => ?_⟩
                unfold dictIn at hd
                have hq : ∃ a, v = .ref a ∧ IsD H1 a := by
                  split at hd
                  · rename_i kvs hm1
                    obtain ⟨a, o1, pa, rd, w, rfl, _⟩ := c1.re.mo hm1
                    exact ⟨a, Option.some.inj (Option.some.inj (r1.symm.trans pa)), .inl ⟨_, rd⟩⟩
                  · rename_i kvs hm1
                    obtain ⟨a, o1, pa, rd, w, rfl, _⟩ := c1.re.mo hm1
                    exact ⟨a, Option.some.inj (Option.some.inj (r1.symm.trans pa)), .inr ⟨_, rd⟩⟩
                  · cases hd
                obtain ⟨a, rfl, isd⟩ := hq
                refine ⟨a, rfl, isd, B1, e1, _, _, c1.re, h2, fun y H2 B2 c2 r2 => ⟨B2, e2, _, _, c2.re, h3, fun z H3 B3 c3 r3 => ?_⟩⟩
                obtain ⟨q, o2, pa, rd, mo2⟩ := c3.re.mo hm
                have qa : q = a := by
                  have := Option.some.inj (Option.some.inj (pa.symm.trans r1))
                  cases this; rfl
                subst qa
                obtain ⟨ov, g1, n1, n2⟩ := dlook_ok c3.re.sub rd mo2 (Rp.mono c3.st.bb r2) hr
                refine ⟨ov, g1, kk _ H3 B3 ((c1.trans c2).trans c3) ?_⟩
                cases r with
                | none => rw [n1 rfl]; exact r3
                | some d =>
                  obtain ⟨w, ew, rw'⟩ := n2 d rfl
                  rw [ew]; exact rw'
              · cases h
            · cases h
          · cases h
        · cases h
      · cases h
    · cases h

/-! ### x.count(i) -/
theorem ty_lst {K : PySem.W.Frag} {B H : Hp} {v : V} {ds : List D} (h : RpS K B H v (.lst ds)) (sb : Sub B H) : tyV K "list" v H := by
  obtain ⟨a, xs, rfl, h1, _⟩ := h.lst sb
  exact .inl ⟨rfl, xs, Evl.sq_of h1⟩
end
section
variable {K : PySem.W.Frag} {σ : L2.St} {H B H' B' : Hp} {env env' : En}
/-- an own object is written -/
theorem own_write {i : Nat} {f : Bool} {m m' : MO} {a : Addr} {o' : HO} (c : Cm K σ H B env H' B' env') (e : env'[i]? = some (.own f m)) (pa : At σ i a) (ho : MOk K B' o' m') : Cm K σ H B env (upd H' a o') B' (env'.set i (.own f m')) := by
  obtain ⟨q, o1, pq, nb, hq, _⟩ := c.re.own e
  cases At.eq pa pq
  have lt : i < env'.length := by
    rcases Nat.lt_or_ge i env'.length with h | h
    · exact h
    · rw [List.getElem?_eq_none h] at e; cases e
  refine ⟨c.r0, ⟨c.st.bb, fun {x} h => ?_, fun {x u} h n => ?_, c.st.fre, fun {j fz w} h => ?_, fun {j fz w} => ?_⟩, ⟨c.re.sub.updR nb, by rw [List.length_set]; exact c.re.len, fun {j d} h => ?_, fun {j fz w} h => ?_, fun {j fz w} h => ?_, fun {j l s t p} h1 h2 m1 m2 x1 x2 => ?_⟩⟩
  · by_cases z : x = a
    · subst z; rw [upd_same] at h; cases h
    · rw [upd_ne z] at h; exact c.st.th h
  · by_cases z : x = a
    · subst z
      exact absurd (c.st.own ⟨i, f, m, e, pa⟩) n
    · rw [upd_ne z]; exact c.st.fr h n
  · rcases set_get h with ⟨rfl, e2⟩ | ⟨_, h⟩
    · cases e2; exact c.st.ow e
    · exact c.st.ow h
  · exact (set_lk (by intro f m z; rw [e] at z; cases z) (by intro f m z; cases z)).trans c.st.lk
  · rcases set_get h with ⟨_, e2⟩ | ⟨_, h⟩
    · cases e2
    · exact c.re.dat h
  · rcases set_get h with ⟨rfl, e2⟩ | ⟨ne, h⟩
    · cases e2; exact ⟨a, o', pa, nb, upd_same, ho⟩
    · obtain ⟨p2, o2, y1, y2, y3, y4⟩ := c.re.own h
      refine ⟨p2, o2, y1, y2, ?_, y4⟩
      rw [upd_ne fun z => ?_]; exact y3
      subst z
      exact ne (c.re.apart h e rfl rfl y1 pa)
  · rcases set_get h with ⟨_, e2⟩ | ⟨ne, h⟩
    · cases e2
    · obtain ⟨p2, o2, y1, y2, y3, y4⟩ := c.re.lck h
      refine ⟨p2, o2, y1, y2, y3.mono fun u hu => ?_, y4⟩
      rw [upd_ne fun z => ?_]; exact hu
      subst z
      exact ne (c.re.apart h e rfl rfl y1 pa)
  · have o1 : ∃ s0, env'[j]? = some s0 ∧ s0.mut = true := by
      rcases set_get h1 with ⟨rfl, e2⟩ | ⟨_, h⟩
      · exact ⟨_, e, rfl⟩
      · exact ⟨_, h, m1⟩
    have o2 : ∃ s0, env'[l]? = some s0 ∧ s0.mut = true := by
      rcases set_get h2 with ⟨rfl, e2⟩ | ⟨_, h⟩
      · exact ⟨_, e, rfl⟩
      · exact ⟨_, h, m2⟩
    obtain ⟨_, o1, w1⟩ := o1
    obtain ⟨_, o2, w2⟩ := o2
    exact c.re.apart o1 o2 w1 w2 x1 x2
theorem lstIn_ty {i : Nat} {v : V} (R : RE K σ H B env) (h : lstIn i env = true) (hv : σ[i]? = some (some v)) : tyV K "list" v H := by
  unfold lstIn at h
  split at h
  · rename_i ds e
    obtain ⟨a, o, pa, _, ha, xs, rfl, _⟩ := R.own e
    cases Option.some.inj (Option.some.inj (hv.symm.trans pa))
    exact .inl ⟨rfl, xs, Evl.sq_of ha⟩
  · cases h
end
end Mi

/-! MiQ: .count and .index of lists and tuples of data. -/
namespace Mi
open PySem PySem.Spec PyProof.Rows L2

/-- the type of what a method is asked of; tuples that are known but for their items -/
def tyX (K : PySem.W.Frag) (T : String) (x : V) (H : Hp) : Prop := tyV K T x H ∨ (T = "tuple" ∧ ∃ p o xs, x = .ref p ∧ H p = some (.frz o (.tup xs)) ∧ ExT o)
theorem ty_tup {K : PySem.W.Frag} {B H : Hp} {v : V} {ds : List D} (h : RpS K B H v (.tup ds)) (sb : Sub B H) : tyX K "tuple" v H := by
  rcases h with h | ⟨_, _, _, _, w, _⟩
  · cases h with
    | tup eo h1 _ => exact .inr ⟨rfl, _, _, _, rfl, sb _ _ h1, eo⟩
  · cases w
section
variable {X : Cx}
theorem tyX_is {pins : List (Addr × Obj)} {σ : L2.St} {H : Hp} {s : Shared} {T : String} {x : V} {v : Value} (I : Inv X pins σ H s) (r : RelV x v) (ty : tyX X.K T x H) :
    s.TypeIs v T ∧ ∀ a, v = .ref a → ∃ ob, s.heap.get? a = some ob ∧ ob.dict = none := by
  rcases ty with ty | ⟨rfl, p, o, xs, rfl, h, eo⟩
  · exact tyV_is I r ty
  · cases r
    have ok := I.hok p _ h
    refine ⟨⟨o, ok.1, eo.1⟩, fun a e => ?_⟩
    cases e
    exact ⟨o, ok.1, eo.2⟩
def xBM2 (K : PySem.W.Frag) (r1 r2 : V → List V → Hp → VK → Prop) (to : TE) (t : TA) : TE := fun σ H Q => to σ H fun x H1 => (tyX K "list" x H1 ∧ t σ H1 fun xs H2 => r1 x xs H2 Q) ∨ (tyX K "tuple" x H1 ∧ t σ H1 fun xs H2 => r2 x xs H2 Q)
theorem x_bm2 {o e : Expr} {es : List Expr} {to : TE} {t : TA} {name : Str} {apos cpos : Pos} {T1 T2 id1 id2 : String} {r1 r2 : V → List V → Hp → VK → Prop} (pa1 : PlainAttrs "list") (slot1 : PySem.Slot "list" name id1) (hty1 : typeOf (.builtin id1) = pure (.type "method_descriptor")) (hm1 : MtR X id1 r1)
    (pa2 : PlainAttrs "tuple") (slot2 : PySem.Slot "tuple" name id2) (hty2 : typeOf (.builtin id2) = pure (.type "method_descriptor")) (hm2 : MtR X id2 r2) (ho : PE X o to) (ha : PA X (e :: es) t)
    (hbase : attributeBase o name X.env (eval o X.env) = eval o X.env)
    (hfew : ((backTo cpos (starEach (e :: es) X.env)).all (fun x => !x.1) && (backToKw cpos (keywordEach [] X.env)).all (fun x => x.1.isSome)
      && decide ((e :: es).length + ([] : List Keyword).length + (if ([] : List Keyword).isEmpty then 0 else 1) < 30)) = true)
    (hline : (apos.endLine == cpos.line) = true) (hs : starEach (e :: es) X.env = (false, eval e X.env) :: starEach es X.env) (hplain : (backTo cpos (starEach es X.env)).any (·.1) = false) :
    PE X (.Call (.Attribute o name apos) (e :: es) [] cpos) (xBM2 X.K r1 r2 to t) := by
  refine ⟨fun pins s σ H Q I h => ?_⟩
  refine wpAny_Call_method_late hbase hfew hline rfl (thn (ho.run pins s σ H _ I h) fun v s1 ⟨x, H1, I1, rx, q1⟩ => ?_)
  rcases q1 with ⟨ty, q1⟩ | ⟨ty, q1⟩
  · obtain ⟨h1, h2⟩ := tyX_is I1 rx ty
    refine ⟨"list", id1, pa1, slot1, hty1, h1, h2, ?_⟩
    have hA := ha.run cpos pins s1 σ H1 _ I1 q1
    rw [hs] at hA ⊢
    refine Calls.callWith_builtin (by show (false || (backTo cpos (starEach es X.env)).any (·.1)) = false; rw [hplain] <;> rfl) (Calls.evalArgs_plain ?_)
    exact thn hA fun us s2 ⟨vs, H2, I2, r2, q2⟩ => hm1 pins s2 σ H2 x vs v us Q I2 rx r2 q2
  · obtain ⟨h1, h2⟩ := tyX_is I1 rx ty
    refine ⟨"tuple", id2, pa2, slot2, hty2, h1, h2, ?_⟩
    have hA := ha.run cpos pins s1 σ H1 _ I1 q1
    rw [hs] at hA ⊢
    refine Calls.callWith_builtin (by show (false || (backTo cpos (starEach es X.env)).any (·.1)) = false; rw [hplain] <;> rfl) (Calls.evalArgs_plain ?_)
    exact thn hA fun us s2 ⟨vs, H2, I2, r2, q2⟩ => hm2 pins s2 σ H2 x vs v us Q I2 rx r2 q2
def rQ (K : PySem.W.Frag) (idx tup : Bool) : V → List V → Hp → VK → Prop := fun x xs H Q => ∃ y, xs = [y] ∧ ∃ B ds d n, Sub B H ∧ RpS K B H x (if tup then .tup ds else .lst ds) ∧ RpS K B H y d ∧ qOp idx ds d = some n ∧ Q (.int n) H
def qId (idx tup : Bool) : String := match idx, tup with
  | false, false => "list.count" | false, true => "tuple.count" | true, false => "list.index" | true, true => "tuple.index"
theorem pyA_map : ∀ ds : List D, D.pyA ds = ds.map D.py
  | [] => rfl
  | d :: ds => by rw [D.pyA, pyA_map ds]; rfl
theorem mt_q (hu : X.A.units + 65 < cLine) (idx tup : Bool) : MtR X (qId idx tup) (rQ X.K idx tup) := by
  intro pins s σ H x xs v us Q I rx rxs h
  obtain ⟨y, rfl, B, ds, d, n, sb, hx, hy, hq, q⟩ := h
  obtain ⟨u, rfl, ru⟩ := rxs.one
  unfold qOp at hq
  split at hq
  · rename_i hok
    rw [Bool.and_eq_true] at hok
    obtain ⟨bs, r2⟩ := Dp.reads I d.py y u (hy.dp sb) ru
    obtain ⟨l1, l2⟩ := ok_lay 9 d hok.1
    have l3 := ok_layA 9 ds hok.2
    have rm : X.A.units + 1 + min (PyData.depthAll (D.pyA ds)) d.py.depth < cLine := by
      have := Nat.min_le_right (PyData.depthAll (D.pyA ds)) d.py.depth
      omega
    have cnt : ∀ {vs : Array Value} {as : List Addr}, ReadsAll s.heap vs.toList (D.pyA ds) as → vs.toList.map (SeqAt.readOf s.heap) = ds.map D.py := fun h4 => by
      rw [SeqAt.readsAll_map _ _ _ l3 h4, pyA_map]
    have e1 : ∀ {vs : Array Value} {as : List Addr}, ReadsAll s.heap vs.toList (D.pyA ds) as → vs.toList.countP (fun z => PyData.eqv (SeqAt.readOf s.heap z) d.py) = ds.countP fun z => PyData.eqv z.py d.py := fun {vs as} h4 => by
      have h5 := cnt h4
      have h6 : (vs.toList.map (SeqAt.readOf s.heap)).countP (fun z => PyData.eqv z d.py) = (ds.map D.py).countP (fun z => PyData.eqv z d.py) := by rw [h5]
      rw [List.countP_map, List.countP_map] at h6
      exact h6
    have e2 : ∀ {vs : Array Value} {as : List Addr}, ReadsAll s.heap vs.toList (D.pyA ds) as → ∀ (k : Nat) (hk : k < vs.size), ∃ z, ds[k]? = some z ∧ SeqAt.readOf s.heap vs[k] = z.py := fun {vs as} h4 k hk => by
      have h5 := cnt h4
      have h6 : (vs.toList.map (SeqAt.readOf s.heap))[k]? = (ds.map D.py)[k]? := by rw [h5]
      rw [List.getElem?_map, List.getElem?_map, Array.getElem?_toList, Array.getElem?_eq_getElem hk] at h6
      cases e : ds[k]? with
      | none => rw [e] at h6; cases h6
      | some z => rw [e] at h6; exact ⟨z, rfl, Option.some.inj h6⟩
    cases tup with
    | false =>
      obtain ⟨a, xs, rfl, ha, ra⟩ := hx.lst sb
      cases rx
      obtain ⟨as, r1⟩ := Dp.reads I _ _ _ ((RpS.dp hx sb)) (show RelV (.ref a) (.ref a) from rfl)
      obtain ⟨_, _, _, hlen⟩ := I.list (SqL.of (K := X.K) ha)
      cases r1 with
      | @list _ o vs n' _ _ ho hc hd h4 =>
        obtain ⟨cls, dd, data, sl⟩ := o
        simp only at hc hd
        subst hc hd
        have it := SeqAt.items_eqAt h4 r2 l3 l1 rm
        cases idx with
        | false =>
          cases hq
          refine call_meets PySem.F.slot_list_count ⟨_, ho, rfl⟩ PySem.F.entry_list_count (PySem.F.args_list_count_2 _ _) (SeqAt.list_countAt a vs n' dd sl u _) ⟨ho, it, ?_⟩
          rw [e1 h4]
          exact ⟨.int _, H, I.tok _, ⟨s.toks, rfl⟩, q⟩
        | true =>
          rw [if_pos rfl] at hq
          cases hf : ds.findIdx? fun d' => PyData.eqv d'.py d.py with
          | none => rw [hf] at hq; cases hq
          | some j =>
            rw [hf] at hq
            cases hq
            obtain ⟨f1, f2, f3⟩ := List.findIdx?_eq_some_iff_getElem.mp hf
            have hsz : vs.size = ds.length := by
              have := congrArg List.length (cnt h4)
              simpa using this
            refine call_meets PySem.F.slot_list_index ⟨_, ho, rfl⟩ PySem.F.entry_list_index (PySem.F.args_list_index_2 _ _)
              (SeqAt.list_index2_found a vs n' dd sl u (fun k => match ds[k]? with | some z => PyData.eqv z.py d.py | none => false) j (by omega) (Nat.zero_le _) ?_ ?_ ?_) ⟨ho, fun k hk => ?_, ?_⟩
            · have := ra.length
              rw [sizeLine_eq] at hlen
              omega
            · simp only [List.getElem?_eq_getElem f1]; exact f2
            · intro m hm _ hlt
              have hm' : m < ds.length := by omega
              simp only [List.getElem?_eq_getElem hm']
              simpa using f3 m hlt
            · obtain ⟨z, hz, ez⟩ := e2 h4 k hk
              have := it vs[k] (Array.getElem_mem hk)
              rw [ez] at this
              simp only [hz]
              exact this
            · exact ⟨.int _, H, I.tok _, ⟨s.toks, rfl⟩, q⟩
    | true =>
      obtain ⟨a, xs, rfl, ha, ra⟩ := hx.tup sb
      cases rx
      obtain ⟨as, r1⟩ := Dp.reads I _ _ _ ((RpS.dp hx sb)) (show RelV (.ref a) (.ref a) from rfl)
      cases r1 with
      | @tuple _ o vs n' _ _ ho hc hd h4 =>
        obtain ⟨cls, dd, data, sl⟩ := o
        simp only at hc hd
        subst hc hd
        have it := SeqAt.items_eqAt h4 r2 l3 l1 rm
        cases idx with
        | false =>
          cases hq
          refine call_meets PySem.F.slot_tuple_count ⟨_, ho, rfl⟩ PySem.F.entry_tuple_count (PySem.F.args_tuple_count_2 _ _) (SeqAt.tuple_countAt a vs n' dd sl u _) ⟨ho, it, ?_⟩
          rw [e1 h4]
          exact ⟨.int _, H, I.tok _, ⟨s.toks, rfl⟩, q⟩
        | true =>
          rw [if_pos rfl] at hq
          cases hf : ds.findIdx? fun d' => PyData.eqv d'.py d.py with
          | none => rw [hf] at hq; cases hq
          | some j =>
            rw [hf] at hq
            cases hq
            obtain ⟨f1, f2, f3⟩ := List.findIdx?_eq_some_iff_getElem.mp hf
            have hsz : vs.size = ds.length := by
              have := congrArg List.length (cnt h4)
              simpa using this
            refine call_meets PySem.F.slot_tuple_index ⟨_, ho, rfl⟩ PySem.F.entry_tuple_index (PySem.F.args_tuple_index_2 _ _)
              (SeqAt.tuple_index2_found a vs n' dd sl u (fun k => match ds[k]? with | some z => PyData.eqv z.py d.py | none => false) j (by omega) (Nat.zero_le _) (by omega) ?_ ?_) ⟨ho, fun k hk => ?_, ?_⟩
            · simp only [List.getElem?_eq_getElem f1]; exact f2
            · intro m hm _ hlt
              have hm' : m < ds.length := by omega
              simp only [List.getElem?_eq_getElem hm']
              simpa using f3 m hlt
            · obtain ⟨z, hz, ez⟩ := e2 h4 k hk
              have := it vs[k] (Array.getElem_mem hk)
              rw [ez] at this
              simp only [hz]
              exact this
            · exact ⟨.int _, H, I.tok _, ⟨s.toks, rfl⟩, q⟩
  · cases hq
end
end Mi

/-! Mi9: methods of lists. -/
namespace Mi
open PySem PySem.Spec PyProof.Rows L2
section
variable [KwTab] {nms : List Str} {X : Cx} {Φ : Nat → Fn} {k : Nat} {o e : Expr} {es : List Expr} {eo ee ees : E} {apos cpos : Pos}
theorem paired1 {α β : Type} {F : α → β → Prop} {l : List α} {b : β} (h : Paired F l [b]) : ∃ a, l = [a] ∧ F a b := by
  cases h with
  | cons r t => cases t; exact ⟨_, rfl, r⟩
theorem paired0 {α β : Type} {F : α → β → Prop} {l : List α} (h : Paired F l ([] : List β)) : l = [] := by
  cases h; rfl
theorem ev_append (ho : PE X o (tE X.K Φ eo)) (ha : PA X [e] (tA X.K Φ ees)) (hbase : attributeBase o "append" X.env (eval o X.env) = eval o X.env)
    (hfew : ((backTo cpos (starEach [e] X.env)).all (fun x => !x.1) && (backToKw cpos (keywordEach [] X.env)).all (fun x => x.1.isSome) && decide (([e] : List Expr).length + ([] : List Keyword).length + (if ([] : List Keyword).isEmpty then 0 else 1) < 30)) = true)
    (hline : (apos.endLine == cpos.line) = true) (hs : starEach [e] X.env = (false, eval e X.env) :: starEach [] X.env) : PE X (.Call (.Attribute o "append" apos) [e] [] cpos) (tE X.K Φ (.mth .append eo ees)) :=
  (pe_bm PySem.F.plainAttrs_list PySem.F.slot_list_append PySem.F.type_list_append mt_append ho ha hbase hfew hline hs rfl).imp fun σ H Q ⟨B, env, p, env', R, h, kk⟩ => by
    unfold evE at h
    split at h
    · rename_i i e1 h1
      split at h
      · rename_i hl
        split at h
        · rename_i ps e2 h2
          rcases ps with _ | ⟨q, _ | ⟨q2, qs⟩⟩ <;> simp only [reduceCtorEq] at h
          · split at h
            · rename_i d e3 h3
              split at h
              · rename_i f ds h4
                split at h
                · rename_i hz
                  cases h
                  refine ⟨B, env, _, e1, R, h1, fun v H1 B1 c1 r1 => ⟨lstIn_ty c1.re hl r1, B1, e1, _, e2, c1.re, h2, fun vs H2 B2 c2 r2 => ?_⟩⟩
                  obtain ⟨w, rfl, rw⟩ := paired1 r2.all
                  obtain ⟨B3, c3, s3, rd, _⟩ := fz_ok c2 rw h3
                  obtain ⟨a, o1, pa, nb, ha, xs, rfl, ra⟩ := c3.re.own h4
                  cases Option.some.inj (Option.some.inj (show some (some v) = some (some (V.ref a)) from r1.symm.trans pa))
                  refine ⟨a, xs, w, rfl, rfl, ha, ?_, ?_⟩
                  · rw [ra.length]; exact Nat.lt_of_lt_of_le hz lim_line
                  · exact kk _ _ B3 (own_write (c1.trans c3) h4 pa ⟨_, rfl, ra.app (.one rd)⟩) .non
                · cases h
              · cases h
            · cases h
        · cases h
      · cases h
    · cases h
theorem ev_extend (ho : PE X o (tE X.K Φ eo)) (ha : PA X [e] (tA X.K Φ ees)) (hbase : attributeBase o "extend" X.env (eval o X.env) = eval o X.env)
    (hfew : ((backTo cpos (starEach [e] X.env)).all (fun x => !x.1) && (backToKw cpos (keywordEach [] X.env)).all (fun x => x.1.isSome) && decide (([e] : List Expr).length + ([] : List Keyword).length + (if ([] : List Keyword).isEmpty then 0 else 1) < 30)) = true)
    (hline : (apos.endLine == cpos.line) = true) (hs : starEach [e] X.env = (false, eval e X.env) :: starEach [] X.env) : PE X (.Call (.Attribute o "extend" apos) [e] [] cpos) (tE X.K Φ (.mth .extend eo ees)) :=
  (pe_bm PySem.F.plainAttrs_list PySem.F.slot_list_extend PySem.F.type_list_extend mt_extend ho ha hbase hfew hline hs rfl).imp fun σ H Q ⟨B, env, p, env', R, h, kk⟩ => by
    unfold evE at h
    split at h
    · rename_i i e1 h1
      split at h
      · rename_i hl
        split at h
        · rename_i ps e2 h2
          rcases ps with _ | ⟨q, _ | ⟨q2, qs⟩⟩ <;> simp only [reduceCtorEq] at h
          · split at h
            · rename_i zs e3 h3
              split at h
              · rename_i f ds h4
                split at h
                · rename_i hz
                  cases h
                  refine ⟨B, env, _, e1, R, h1, fun v H1 B1 c1 r1 => ⟨lstIn_ty c1.re hl r1, B1, e1, _, e2, c1.re, h2, fun vs H2 B2 c2 r2 => ?_⟩⟩
                  obtain ⟨w, rfl, rw⟩ := paired1 r2.all
                  obtain ⟨B3, c3, s3, rd, _⟩ := fz_ok c2 rw h3
                  obtain ⟨a, o1, pa, nb, ha, xs, rfl, ra⟩ := c3.re.own h4
                  cases Option.some.inj (Option.some.inj (show some (some v) = some (some (V.ref a)) from r1.symm.trans pa))
                  cases rd with
                  | lst hb rb =>
                    refine ⟨a, _, xs, _, rfl, rfl, ha, c3.re.sub _ _ hb, ?_, ?_⟩
                    · rw [ra.length, rb.length]; exact lim_le hz
                    · exact kk _ _ B3 (own_write (c1.trans c3) h4 pa ⟨_, rfl, ra.app rb⟩) .non
                · cases h
              · cases h
            · cases h
        · cases h
      · cases h
    · cases h
theorem ev_pop (ho : PE X o (tE X.K Φ eo)) (hbase : attributeBase o "pop" X.env (eval o X.env) = eval o X.env) (hline : (apos.endLine == cpos.line) = true) : PE X (.Call (.Attribute o "pop" apos) [] [] cpos) (tE X.K Φ (.mth .pop eo .anil)) :=
  (pe_bm0 PySem.F.plainAttrs_list PySem.F.slot_list_pop PySem.F.type_list_pop mt_pop ho hbase hline).imp fun σ H Q ⟨B, env, p, env', R, h, kk⟩ => by
    unfold evE at h
    split at h
    · rename_i i e1 h1
      split at h
      · rename_i hl
        unfold evA at h
        simp only at h
        split at h
        · rename_i f ds h4
          split at h
          · rename_i d hd
            cases h
            refine ⟨B, env, _, _, R, h1, fun v H1 B1 c1 r1 => ⟨lstIn_ty c1.re hl r1, ?_⟩⟩
            obtain ⟨a, o1, pa, nb, ha, xs, rfl, ra⟩ := c1.re.own h4
            cases Option.some.inj (Option.some.inj (show some (some v) = some (some (V.ref a)) from r1.symm.trans pa))
            obtain ⟨w, hw, rw⟩ := ra.get hd
            refine ⟨a, xs, w, rfl, rfl, ha, by rw [ra.length]; exact hw, ?_⟩
            exact kk _ _ B1 (own_write c1 h4 pa ⟨_, rfl, ra.dropLast⟩) rw
          · cases h
        · cases h
      · cases h
    · cases h
theorem ev_popAt (ho : PE X o (tE X.K Φ eo)) (ha : PA X [e] (tA X.K Φ ees)) (hbase : attributeBase o "pop" X.env (eval o X.env) = eval o X.env)
    (hfew : ((backTo cpos (starEach [e] X.env)).all (fun x => !x.1) && (backToKw cpos (keywordEach [] X.env)).all (fun x => x.1.isSome) && decide (([e] : List Expr).length + ([] : List Keyword).length + (if ([] : List Keyword).isEmpty then 0 else 1) < 30)) = true)
    (hline : (apos.endLine == cpos.line) = true) (hs : starEach [e] X.env = (false, eval e X.env) :: starEach [] X.env) : PE X (.Call (.Attribute o "pop" apos) [e] [] cpos) (tE X.K Φ (.mth .popAt eo ees)) :=
  (pe_bm PySem.F.plainAttrs_list PySem.F.slot_list_pop PySem.F.type_list_pop mt_popAt ho ha hbase hfew hline hs rfl).imp fun σ H Q ⟨B, env, p, env', R, h, kk⟩ => by
    unfold evE at h
    split at h
    · rename_i i e1 h1
      split at h
      · rename_i hl
        split at h
        · rename_i ps e2 h2
          rcases ps with _ | ⟨(_ | b | n | x | ds1 | ds1 | ns1) | j | m1 | xs1, _ | ⟨q2, qs⟩⟩ <;> simp only [reduceCtorEq] at h
          · split at h
            · rename_i f ds h4
              split at h
              · rename_i hz
                split at h
                · rename_i d hd
                  cases h
                  refine ⟨B, env, _, e1, R, h1, fun v H1 B1 c1 r1 => ⟨lstIn_ty c1.re hl r1, B1, e1, _, e2, c1.re, h2, fun vs H2 B2 c2 r2 => ?_⟩⟩
                  obtain ⟨w, rfl, rw⟩ := paired1 r2.all
                  cases rw
                  obtain ⟨a, o1, pa, nb, ha, xs, rfl, ra⟩ := c2.re.own h4
                  cases Option.some.inj (Option.some.inj (show some (some v) = some (some (V.ref a)) from r1.symm.trans pa))
                  obtain ⟨u, hu, ru⟩ := ra.get hd
                  have hlt : n.toNat < xs.length := by
                    rcases Nat.lt_or_ge n.toNat xs.length with z | z
                    · exact z
                    · rw [List.getElem?_eq_none z] at hu; cases hu
                  refine ⟨a, xs, n, n.toNat, u, rfl, rfl, ha, by omega, by omega, ?_, hu, ?_⟩
                  · unfold seqIndex?
                    simp only [show ¬ n < 0 by omega, if_false]
                    first | (rw [if_pos (by omega)]) | (simp; omega)
                  · exact kk _ _ B2 (own_write (c1.trans c2) h4 pa ⟨_, rfl, ra.erase _⟩) ru
                · cases h
              · cases h
            · cases h
        · cases h
      · cases h
    · cases h
theorem qs_entails {idx : Bool} (hu : X.A.units + 65 < cLine) (σ : L2.St) (H : Hp) (Q : VK) (h : tE X.K Φ (.mq idx eo ee) σ H Q) : xBM2 X.K (rQ X.K idx false) (rQ X.K idx true) (tE X.K Φ eo) (tCons (tE X.K Φ ee) tNil) σ H Q := by
  obtain ⟨B, env, p, env', R, h, kk⟩ := h
  unfold evE at h
  split at h
  · rename_i q e1 h1
    split at h
    · rename_i ds hp0
      split at h
      · rename_i y e2 h2
        split at h
        · rename_i n hn
          cases h
          refine ⟨B, env, _, e1, R, h1, fun v H1 B1 c1 r1 => .inr ⟨ty_tup (pk_ok c1.re r1 hp0) c1.re.sub, B1, e1, _, _, c1.re, h2, fun w H2 B2 c2 r2 => ?_⟩⟩
          have rs := pk_ok c1.re r1 hp0
          have rt : Rp X.K B1 v (.tup ds) := by
            rcases rs with rs | ⟨_, _, _, _, w, _⟩
            · exact rs
            · cases w
          exact ⟨w, rfl, B2, ds, y, n, c2.re.sub, .inl (rt.mono c2.st.bb), .inl r2, hn, kk _ H2 B2 (c1.trans c2) (.int _)⟩
        · cases h
      · cases h
    · rename_i ds0 hp0
      split at h
      · rename_i y e2 h2
        split at h
        · rename_i ds hp
          split at h
          · rename_i n hn
            cases h
            refine ⟨B, env, _, e1, R, h1, fun v H1 B1 c1 r1 => .inl ⟨.inl (ty_lst (pk_ok c1.re r1 hp0) c1.re.sub), B1, e1, _, _, c1.re, h2, fun w H2 B2 c2 r2 => ?_⟩⟩
            exact ⟨w, rfl, B2, ds, y, n, c2.re.sub, pk_ok c2.re (r1.later c1.r0 c1.st c2.st) hp, .inl r2, hn, kk _ H2 B2 (c1.trans c2) (.int _)⟩
          · cases h
        · cases h
      · cases h
    · cases h
  · cases h
theorem ev_cnt (hu : X.A.units + 65 < cLine) (ho : PE X o (tE X.K Φ eo)) (he : PE X e (tE X.K Φ ee)) (hbase : attributeBase o "count" X.env (eval o X.env) = eval o X.env)
    (hfew : ((backTo cpos (starEach [e] X.env)).all (fun x => !x.1) && (backToKw cpos (keywordEach [] X.env)).all (fun x => x.1.isSome) && decide (([e] : List Expr).length + ([] : List Keyword).length + (if ([] : List Keyword).isEmpty then 0 else 1) < 30)) = true)
    (hline : (apos.endLine == cpos.line) = true) (hs : starEach [e] X.env = (false, eval e X.env) :: starEach [] X.env) : PE X (.Call (.Attribute o "count" apos) [e] [] cpos) (tE X.K Φ (.mq false eo ee)) :=
  (x_bm2 (T1 := "list") (T2 := "tuple") PySem.F.plainAttrs_list PySem.F.slot_list_count PySem.F.type_list_count (mt_q hu false false) PySem.F.plainAttrs_tuple PySem.F.slot_tuple_count PySem.F.type_tuple_count (mt_q hu false true) ho (pa_cons he pa_nil hs) hbase hfew hline hs rfl).imp (qs_entails hu)
theorem ev_idx (hu : X.A.units + 65 < cLine) (ho : PE X o (tE X.K Φ eo)) (he : PE X e (tE X.K Φ ee)) (hbase : attributeBase o "index" X.env (eval o X.env) = eval o X.env)
    (hfew : ((backTo cpos (starEach [e] X.env)).all (fun x => !x.1) && (backToKw cpos (keywordEach [] X.env)).all (fun x => x.1.isSome) && decide (([e] : List Expr).length + ([] : List Keyword).length + (if ([] : List Keyword).isEmpty then 0 else 1) < 30)) = true)
    (hline : (apos.endLine == cpos.line) = true) (hs : starEach [e] X.env = (false, eval e X.env) :: starEach [] X.env) : PE X (.Call (.Attribute o "index" apos) [e] [] cpos) (tE X.K Φ (.mq true eo ee)) :=
  (x_bm2 (T1 := "list") (T2 := "tuple") PySem.F.plainAttrs_list PySem.F.slot_list_index PySem.F.type_list_index (mt_q hu true false) PySem.F.plainAttrs_tuple PySem.F.slot_tuple_index PySem.F.type_tuple_index (mt_q hu true true) ho (pa_cons he pa_nil hs) hbase hfew hline hs rfl).imp (qs_entails hu)
end
end Mi

/-! Mi10: targets; locks; slots forgotten. -/
namespace Mi
open PySem PySem.Spec PyProof.Rows L2

section
variable {K : PySem.W.Frag} {σ σ2 σ3 : L2.St} {H B H' B' H2 B2 : Hp} {env env' e e2 e3 : En} {v : V} {d : D} {vs : List V} {ds : List D}
theorem get_lt {α : Type} {l : List α} {i : Nat} {a : α} (h : l[i]? = some a) : i < l.length := by
  rcases Nat.lt_or_ge i l.length with z | z
  · exact z
  · rw [List.getElem?_eq_none z] at h; cases h
theorem set_st {σ : L2.St} {i j : Nat} {x : Option V} (h : j ≠ i) : (σ.set i x)[j]? = σ[j]? := List.getElem?_set_ne (Ne.symm h)
theorem set_self {α : Type} {l : List α} {i : Nat} {x : α} (h : i < l.length) : (l.set i x)[i]? = some x := by
  rw [List.getElem?_set]; simp [h]
/-- slot i holds other data -/
theorem RE.setDat (R : RE K σ H B env) {i : Nat} (hi : i < env.length) (r : Rp K B v d) : RE K (σ.set i (some v)) H B (env.set i (.dat d)) where
  sub := R.sub
  len := by rw [List.length_set, List.length_set]; exact R.len
  dat := fun {j d'} h => by
    rcases set_get h with ⟨rfl, e2⟩ | ⟨ne, h⟩
    · cases e2; exact ⟨v, set_self (by rw [← R.len]; exact hi), r⟩
    · rw [set_st ne]; exact R.dat h
  own := fun {j f m} h => by
    rcases set_get h with ⟨rfl, e2⟩ | ⟨ne, h⟩
    · cases e2
    · obtain ⟨p, o, x, y⟩ := R.own h
      exact ⟨p, o, by show (σ.set i _)[j]? = _; rw [set_st ne]; exact x, y⟩
  lck := fun {j f m} h => by
    rcases set_get h with ⟨rfl, e2⟩ | ⟨ne, h⟩
    · cases e2
    · obtain ⟨p, o, x, y⟩ := R.lck h
      exact ⟨p, o, by show (σ.set i _)[j]? = _; rw [set_st ne]; exact x, y⟩
  apart := fun {j l s t p} h1 h2 m1 m2 x1 x2 => by
    rcases set_get h1 with ⟨_, e2⟩ | ⟨n1, h1⟩
    · subst e2; cases m1
    · rcases set_get h2 with ⟨_, e2⟩ | ⟨n2, h2⟩
      · subst e2; cases m2
      · exact R.apart h1 h2 m1 m2 (by rw [At, set_st n1] at x1; exact x1) (by rw [At, set_st n2] at x2; exact x2)
/-- .. a new object -/
theorem RE.setOwn (R : RE K σ H B env) {i : Nat} {a : Addr} {o : HO} {m : MO} (hi : i < env.length) (ha : H a = some o) (hb : B a = none) (mo : MOk K B o m) (nw : ∀ {j : Nat} {s : Slot}, env[j]? = some s → s.mut = true → ¬ At σ j a) : RE K (σ.set i (some (.ref a))) H B (env.set i (.own true m)) where
  sub := R.sub
  len := by rw [List.length_set, List.length_set]; exact R.len
  dat := fun {j d'} h => by
    rcases set_get h with ⟨rfl, e2⟩ | ⟨ne, h⟩
    · cases e2
    · rw [set_st ne]; exact R.dat h
  own := fun {j f m} h => by
    rcases set_get h with ⟨rfl, e2⟩ | ⟨ne, h⟩
    · cases e2
      exact ⟨a, o, set_self (by rw [← R.len]; exact hi), hb, ha, mo⟩
    · obtain ⟨p, o, x, y⟩ := R.own h
      exact ⟨p, o, by show (σ.set i _)[j]? = _; rw [set_st ne]; exact x, y⟩
  lck := fun {j f m} h => by
    rcases set_get h with ⟨rfl, e2⟩ | ⟨ne, h⟩
    · cases e2
    · obtain ⟨p, o, x, y⟩ := R.lck h
      exact ⟨p, o, by show (σ.set i _)[j]? = _; rw [set_st ne]; exact x, y⟩
  apart := fun {j l s t p} h1 h2 m1 m2 x1 x2 => by
    have self : ∀ {q : Addr}, At (σ.set i (some (.ref a))) i q → q = a := fun {q} x => by
      have y := set_self (l := σ) (x := some (V.ref a)) (i := i) (by rw [← R.len]; exact hi)
      rw [At, y] at x
      cases x; rfl
    rcases set_get h1 with ⟨rfl, e2⟩ | ⟨n1, g1⟩
    · rcases set_get h2 with ⟨rfl, e2⟩ | ⟨n2, g2⟩
      · rfl
      · cases self x1
        rw [At, set_st n2] at x2
        exact absurd x2 (nw g2 m2)
    · rcases set_get h2 with ⟨rfl, e2⟩ | ⟨n2, h2⟩
      · cases self x2
        rw [At, set_st n1] at x1
        exact absurd x1 (nw g1 m1)
      · exact R.apart g1 h2 m1 m2 (by rw [At, set_st n1] at x1; exact x1) (by rw [At, set_st n2] at x2; exact x2)

/-! ### targets -/
def T.slots : T → List Nat
  | .nm i => [i]
  | .tp ts => ts.slots
  | .nil => []
  | .cons t ts => t.slots ++ ts.slots
def T.len : T → Nat
  | .cons _ ts => ts.len + 1
  | _ => 0
/-- what storing at the slots vs leaves -/
structure Upd (vs : List Nat) (σ : L2.St) (env : En) (σ2 : L2.St) (e2 : En) : Prop where
  off : ∀ {j : Nat}, j ∉ vs → σ2[j]? = σ[j]? ∧ e2[j]? = env[j]?
  on : ∀ {j : Nat}, j ∈ vs → e2[j]? = env[j]? ∨ ∃ d, e2[j]? = some (Slot.dat d)
  mu : ∀ {j : Nat} {s : Slot}, e2[j]? = some s → s.mut = true → env[j]? = some s ∧ σ2[j]? = σ[j]?
  fr : ∀ {j : Nat} {s : Slot}, env[j]? = some s → s.free = false → e2[j]? = some s ∧ σ2[j]? = σ[j]?
  ln : e2.length = env.length
theorem Upd.refl : Upd [] σ env σ env := ⟨fun _ => ⟨rfl, rfl⟩, fun h => (by cases h), fun h _ => ⟨h, rfl⟩, fun h _ => ⟨h, rfl⟩, rfl⟩
theorem Upd.trans {a b : List Nat} (x : Upd a σ env σ2 e2) (y : Upd b σ2 e2 σ3 e3) : Upd (a ++ b) σ env σ3 e3 where
  off := fun {j} h => by
    obtain ⟨h1, h2⟩ := not_or.mp (fun z => h (List.mem_append.mpr z))
    exact ⟨(y.off h2).1.trans (x.off h1).1, (y.off h2).2.trans (x.off h1).2⟩
  on := fun {j} h => by
    by_cases hb : j ∈ b
    · rcases y.on hb with z | z
      · by_cases ha : j ∈ a
        · rcases x.on ha with w | ⟨d, w⟩
          · exact .inl (z.trans w)
          · exact .inr ⟨d, z.trans w⟩
        · exact .inl (z.trans (x.off ha).2)
      · exact .inr z
    · have ha : j ∈ a := (List.mem_append.mp h).resolve_right hb
      have z := (y.off hb).2
      rcases x.on ha with w | ⟨d, w⟩
      · exact .inl (z.trans w)
      · exact .inr ⟨d, z.trans w⟩
  mu := fun h m => by
    obtain ⟨h1, h2⟩ := y.mu h m
    obtain ⟨h3, h4⟩ := x.mu h1 m
    exact ⟨h3, h2.trans h4⟩
  fr := fun h m => by
    obtain ⟨h1, h2⟩ := x.fr h m
    obtain ⟨h3, h4⟩ := y.fr h1 m
    exact ⟨h3, h4.trans h2⟩
  ln := y.ln.trans x.ln
theorem Upd.one {i : Nat} {t : Slot} (hi : env[i]? = some t) (hf : t.free = true) : Upd [i] σ env (σ.set i (some v)) (env.set i (.dat d)) where
  off := fun {j} h => by
    have ne : j ≠ i := fun z => h (by simp [z])
    exact ⟨set_st ne, List.getElem?_set_ne (Ne.symm ne)⟩
  on := fun {j} h => by
    have e : j = i := by simpa using h
    subst e
    exact .inr ⟨d, set_self (get_lt hi)⟩
  mu := fun {j s} h m => by
    rcases set_get h with ⟨rfl, e2⟩ | ⟨ne, h⟩
    · subst e2; cases m
    · exact ⟨h, set_st ne⟩
  fr := fun {j s} h m => by
    have ne : j ≠ i := fun z => by
      subst z
      rw [hi] at h; cases h
      rw [hf] at m; cases m
    exact ⟨by rw [List.getElem?_set_ne (Ne.symm ne)]; exact h, set_st ne⟩
  ln := List.length_set
theorem setS_ok {i : Nat} {s : Slot} (h : setS i s env = some e2) : ∃ t, env[i]? = some t ∧ t.free = true ∧ e2 = env.set i s := by
  unfold setS at h
  split at h
  · rename_i t ht
    split at h
    · rename_i hf
      cases h
      exact ⟨t, ht, hf, rfl⟩
    · cases h
  · cases h
def tG (K : PySem.W.Frag) (t : T) : TG := fun v σ H Q => ∃ B env d e2, RE K σ H B env ∧ Rp K B v d ∧ setD t d env = some e2 ∧ ∀ σ2, RE K σ2 H B e2 → Upd t.slots σ env σ2 e2 → Q σ2 H
def tGs (K : PySem.W.Frag) (t : T) : TGs := fun vs σ H Q => ∃ B env ds e2, RE K σ H B env ∧ RpA K B vs ds ∧ setDs t ds env = some e2 ∧ ∀ σ2, RE K σ2 H B e2 → Upd t.slots σ env σ2 e2 → Q σ2 H
theorem setDs_len : ∀ {t : T} {ds : List D} {env e2 : En}, setDs t ds env = some e2 → ds.length = t.len
  | .nil, [], _, _, _ => rfl
  | .cons t ts, d :: ds, env, e2, h => by
    unfold setDs at h
    split at h
    · rw [List.length_cons, setDs_len h]; rfl
    · cases h
  | .nil, _ :: _, _, _, h => by cases h
  | .cons _ _, [], _, _, h => by cases h
  | .nm _, _, _, _, h => by cases h
  | .tp _, _, _, _, h => by cases h
end
section
variable {X : Cx} {Φ : Nat → Fn} {pos : Pos}
theorem _root_.L2.PG.imp {X : Cx} {e : Expr} {t t' : TG} (h : PG X e t) (k : ∀ v σ H Q, t' v σ H Q → t v σ H Q) : PG X e t' := ⟨fun pins s σ H v u Q I r hw => h.run pins s σ H v u Q I r (k v σ H Q hw)⟩
theorem _root_.L2.PGs.imp {X : Cx} {e : List Expr} {t t' : TGs} (h : PGs X e t) (k : ∀ v σ H Q, t' v σ H Q → t v σ H Q) : PGs X e t' := ⟨fun pins s σ H v u Q I r hw => h.run pins s σ H v u Q I r (k v σ H Q hw)⟩
theorem eg_name {i : Nat} {x : Str} (hN : X.N.Nodup) (hi : X.N[i]? = some x) (hx : Loc X.env.scope x) (hf : X.fn x = true ∨ X.env.scope.names.lookup x = some .local) : PG X (.Name x pos) (tG X.K (.nm i)) :=
  (pg_name hN hi hx hf).imp fun v σ H Q ⟨B, env, d, e2, R, r, h, k⟩ => by
    unfold setD at h
    obtain ⟨t, h1, h2, rfl⟩ := setS_ok h
    exact k _ (R.setDat (get_lt h1) r) (Upd.one h1 h2)
theorem egs_nil : PGs X [] (tGs X.K .nil) := pgs_nil.imp fun vs σ H Q ⟨B, env, ds, e2, R, r, h, k⟩ => by
  cases r with
  | nil => cases h; exact ⟨rfl, k σ R Upd.refl⟩
  | cons _ _ => cases h
theorem egs_cons {e : Expr} {es : List Expr} {t ts : T} (h1 : PG X e (tG X.K t)) (h2 : PGs X es (tGs X.K ts)) (hs : (assignEach (e :: es) X.env).map (·.2) = assign e X.env :: (assignEach es X.env).map (·.2)) : PGs X (e :: es) (tGs X.K (.cons t ts)) :=
  (pgs_cons h1 h2 hs).imp fun vs σ H Q ⟨B, env, ds, e2, R, r, h, k⟩ => by
    cases r with
    | nil => cases h
    | cons r ra =>
      unfold setDs at h
      split at h
      · rename_i e1 he1
        exact ⟨_, _, rfl, B, env, _, e1, R, r, he1, fun σ2 R2 U2 => ⟨B, e1, _, e2, R2, ra, h, fun σ3 R3 U3 => k σ3 R3 (U2.trans U3)⟩⟩
      · cases h
theorem eg_tup {es : List Expr} {kk n : Nat} {ts : T} (hc : X.calm = true) (h : PGs X es (tGs X.K ts)) (hn : (assignEach es X.env).length = n) (hl : ts.len = n) (hst : (assignEach es X.env).findIdx? (·.1) = none) : PG X (.Tuple es kk pos) (tG X.K (.tp ts)) :=
  (pg_tup hc h hn hst).imp fun v σ H Q ⟨B, env, d, e2, R, r, h, k⟩ => by
    cases r with
    | tup _ ha ra =>
      unfold setD at h
      exact ⟨_, _, rfl, st_frz (R.sub _ _ ha), by rw [ra.length, setDs_len h, hl], B, env, _, e2, R, ra, h, k⟩
    | wtup ha ra =>
      unfold setD at h
      exact ⟨_, _, rfl, Evl.st_of (R.sub _ _ ha), by rw [ra.length, setDs_len h, hl], B, env, _, e2, R, ra, h, k⟩
    | _ => cases h
end

/-! ### locks -/
section
variable {K : PySem.W.Frag} {σ σ2 : L2.St} {H B H' B' H2 B2 : Hp} {env env' e e2 : En} {i : Nat} {f : Bool} {m : MO} {d : Addr} {u w : HO}
theorem lock_re (R : RE K σ H B e) (ei : e[i]? = some (.own f m)) (pd : At σ i d) (hd : H d = some u) (hw : w = u ∨ ((∀ ds, m ≠ .lst ds) ∧ ∃ od, w = .frz od u)) : RE K σ (upd H d w) B (e.set i (.lck f m)) := by
  obtain ⟨q, o, pq, nb, hq, mo⟩ := R.own ei
  cases At.eq pd pq
  rw [hd] at hq
  cases hq
  refine ⟨R.sub.updR nb, by rw [List.length_set]; exact R.len, fun {j x} h => ?_, fun {j f' m'} h => ?_, fun {j f' m'} h => ?_, fun {j l s t p} h1 h2 m1 m2 x1 x2 => ?_⟩
  · rcases set_get h with ⟨_, e2⟩ | ⟨_, h⟩
    · cases e2
    · exact R.dat h
  · rcases set_get h with ⟨_, e2⟩ | ⟨ne, h⟩
    · cases e2
    · obtain ⟨p, o, x, y, z, t⟩ := R.own h
      refine ⟨p, o, x, y, ?_, t⟩
      rw [upd_ne fun q => ?_]; exact z
      subst q
      exact ne (R.apart h ei rfl rfl x pd)
  · rcases set_get h with ⟨rfl, e2⟩ | ⟨ne, h⟩
    · cases e2
      refine ⟨d, u, pd, nb, ?_, mo⟩
      rcases hw with rfl | ⟨nl, od, rfl⟩
      · cases m with
        | lst _ => exact upd_same
        | dK _ => exact .inl upd_same
        | dT _ => exact .inl upd_same
      · cases m with
        | lst _ => exact absurd rfl (nl _)
        | dK _ => exact .inr ⟨od, upd_same⟩
        | dT _ => exact .inr ⟨od, upd_same⟩
    · obtain ⟨p, o, x, y, z, t⟩ := R.lck h
      refine ⟨p, o, x, y, z.mono fun v hv => ?_, t⟩
      rw [upd_ne fun q => ?_]; exact hv
      subst q
      exact ne (R.apart h ei rfl rfl x pd)
  · have o1 : ∃ s0, e[j]? = some s0 ∧ s0.mut = true := by
      rcases set_get h1 with ⟨rfl, e2⟩ | ⟨_, h⟩
      · exact ⟨_, ei, rfl⟩
      · exact ⟨_, h, m1⟩
    have o2 : ∃ s0, e[l]? = some s0 ∧ s0.mut = true := by
      rcases set_get h2 with ⟨rfl, e2⟩ | ⟨_, h⟩
      · exact ⟨_, ei, rfl⟩
      · exact ⟨_, h, m2⟩
    obtain ⟨_, o1, w1⟩ := o1
    obtain ⟨_, o2, w2⟩ := o2
    exact R.apart o1 o2 w1 w2 x1 x2
theorem lock_not (R : RE K σ H B e) (ei : e[i]? = some (.own f m)) (pd : At σ i d) : ¬ Own σ (e.set i (.lck f m)) d := fun ⟨j, f', m', h, x⟩ => by
  rcases set_get h with ⟨_, e2⟩ | ⟨ne, h⟩
  · cases e2
  · exact ne (R.apart h ei rfl rfl x pd)
theorem free_re (R2 : RE K σ H2 B2 e2) (ei : e2[i]? = some (.lck f m)) (pd : At σ i d) (hd : H2 d = some w) (hw : w = u ∨ ∃ od, w = .frz od u) (mo : MOk K B2 u m) : RE K σ (upd H2 d u) B2 (e2.set i (.own f m)) := by
  obtain ⟨q, o, pq, nb, hq, _⟩ := R2.lck ei
  cases At.eq pd pq
  refine ⟨R2.sub.updR nb, by rw [List.length_set]; exact R2.len, fun {j x} h => ?_, fun {j f' m'} h => ?_, fun {j f' m'} h => ?_, fun {j l s t p} h1 h2 m1 m2 x1 x2 => ?_⟩
  · rcases set_get h with ⟨_, e2⟩ | ⟨_, h⟩
    · cases e2
    · exact R2.dat h
  · rcases set_get h with ⟨rfl, e2⟩ | ⟨ne, h⟩
    · cases e2
      exact ⟨d, u, pd, nb, upd_same, mo⟩
    · obtain ⟨p, o, x, y, z, t⟩ := R2.own h
      refine ⟨p, o, x, y, ?_, t⟩
      rw [upd_ne fun q => ?_]; exact z
      subst q
      exact ne (R2.apart h ei rfl rfl x pd)
  · rcases set_get h with ⟨_, e2⟩ | ⟨ne, h⟩
    · cases e2
    · obtain ⟨p, o, x, y, z, t⟩ := R2.lck h
      refine ⟨p, o, x, y, z.mono fun v hv => ?_, t⟩
      rw [upd_ne fun q => ?_]; exact hv
      subst q
      exact ne (R2.apart h ei rfl rfl x pd)
  · have o1 : ∃ s0, e2[j]? = some s0 ∧ s0.mut = true := by
      rcases set_get h1 with ⟨rfl, _⟩ | ⟨_, h⟩
      · exact ⟨_, ei, rfl⟩
      · exact ⟨_, h, m1⟩
    have o2 : ∃ s0, e2[l]? = some s0 ∧ s0.mut = true := by
      rcases set_get h2 with ⟨rfl, _⟩ | ⟨_, h⟩
      · exact ⟨_, ei, rfl⟩
      · exact ⟨_, h, m2⟩
    obtain ⟨_, o1, w1⟩ := o1
    obtain ⟨_, o2, w2⟩ := o2
    exact R2.apart o1 o2 w1 w2 x1 x2
theorem lock_over (R : RE K σ H B e) (ei : e[i]? = some (.own f m)) (pd : At σ i d) (hd : H d = some u) (hw : w = u ∨ ∃ od, w = .frz od u) (c : Cm K σ (upd H d w) B (e.set i (.lck f m)) H2 B2 e2) :
    H2 d = some w ∧ Cm K σ H B e (upd H2 d u) B2 (freeS (some i) e2) := by
  have no := lock_not R ei pd
  have h2 : H2 d = some w := c.st.fr upd_same no
  obtain ⟨q, o, pq, nb, hq, mo⟩ := R.own ei
  cases At.eq pd pq
  rw [hd] at hq
  cases hq
  have lt := get_lt ei
  have ei2 : e2[i]? = some (.lck f m) := c.st.lk.mpr (set_self lt)
  have fe : freeS (some i) e2 = e2.set i (.own f m) := by unfold freeS; simp only [ei2]
  rw [fe]
  refine ⟨h2, R, ⟨c.st.bb, fun {a} h => ?_, fun {a o} h n => ?_, fun {a o} h => ?_, fun {j f' m'} h => ?_, fun {j f' m'} => ?_⟩, free_re c.re ei2 pd h2 hw (mo.mono c.st.bb)⟩
  · have ne : a ≠ d := fun z => by subst z; rw [upd_same] at h; cases h
    rw [upd_ne ne] at h
    have := c.st.th h
    rw [upd_ne ne] at this
    exact this
  · have ne : a ≠ d := fun z => by subst z; exact n ⟨i, f, m, ei, pd⟩
    rw [upd_ne ne]
    refine c.st.fr (by rw [upd_ne ne]; exact h) fun ⟨j, f', m', x, y⟩ => ?_
    rcases set_get x with ⟨_, e2⟩ | ⟨_, x⟩
    · cases e2
    · exact n ⟨j, f', m', x, y⟩
  · rcases c.st.fre h with x | x | ⟨j, m', x, y⟩
    · exact .inl x
    · refine .inr (.inl ?_)
      have ne : a ≠ d := fun z => by subst z; rw [upd_same] at x; cases x
      rw [upd_ne ne] at x
      exact x
    · rcases set_get x with ⟨_, e2⟩ | ⟨_, x⟩
      · cases e2
      · exact .inr (.inr ⟨j, m', x, y⟩)
  · rcases set_get h with ⟨rfl, e2⟩ | ⟨ne, h⟩
    · cases e2; exact ⟨_, ei⟩
    · obtain ⟨m2, h⟩ := c.st.ow h
      rcases set_get h with ⟨_, e2⟩ | ⟨_, h⟩
      · cases e2
      · exact ⟨m2, h⟩
  · by_cases z : j = i
    · subst z
      rw [set_self (get_lt ei2), ei]
    · rw [List.getElem?_set_ne (Ne.symm z), c.st.lk, List.getElem?_set_ne (Ne.symm z)]

/-! ### slots forgotten -/
theorem wipeS_get {env : En} {j : Nat} : ∀ {vs : List Nat}, j ∉ vs → (wipeS env vs)[j]? = env[j]?
  | [], _ => rfl
  | v :: vs, h => by
    unfold wipeS
    rw [List.getElem?_set_ne (fun z => h (by simp [z])), wipeS_get (fun z => h (List.mem_cons_of_mem _ z))]
theorem wipeS_len {env : En} : ∀ {vs : List Nat}, (wipeS env vs).length = env.length
  | [] => rfl
  | v :: vs => by unfold wipeS; rw [List.length_set, wipeS_len]
theorem wipeS_un {env : En} {j : Nat} {s : Slot} : ∀ {vs : List Nat}, j ∈ vs → (wipeS env vs)[j]? = some s → s = .un
  | v :: vs, h, e => by
    unfold wipeS at e
    rcases set_get e with ⟨_, z⟩ | ⟨ne, z⟩
    · exact z
    · exact wipeS_un ((List.mem_cons.mp h).resolve_left ne) z
theorem wipe_get {σ : L2.St} {j : Nat} : ∀ {vs : List Nat}, j ∉ vs → (wipe σ vs)[j]? = σ[j]?
  | [], _ => rfl
  | v :: vs, h => by
    unfold wipe
    rw [List.getElem?_set_ne (fun z => h (by simp [z])), wipe_get (fun z => h (List.mem_cons_of_mem _ z))]
theorem wipe_on {σ : L2.St} {j : Nat} : ∀ {vs : List Nat}, j ∈ vs → j < σ.length → (wipe σ vs)[j]? = some none
  | v :: vs, h, lt => by
    unfold wipe
    by_cases e : j = v
    · subst e
      exact set_self (by rw [wipe_length]; exact lt)
    · rw [List.getElem?_set_ne (Ne.symm e)]
      exact wipe_on ((List.mem_cons.mp h).resolve_left e) lt
theorem wipe_same {σ σ2 : L2.St} {vs : List Nat} (hl : σ2.length = σ.length) (h : ∀ j, j ∉ vs → σ2[j]? = σ[j]?) : wipe σ2 vs = wipe σ vs := by
  apply List.ext_getElem?
  intro j
  by_cases hj : j ∈ vs
  · by_cases lt : j < σ.length
    · rw [wipe_on hj lt, wipe_on hj (by rw [hl]; exact lt)]
    · rw [List.getElem?_eq_none (by rw [wipe_length]; omega), List.getElem?_eq_none (by rw [wipe_length]; omega)]
  · rw [wipe_get hj, wipe_get hj, h j hj]
theorem backS_get {old env : En} {j : Nat} : ∀ {vs : List Nat}, j ∉ vs → (backS old env vs)[j]? = env[j]?
  | [], _ => rfl
  | v :: vs, h => by
    have ih := backS_get (old := old) (env := env) (fun z => h (List.mem_cons_of_mem _ z))
    unfold backS
    split
    · rw [List.getElem?_set_ne (fun z => h (by simp [z])), ih]
    · exact ih
theorem backS_len {old env : En} : ∀ {vs : List Nat}, (backS old env vs).length = env.length
  | [] => rfl
  | v :: vs => by
    unfold backS
    split
    · rw [List.length_set, backS_len]
    · exact backS_len
theorem backS_on {old env : En} {j : Nat} : ∀ {vs : List Nat}, j ∈ vs → env.length = old.length → (backS old env vs)[j]? = old[j]?
  | v :: vs, h, hl => by
    unfold backS
    by_cases e : j = v
    · subst e
      split
      · rename_i s hs
        rw [set_self (by rw [backS_len, hl]; exact get_lt hs), hs]
      · rename_i hs
        by_cases z : j ∈ vs
        · exact backS_on z hl
        · rw [backS_get z, hs]
          have : old.length ≤ j := by
            rcases Nat.lt_or_ge j old.length with q | q
            · rw [List.getElem?_eq_getElem q] at hs; cases hs
            · exact q
          exact List.getElem?_eq_none (by omega)
    · have ih := backS_on (env := env) ((List.mem_cons.mp h).resolve_left e) hl
      split
      · rw [List.getElem?_set_ne (Ne.symm e)]; exact ih
      · exact ih
theorem wipe_at {j : Nat} {p : Addr} {vs : List Nat} (h : At (wipe σ vs) j p) : j ∉ vs ∧ At σ j p := by
  obtain ⟨h1, h2⟩ := wipe_some h
  exact ⟨h2, h1⟩
theorem wipeS_mut {vs : List Nat} {j : Nat} {s : Slot} (h : (wipeS env vs)[j]? = some s) (m : s ≠ .un) : j ∉ vs ∧ env[j]? = some s := by
  by_cases z : j ∈ vs
  · exact absurd (wipeS_un z h) m
  · rw [wipeS_get z] at h; exact ⟨z, h⟩
theorem RE.wipe (R : RE K σ H B env) (vs : List Nat) : RE K (wipe σ vs) H B (wipeS env vs) where
  sub := R.sub
  len := by rw [wipeS_len, wipe_length]; exact R.len
  dat := fun {j x} h => by
    obtain ⟨n, h⟩ := wipeS_mut h (by intro z; cases z)
    rw [wipe_get n]; exact R.dat h
  own := fun {j f m} h => by
    obtain ⟨n, h⟩ := wipeS_mut h (by intro z; cases z)
    obtain ⟨p, o, x, y⟩ := R.own h
    exact ⟨p, o, by show (L2.wipe σ vs)[j]? = _; rw [wipe_get n]; exact x, y⟩
  lck := fun {j f m} h => by
    obtain ⟨n, h⟩ := wipeS_mut h (by intro z; cases z)
    obtain ⟨p, o, x, y⟩ := R.lck h
    exact ⟨p, o, by show (L2.wipe σ vs)[j]? = _; rw [wipe_get n]; exact x, y⟩
  apart := fun {j l s t p} h1 h2 m1 m2 x1 x2 => by
    obtain ⟨n1, h1⟩ := wipeS_mut h1 (by intro z; subst z; cases m1)
    obtain ⟨n2, h2⟩ := wipeS_mut h2 (by intro z; subst z; cases m2)
    exact R.apart h1 h2 m1 m2 (wipe_at x1).2 (wipe_at x2).2
theorem own_wipe {vs : List Nat} {a : Addr} (h : Own (wipe σ vs) (wipeS env vs) a) : Own σ env a := by
  obtain ⟨j, f, m, x, y⟩ := h
  exact ⟨j, f, m, (wipeS_mut x (by intro z; cases z)).2, (wipe_at y).2⟩
/-- the slots vs come back -/
theorem wipe_over {vs : List Nat} (R : RE K σ H B e) (c : Cm K (wipe σ vs) H B (wipeS e vs) H2 B2 e2) : Cm K σ H B e H2 B2 (backS e e2 vs) := by
  have l2 : e2.length = e.length := by rw [c.re.len, wipe_length, R.len]
  -- what a hidden slot holds stands
  have hid : ∀ {j : Nat} {s : Slot} {p : Addr}, j ∈ vs → e[j]? = some s → s.mut = true → At σ j p → ¬ Own (wipe σ vs) (wipeS e vs) p := fun {j s p} hj h m x ⟨l, f, m', y, z⟩ => by
    obtain ⟨n, y⟩ := wipeS_mut y (by intro z; cases z)
    exact n (R.apart y h rfl m (wipe_at z).2 x ▸ hj)
  have cases' : ∀ {j : Nat} {s : Slot}, (backS e e2 vs)[j]? = some s → (j ∈ vs ∧ e[j]? = some s) ∨ (j ∉ vs ∧ e2[j]? = some s) := fun {j s} h => by
    by_cases z : j ∈ vs
    · rw [backS_on z l2] at h; exact .inl ⟨z, h⟩
    · rw [backS_get z] at h; exact .inr ⟨z, h⟩
  have e2m : ∀ {j : Nat} {s : Slot}, e2[j]? = some s → s.mut = true → ∃ t, (wipeS e vs)[j]? = some t ∧ t.mut = true := fun {j s} h m => by
    cases s with
    | own f m' => obtain ⟨m2, z⟩ := c.st.ow h; exact ⟨_, z, rfl⟩
    | lck f m' => exact ⟨_, c.st.lk.mp h, rfl⟩
    | un => cases m
    | dat _ => cases m
  refine ⟨R, ⟨c.st.bb, c.st.th, fun h n => c.st.fr h fun z => n (own_wipe z), fun {a o} h => ?_, fun {j f m} h => ?_, fun {j f m} => ?_⟩, ⟨c.re.sub, by rw [backS_len, c.re.len, wipe_length], fun {j x} h => ?_, fun {j f m} h => ?_, fun {j f m} h => ?_, fun {j l s t p} h1 h2 m1 m2 x1 x2 => ?_⟩⟩
  · rcases c.st.fre h with x | x | ⟨j, m, x, y⟩
    · exact .inl x
    · exact .inr (.inl x)
    · exact .inr (.inr ⟨j, m, (wipeS_mut x (by intro z; cases z)).2, (wipe_at y).2⟩)
  · rcases cases' h with ⟨_, h⟩ | ⟨_, h⟩
    · exact ⟨_, h⟩
    · obtain ⟨m2, z⟩ := c.st.ow h
      exact ⟨m2, (wipeS_mut z (by intro z; cases z)).2⟩
  · by_cases z : j ∈ vs
    · rw [backS_on z l2]
    · rw [backS_get z, c.st.lk, wipeS_get z]
  · rcases cases' h with ⟨_, h⟩ | ⟨n, h⟩
    · obtain ⟨v, x, r⟩ := R.dat h
      exact ⟨v, x, r.mono c.st.bb⟩
    · obtain ⟨v, x, r⟩ := c.re.dat h
      rw [wipe_get n] at x
      exact ⟨v, x, r⟩
  · rcases cases' h with ⟨hj, h⟩ | ⟨n, h⟩
    · obtain ⟨p, o, x, y, z, t⟩ := R.own h
      have no := hid hj h rfl x
      exact ⟨p, o, x, c.st.none z y no, c.st.fr z no, t.mono c.st.bb⟩
    · obtain ⟨p, o, x, y⟩ := c.re.own h
      exact ⟨p, o, (wipe_at x).2, y⟩
  · rcases cases' h with ⟨hj, h⟩ | ⟨n, h⟩
    · obtain ⟨p, o, x, y, z, t⟩ := R.lck h
      have no := hid hj h rfl x
      refine ⟨p, o, x, ?_, z.mono fun u hu => c.st.fr hu no, t.mono c.st.bb⟩
      rcases z.rd with z | ⟨_, z⟩
      · exact c.st.none z y no
      · exact c.st.none z y no
    · obtain ⟨p, o, x, y⟩ := c.re.lck h
      exact ⟨p, o, (wipe_at x).2, y⟩
  · have key : ∀ {j : Nat} {s : Slot}, (backS e e2 vs)[j]? = some s → s.mut = true → ∃ t, e[j]? = some t ∧ t.mut = true := fun {j s} h m => by
      rcases cases' h with ⟨_, h⟩ | ⟨n, h⟩
      · exact ⟨_, h, m⟩
      · obtain ⟨t, z, mt⟩ := e2m h m
        exact ⟨t, (wipeS_mut z (by intro w; subst w; cases mt)).2, mt⟩
    obtain ⟨_, o1, w1⟩ := key h1 m1
    obtain ⟨_, o2, w2⟩ := key h2 m2
    exact R.apart o1 o2 w1 w2 x1 x2
end
end Mi

/-! Mi11: walks; list comprehensions. -/
namespace Mi
open PySem PySem.Spec PyProof.Rows L2

section
variable {K : PySem.W.Frag} {σ σ2 : L2.St} {H B H' B' H2 B2 H0 B0 : Hp} {env env' e e2 e0 e2' : En}
abbrev NoMut (vs : List Nat) (env : En) : Prop := ∀ {j : Nat} {s : Slot}, j ∈ vs → env[j]? = some s → s.mut = false
theorem Stp.shift {vs : List Nat} (s : Stp σ H B env H' B' env') (a : ∀ {j : Nat}, j ∉ vs → σ2[j]? = σ[j]?) (b : ∀ {j : Nat}, j ∉ vs → e2[j]? = env[j]?) (c : ∀ {j : Nat}, j ∉ vs → e2'[j]? = env'[j]?)
    (n1 : NoMut vs env) (n2 : NoMut vs e2) (n3 : NoMut vs e2') : Stp σ2 H B e2 H' B' e2' where
  bb := s.bb
  th := s.th
  fr := fun h n => s.fr h fun ⟨j, f, m, x, y⟩ => by
    have nj : j ∉ vs := fun z => by have := n1 z x; cases this
    exact n ⟨j, f, m, by rw [b nj]; exact x, by show σ2[j]? = _; rw [a nj]; exact y⟩
  fre := fun h => by
    rcases s.fre h with x | x | ⟨j, m, x, y⟩
    · exact .inl x
    · exact .inr (.inl x)
    · have nj : j ∉ vs := fun z => by have := n1 z x; cases this
      exact .inr (.inr ⟨j, m, by rw [b nj]; exact x, by show σ2[j]? = _; rw [a nj]; exact y⟩)
  ow := fun {j f m} h => by
    have nj : j ∉ vs := fun z => by have := n3 z h; cases this
    rw [c nj] at h
    obtain ⟨m', h⟩ := s.ow h
    exact ⟨m', by rw [b nj]; exact h⟩
  lk := fun {j f m} => by
    by_cases z : j ∈ vs
    · constructor
      · intro h; have := n3 z h; cases this
      · intro h; have := n2 z h; cases this
    · rw [c z, b z]; exact s.lk
theorem Cm.updD (c : Cm K σ H0 B0 e0 H B e) {D : Addr} {o : HO} (n : H0 D = none) (nb : B D = none) : Cm K σ H0 B0 e0 (upd H D o) B e where
  r0 := c.r0
  st := ⟨c.st.bb, fun {a} h => by
      by_cases z : a = D
      · subst z; exact n
      · rw [upd_ne z] at h; exact c.st.th h, fun {a u} h x => by
      have z : a ≠ D := fun z => by subst z; rw [n] at h; cases h
      rw [upd_ne z]; exact c.st.fr h x, c.st.fre, c.st.ow, c.st.lk⟩
  re := {
    sub := c.re.sub.updR nb
    len := c.re.len
    dat := c.re.dat
    own := fun {j f m} h => by
      obtain ⟨p, o, x, y, z, t⟩ := c.re.own h
      refine ⟨p, o, x, y, ?_, t⟩
      rw [upd_ne fun q => ?_]; exact z
      subst q
      obtain ⟨_, w, _⟩ := c.r0.ownH (c.st.own ⟨j, f, m, h, x⟩)
      rw [n] at w
      cases w
    lck := fun {j f m} h => by
      obtain ⟨p, o, x, y, z, t⟩ := c.re.lck h
      refine ⟨p, o, x, y, z.mono fun v hv => ?_, t⟩
      rw [upd_ne fun q => ?_]; exact hv
      subst q
      exact lck_new c n h x
    apart := c.re.apart }

/-! ### what a walk gives -/
def WkOk (K : PySem.W.Frag) (B : Hp) (J : It) (xs : List D) (pin : Option (Addr × HO)) : Prop := ∀ H' B', Sub B B' → Sub B' H' → (∀ a o, pin = some (a, o) → H' a = some o) →
  (∀ (i : Nat) d, xs[i]? = some d → J.go i H' ∧ ∀ x H'', J.yld i H' x H'' → ∃ B'', Gr H' B' H'' B'' ∧ Rp K B'' x d) ∧ J.stop xs.length H'
theorem WkOk.mono {J : It} {xs : List D} {pin : Option (Addr × HO)} (h : WkOk K B J xs pin) (s : Sub B B') : WkOk K B' J xs pin := fun H' B2 s2 => h H' B2 (s.trans s2)
theorem wk_lst {a : Addr} {ds : List D} (r : Rp K B (.ref a) (.lst ds)) : WkOk K B (Itl K a) ds none := fun H' B' s1 s2 _ => by
  cases r with
  | lst ha ra =>
    have q := Evl.sq_of (K := K) (s2 _ _ (s1 _ _ ha))
    refine ⟨fun i d hd => ?_, _, q, by rw [ra.length]; exact Nat.le_refl _⟩
    obtain ⟨v, hv, rv⟩ := ra.get hd
    refine ⟨⟨_, v, q, hv⟩, fun x H'' y => ?_⟩
    obtain ⟨rfl, y⟩ := y
    have := y _ q
    rw [hv] at this
    cases this
    exact ⟨B', Gr.refl s2, rv.mono s1⟩
theorem wk_tup {a : Addr} {ds : List D} (r : Rp K B (.ref a) (.tup ds)) : WkOk K B (Itt K a) ds none := fun H' B' s1 s2 _ => by
  cases r with
  | tup _ ha ra =>
    have q := st_frz (K := K) (s2 _ _ (s1 _ _ ha))
    refine ⟨fun i d hd => ?_, _, q, by rw [ra.length]; exact Nat.le_refl _⟩
    obtain ⟨v, hv, rv⟩ := ra.get hd
    refine ⟨⟨_, v, q, hv⟩, fun x H'' y => ?_⟩
    obtain ⟨rfl, y⟩ := y
    have := y _ q
    rw [hv] at this
    cases this
    exact ⟨B', Gr.refl s2, rv.mono s1⟩
theorem wk_own {a : Addr} {vs : List V} {ds : List D} (ra : RpA K B vs ds) : WkOk K B (Itl K a) ds (some (a, .lst vs)) := fun H' B' s1 s2 hp => by
  have q := Evl.sq_of (K := K) (hp _ _ rfl)
  refine ⟨fun i d hd => ?_, _, q, by rw [ra.length]; exact Nat.le_refl _⟩
  obtain ⟨v, hv, rv⟩ := ra.get hd
  refine ⟨⟨_, v, q, hv⟩, fun x H'' y => ?_⟩
  obtain ⟨rfl, y⟩ := y
  have := y _ q
  rw [hv] at this
  cases this
  exact ⟨B', Gr.refl s2, rv.mono s1⟩
theorem range_get {n i : Nat} {lo : Int} {d : D} (h : (rangeD lo n)[i]? = some d) : i < n ∧ d = .int (lo + i) := by
  unfold rangeD at h
  rw [List.getElem?_map] at h
  rcases Nat.lt_or_ge i n with z | z
  · rw [List.getElem?_range z] at h
    cases h
    exact ⟨z, rfl⟩
  · rw [List.getElem?_eq_none (by simpa using z)] at h
    cases h
theorem wk_rng {lo : Int} {n : Nat} : WkOk K B (Itr lo n) (rangeD lo n) none := fun H' B' s1 s2 _ => by
  refine ⟨fun i d hd => ?_, by show n ≤ _; simp [rangeD]⟩
  obtain ⟨h1, rfl⟩ := range_get hd
  refine ⟨h1, fun x H'' y => ?_⟩
  obtain ⟨rfl, rfl⟩ := y
  exact ⟨B', Gr.refl s2, .int _⟩
end

/-! ### iterators -/
def LkOut (K : PySem.W.Frag) (σ : L2.St) (H B : Hp) (env : En) (H' B' : Hp) (e0 e1 : En) : Option Nat → Prop
  | none => Cm K σ H B env H' B' e1
  | some i => ∃ f m a o, Cm K σ H B env H' B' e0 ∧ e0[i]? = some (Slot.own f m) ∧ At σ i a ∧ H' a = some o ∧ e1 = e0.set i (.lck f m)
def PinOk (σ : L2.St) (H : Hp) (env : En) (pin : Option (Addr × HO)) : Prop := ∀ a o, pin = some (a, o) → H a = some o ∧ ∃ i f m, env[i]? = some (Slot.lck f m) ∧ At σ i a
def tI (K : PySem.W.Frag) (Φ : Nat → Fn) (it : E) : TI := fun σ H R => ∃ B env p e0 xs lk e1, RE K σ H B env ∧ evE Φ it env = some (p, e0) ∧ itsOf p e0 = some (xs, lk, e1) ∧
  ∀ H' B' J pin, LkOut K σ H B env H' B' e0 e1 lk → PinOk σ H' e1 pin → WkOk K B' J xs pin → R J H'
section
variable [KwTab] {nms : List Str} {X : Cx} {Φ : Nat → Fn} {k : Nat} {pos p0 : Pos} {tg l a b : Expr} {ee ea eb : E}
theorem _root_.L2.PI.imp {X : Cx} {tg e : Expr} {t t' : TI} (h : PI X tg e t) (k : ∀ σ H R, t' σ H R → t σ H R) : PI X tg e t' := ⟨fun pins s σ H R I hw => h.run pins s σ H R I (k σ H R hw)⟩
theorem _root_.L2.PI.or {X : Cx} {tg e : Expr} {t t' : TI} (h : PI X tg e t) (h' : PI X tg e t') : PI X tg e (fun σ H R => t σ H R ∨ t' σ H R) := ⟨fun pins s σ H R I hw => hw.elim (h.run pins s σ H R I) (h'.run pins s σ H R I)⟩
theorem ei_val (hl : PE X l (tE X.K Φ ee)) : PI X tg l (tI X.K Φ ee) :=
  ((pi_list hl).or (pi_tup hl)).imp fun σ H R ⟨B, env, p, e0, xs, lk, e1, R0, h1, h2, kk⟩ => by
    unfold itsOf at h2
    split at h2
    · exact .inl ⟨B, env, _, e0, R0, h1, fun v H' B' c r => r.elim⟩
    · rename_i d
      split at h2
      · rename_i ds hd
        cases h2
        unfold D.seq? at hd
        split at hd
        · cases hd
          refine .inl ⟨B, env, _, _, R0, h1, fun v H' B' c r => ?_⟩
          obtain ⟨q, ys, rfl, ha, ra⟩ := (RpS.of r).lst c.re.sub
          exact ⟨q, rfl, ⟨_, Evl.sq_of ha⟩, kk _ _ _ none c (fun _ _ z => by cases z) (wk_lst r)⟩
        · cases hd
          refine .inr ⟨B, env, _, _, R0, h1, fun v H' B' c r => ?_⟩
          obtain ⟨q, ys, rfl, ha, ra⟩ := (RpS.of r).tup c.re.sub
          exact ⟨q, rfl, ⟨_, ha⟩, kk _ _ _ none c (fun _ _ z => by cases z) (wk_tup r)⟩
        · cases hd
      · cases h2
    · rename_i ds
      cases h2
      refine .inl ⟨B, env, _, _, R0, h1, fun v H' B' c r => ?_⟩
      obtain ⟨B2, c2, s2, r2, _⟩ := fz_ok c r (rfl : fz (.new (.lst xs)) _ = some (.lst xs, _))
      obtain ⟨q, ys, rfl, ha, ra⟩ := (RpS.of r2).lst c2.re.sub
      exact ⟨q, rfl, ⟨_, Evl.sq_of ha⟩, kk _ _ _ none c2 (fun _ _ z => by cases z) (wk_lst r2)⟩
    · cases h2
    · rename_i i
      split at h2
      · rename_i f ds hi
        cases h2
        refine .inl ⟨B, env, _, _, R0, h1, fun v H' B' c r => ?_⟩
        obtain ⟨q, o, pq, nb, hq, ys, rfl, ra⟩ := c.re.own hi
        cases Option.some.inj (Option.some.inj (show some (some v) = some (some (V.ref q)) from r.symm.trans pq))
        exact ⟨q, rfl, ⟨_, Evl.sq_of hq⟩, kk _ _ _ (some (q, .lst ys)) ⟨f, _, q, _, c, hi, pq, hq, rfl⟩ (fun _ _ z => by cases z; exact ⟨hq, i, f, _, set_self (get_lt hi), pq⟩) (wk_own ra)⟩
      · rename_i f ds hi
        cases h2
        refine .inl ⟨B, env, _, _, R0, h1, fun v H' B' c r => ?_⟩
        obtain ⟨q, o, pq, nb, hq, ys, rfl, ra⟩ := c.re.lck hi
        cases Option.some.inj (Option.some.inj (show some (some v) = some (some (V.ref q)) from r.symm.trans pq))
        exact ⟨q, rfl, ⟨_, Evl.sq_of hq⟩, kk _ _ _ (some (q, .lst ys)) c (fun _ _ z => by cases z; exact ⟨hq, i, f, _, hi, pq⟩) (wk_own ra)⟩
      · rename_i d hi
        split at h2
        · rename_i ds hd
          cases h2
          unfold D.seq? at hd
          split at hd
          · cases hd
            refine .inl ⟨B, env, _, _, R0, h1, fun v H' B' c r => ?_⟩
            obtain ⟨w, pw, rw⟩ := c.re.dat hi
            cases Option.some.inj (Option.some.inj (show some (some v) = some (some w) from r.symm.trans pw))
            obtain ⟨q, ys, rfl, ha, ra⟩ := (RpS.of rw).lst c.re.sub
            exact ⟨q, rfl, ⟨_, Evl.sq_of ha⟩, kk _ _ _ none c (fun _ _ z => by cases z) (wk_lst rw)⟩
          · cases hd
            refine .inr ⟨B, env, _, _, R0, h1, fun v H' B' c r => ?_⟩
            obtain ⟨w, pw, rw⟩ := c.re.dat hi
            cases Option.some.inj (Option.some.inj (show some (some v) = some (some w) from r.symm.trans pw))
            obtain ⟨q, ys, rfl, ha, ra⟩ := (RpS.of rw).tup c.re.sub
            exact ⟨q, rfl, ⟨_, ha⟩, kk _ _ _ none c (fun _ _ z => by cases z) (wk_tup rw)⟩
          · cases hd
        · cases h2
      · cases h2
/-! ### range, enumerate, zip -/
theorem its_out {σ : L2.St} {H B : Hp} {env e1 : En} {xs ys : List D} {lk : Option Nat} {e2 : En} (h : itsOf (.its xs) e1 = some (ys, lk, e2)) : ys = xs ∧ lk = none ∧ e2 = e1 := by
  cases h; exact ⟨rfl, rfl, rfl⟩
theorem ei_rng1 {p1 : Pos} {ta : E} (g : GX nms Φ X k) (hr : Gl X "range") (ha : PE X a (tE X.K Φ ea)) (hs : starEach [a] X.env = [(false, eval a X.env)]) : PI X tg (.Call (.Name "range" p1) [a] [] pos) (tI X.K Φ (.rng (.acons ea .anil))) :=
  (pi_range1 hr (g.blt _ (by decide +kernel)) (va_cons ha va_nil (by rw [hs]; rfl)) hs).imp fun σ H R ⟨B, env, p, e0, xs, lk, e1, R0, h1, h2, kk⟩ => by
    unfold evE at h1
    split at h1
    · rename_i ps ee h3
      split at h1
      · rename_i ds hd
        split at h1
        · rename_i ys hy
          cases h1
          obtain ⟨rfl, rfl, rfl⟩ := its_out (σ := σ) (H := H) (B := B) (env := env) h2
          refine ⟨B, env, ps, _, R0, h3, fun vs H' B' c r => ?_⟩
          have rs := pks_ok c.re r.all hd
          unfold rngOf at hy
          split at hy
          · rename_i n
            split at hy
            · rename_i bd
              cases hy
              cases rs with
              | cons r1 t =>
                cases t
                exact ⟨n, by rw [r1.int], by omega, by omega, kk _ _ _ none c (fun _ _ z => by cases z) wk_rng⟩
            · cases hy
          · rename_i x y
            unfold evA at h3
            split at h3
            · unfold evA at h3
              simp only at h3
              cases h3
              cases r.all with
              | cons r1 t => cases t; cases rs with | cons _ t2 => cases t2
            · cases h3
          · cases hy
        · cases h1
      · cases h1
    · cases h1
theorem ei_rng2 {p1 : Pos} (g : GX nms Φ X k) (hr : Gl X "range") (ha : PE X a (tE X.K Φ ea)) (hb : PE X b (tE X.K Φ eb)) (hs : starEach [a, b] X.env = [(false, eval a X.env), (false, eval b X.env)]) (hs2 : starEach [b] X.env = [(false, eval b X.env)]) : PI X tg (.Call (.Name "range" p1) [a, b] [] pos) (tI X.K Φ (.rng (.acons ea (.acons eb .anil)))) :=
  (pi_range2 hr (g.blt _ (by decide +kernel)) (va_cons ha (va_cons hb va_nil (by rw [hs2]; rfl)) (by rw [hs, hs2])) hs hs2).imp fun σ H R ⟨B, env, p, e0, xs, lk, e1, R0, h1, h2, kk⟩ => by
    unfold evE at h1
    split at h1
    · rename_i ps ee h3
      split at h1
      · rename_i ds hd
        split at h1
        · rename_i ys hy
          cases h1
          obtain ⟨rfl, rfl, rfl⟩ := its_out (σ := σ) (H := H) (B := B) (env := env) h2
          refine ⟨B, env, ps, _, R0, h3, fun vs H' B' c r => ?_⟩
          have rs := pks_ok c.re r.all hd
          unfold rngOf at hy
          split at hy
          · rename_i x
            unfold evA at h3
            split at h3
            · split at h3
              · rename_i h4
                cases h3
                unfold evA at h4
                split at h4
                · unfold evA at h4
                  simp only at h4
                  cases h4
                  cases r.all with
                  | cons r1 t => cases t with | cons _ t => cases t; cases rs with | cons _ t2 => cases t2
                · cases h4
              · cases h3
            · cases h3
          · rename_i x y
            split at hy
            · rename_i bd
              cases hy
              cases rs with
              | cons r1 t =>
                cases t with
                | cons r2 t =>
                  cases t
                  exact ⟨x, y, by rw [r1.int, r2.int], by omega, kk _ _ _ none c (fun _ _ z => by cases z) wk_rng⟩
            · cases hy
          · cases hy
        · cases h1
      · cases h1
    · cases h1
theorem enum_get {ds : List D} {i : Nat} {d : D} (h : (enumD ds)[i]? = some d) : ∃ x, ds[i]? = some x ∧ d = .wtup [.int (i : Nat), x] := by
  unfold enumD at h
  rw [List.getElem?_mapIdx] at h
  cases e : ds[i]? with
  | none => rw [e] at h; cases h
  | some x => rw [e] at h; cases h; exact ⟨x, rfl, rfl⟩
theorem wk_enum {K : PySem.W.Frag} {B : Hp} {a : Addr} {ds : List D} (r : Rp K B (.ref a) (.lst ds)) : WkOk K B (Ite K a) (enumD ds) none := fun H' B' s1 s2 _ => by
  cases r with
  | lst ha ra =>
    have q := Evl.sq_of (K := K) (s2 _ _ (s1 _ _ ha))
    refine ⟨fun i d hd => ?_, _, q, by simp [enumD, ra.length]⟩
    obtain ⟨x, hx, rfl⟩ := enum_get hd
    obtain ⟨v, hv, rv⟩ := ra.get hx
    refine ⟨⟨_, v, q, hv⟩, fun y H'' yy => ?_⟩
    obtain ⟨T, w, rfl, nT, rfl, hw⟩ := yy
    have := hw _ q
    rw [hv] at this
    cases this
    exact ⟨_, Gr.new s2 nT, .wtup upd_same (.cons (.int _) (.one ((rv.mono s1).mono (Sub.new (s2.none nT)))))⟩
theorem ei_enum {p1 tpos : Pos} {elts : List Expr} {kk : Nat} (g : GX nms Φ X k) (hr : Gl X "enumerate") (ha : PE X a (tE X.K Φ ea)) (hs : starEach [a] X.env = [(false, eval a X.env)]) : PI X (.Tuple elts kk tpos) (.Call (.Name "enumerate" p1) [a] [] pos) (tI X.K Φ (.enm ea)) :=
  (pi_enum hr (g.blt _ (by decide +kernel)) (pa_cons ha pa_nil (by rw [hs]; rfl)) hs).imp fun σ H R ⟨B, env, p, e0, xs, lk, e1, R0, h1, h2, kk⟩ => by
    unfold evE at h1
    split at h1
    · rename_i q ee h3
      split at h1
      · rename_i ds ee2 hf
        cases h1
        obtain ⟨rfl, rfl, rfl⟩ := its_out (σ := σ) (H := H) (B := B) (env := env) h2
        refine ⟨B, env, q, _, R0, h3, fun v H' B' c r => ?_⟩
        obtain ⟨B2, c2, s2, r2, _⟩ := fz_ok c r hf
        obtain ⟨a, ys, rfl, hh, ra⟩ := (RpS.of r2).lst c2.re.sub
        exact ⟨a, ys, rfl, Evl.sq_of hh, kk _ _ _ none c2 (fun _ _ z => by cases z) (wk_enum r2)⟩
      · cases h1
    · cases h1
theorem zip_get {xs ys : List D} {i : Nat} {d : D} (h : (List.zipWith (fun x y => D.wtup [x, y]) xs ys)[i]? = some d) : ∃ x y, xs[i]? = some x ∧ ys[i]? = some y ∧ d = .wtup [x, y] := by
  rw [List.getElem?_zipWith] at h
  split at h
  · rename_i x y h1 h2
    cases h
    exact ⟨x, y, h1, h2, rfl⟩
  · cases h
theorem wk_zip {K : PySem.W.Frag} {B : Hp} {a b : Addr} {xs ys : List D} (r1 : Rp K B (.ref a) (.lst xs)) (r2 : Rp K B (.ref b) (.lst ys)) : WkOk K B (Itz K a b) (List.zipWith (fun x y => D.wtup [x, y]) xs ys) none := fun H' B' s1 s2 _ => by
  cases r1 with
  | lst ha ra =>
    cases r2 with
    | lst hb rb =>
      have q1 := Evl.sq_of (K := K) (s2 _ _ (s1 _ _ ha))
      have q2 := Evl.sq_of (K := K) (s2 _ _ (s1 _ _ hb))
      refine ⟨fun i d hd => ?_, _, _, q1, q2, by rw [List.length_zipWith, ra.length, rb.length]; omega⟩
      obtain ⟨x, y, hx, hy, rfl⟩ := zip_get hd
      obtain ⟨v, hv, rv⟩ := ra.get hx
      obtain ⟨w, hw, rw'⟩ := rb.get hy
      refine ⟨⟨_, _, v, w, q1, q2, hv, hw⟩, fun y H'' yy => ?_⟩
      obtain ⟨T, v', w', rfl, nT, rfl, h1, h2⟩ := yy
      have := h1 _ q1
      rw [hv] at this
      cases this
      have := h2 _ q2
      rw [hw] at this
      cases this
      exact ⟨_, Gr.new s2 nT, .wtup upd_same (.cons ((rv.mono s1).mono (Sub.new (s2.none nT))) (.one ((rw'.mono s1).mono (Sub.new (s2.none nT)))))⟩
theorem wk_zipT {K : PySem.W.Frag} {B : Hp} {a b : Addr} {xs ys : List D} (r1 : Rp K B (.ref a) (.tup xs)) (r2 : Rp K B (.ref b) (.tup ys)) : WkOk K B (RZ.ItzT K a b) (List.zipWith (fun x y => D.wtup [x, y]) xs ys) none := fun H' B' s1 s2 _ => by
  cases r1 with
  | tup _ ha ra =>
    cases r2 with
    | tup _ hb rb =>
      have q1 := st_frz (K := K) (s2 _ _ (s1 _ _ ha))
      have q2 := st_frz (K := K) (s2 _ _ (s1 _ _ hb))
      refine ⟨fun i d hd => ?_, _, _, q1, q2, by rw [List.length_zipWith, ra.length, rb.length]; omega⟩
      obtain ⟨x, y, hx, hy, rfl⟩ := zip_get hd
      obtain ⟨v, hv, rv⟩ := ra.get hx
      obtain ⟨w, hw, rw'⟩ := rb.get hy
      refine ⟨⟨_, _, v, w, q1, q2, hv, hw⟩, fun y H'' yy => ?_⟩
      obtain ⟨T, v', w', rfl, nT, rfl, h1, h2⟩ := yy
      have := h1 _ q1
      rw [hv] at this
      cases this
      have := h2 _ q2
      rw [hw] at this
      cases this
      exact ⟨_, Gr.new s2 nT, .wtup upd_same (.cons ((rv.mono s1).mono (Sub.new (s2.none nT))) (.one ((rw'.mono s1).mono (Sub.new (s2.none nT)))))⟩
theorem ei_zip {p1 tpos : Pos} {elts : List Expr} {kk : Nat} (g : GX nms Φ X k) (hr : Gl X "zip") (ha : PE X a (tE X.K Φ ea)) (hb : PE X b (tE X.K Φ eb)) (hs : starEach [a, b] X.env = (false, eval a X.env) :: starEach [b] X.env) (hs2 : starEach [b] X.env = (false, eval b X.env) :: starEach [] X.env) (hpl : (backTo pos (starEach [b] X.env)).any (·.1) = false) :
    PI X (.Tuple elts kk tpos) (.Call (.Name "zip" p1) [a, b] [] pos) (tI X.K Φ (.zip ea eb)) :=
  (RZ.pi_zipA hr (g.blt _ (by decide +kernel)) (pa_cons ha (pa_cons hb pa_nil hs2) hs) hs hpl).imp fun σ H R ⟨B, env, p, e0, xs, lk, e1, R0, h1, h2, kk⟩ => by
    unfold evE at h1
    split at h1
    · rename_i q ee h3
      split at h1
      · rename_i q2 ee2 h4
        split at h1
        · rename_i x ee3 h5
          split at h1
          · rename_i y ee4 h6
            split at h1
            · rename_i ds hz
              cases h1
              obtain ⟨rfl, rfl, rfl⟩ := its_out (σ := σ) (H := H) (B := B) (env := env) h2
              refine ⟨B, env, q, ee, R0, h3, fun v H1 B1 c1 r1 => ⟨B1, ee, q2, ee2, c1.re, h4, fun w H2 B2 c2 r2 => ?_⟩⟩
              have rr : RpPA X.K σ H H2 B2 [v, w] [q, q2] := RpPA.cons c1.r0 c1.st c2.st r1 (RpPA.cons c2.r0 c2.st Stp.refl r2 RpPA.nil)
              have hff : fzs [q, q2] ee2 = some ([x, y], e1) := by simp [fzs, h5, h6]
              obtain ⟨B4, c4, s4, r4⟩ := fzs_ok (c1.trans c2) rr hff
              cases r4 with
              | cons ra t =>
                cases t with
                | cons rb t =>
                  unfold zipOp at hz
                  split at hz
                  · cases hz
                    obtain ⟨a, xs, rfl, hx, _⟩ := (RpS.of ra).lst c4.re.sub
                    obtain ⟨b, ys, rfl, hy, _⟩ := (RpS.of rb).lst c4.re.sub
                    exact ⟨a, b, xs, ys, rfl, .inl ⟨Evl.sq_of hx, Evl.sq_of hy, kk _ _ _ none c4 (fun _ _ z => by cases z) (wk_zip ra rb)⟩⟩
                  · cases hz
                    obtain ⟨a, xs, rfl, hx, _⟩ := (RpS.of ra).tup c4.re.sub
                    obtain ⟨b, ys, rfl, hy, _⟩ := (RpS.of rb).tup c4.re.sub
                    exact ⟨a, b, xs, ys, rfl, .inr ⟨hx, hy, kk _ _ _ none c4 (fun _ _ z => by cases z) (wk_zipT ra rb)⟩⟩
                  · cases hz
            · cases h1
          · cases h1
        · cases h1
      · cases h1
    · cases h1
/-- the keys of a dict that is locked -/
theorem wk_keys {K : PySem.W.Frag} {B : Hp} {d : Addr} {od : Obj} {ws : List (Key × V)} {kvs : List (Key × D)} (hp : Paired (fun (p : Key × V) (q : Key × D) => p.1 = q.1 ∧ Rp K B p.2 q.2) ws kvs) : WkOk K B (Itk d od ws) (kvs.map fun p => keyD p.1) (some (d, .frz od (.dK ws))) := fun H' B' s1 s2 hpin => by
  have hd := hpin _ _ rfl
  have hl := paired_len hp
  refine ⟨fun i x hx => ?_, hd, by rw [List.length_map, hl]; exact Nat.le_refl _⟩
  rw [List.getElem?_map] at hx
  cases e : kvs[i]? with
  | none => rw [e] at hx; cases hx
  | some q =>
    rw [e] at hx
    cases hx
    obtain ⟨p, hp1, hp2⟩ := paired_at hp e
    refine ⟨⟨hd, get_lt hp1⟩, fun y H'' yy => ?_⟩
    obtain ⟨rfl, k, v, hk, rfl⟩ := yy
    rw [hp1] at hk
    cases hk
    refine ⟨B', Gr.refl s2, ?_⟩
    show Rp K B' (kV k) (keyD q.1)
    rw [← hp2.1]
    cases k with
    | inl i => exact .int i
    | inr x => exact .str x
end
end Mi

/-! Mi12: list comprehensions. -/
namespace Mi
open PySem PySem.Spec PyProof.Rows L2

def tCs (K : PySem.W.Frag) (Φ : Nat → Fn) (cs : E) : TT := fun σ H Q => ∃ B env b env', RE K σ H B env ∧ evC Φ cs env = some (b, env') ∧ ∀ H' B', Cm K σ H B env H' B' env' → Q b H'
/-- one turn -/
def lcF (Φ : Nat → Fn) (vs : List Nat) (tg : T) (cs elt : E) : D → En → Option (Option D × En) := fun x e => match setD tg x e with
  | some e2 => match evC Φ cs e2 with
    | some (true, e3) => match evE Φ elt e3 with
      | some (p, e4) => match fz p e4 with
        | some (d, e5) => some (some d, wipeS e5 vs)
        | none => none
      | none => none
    | some (false, e3) => some (none, wipeS e3 vs)
    | none => none
  | none => none
section
variable [KwTab] {nms : List Str} {X : Cx} {Φ : Nat → Fn} {k : Nat} {pos p0 : Pos}
theorem ec_nil : PTs X [] (tCs X.K Φ .anil) := ⟨fun pins s σ H Q I ⟨B, env, b, env', R, h, kk⟩ => pts_nil.run pins s σ H Q I (by
  cases h
  exact kk H B (Cm.refl R))⟩
theorem ec_one {c : Expr} {ec : E} (h : PT X c (tT X.K Φ ec)) : PTs X [c] (tCs X.K Φ (.acons ec .anil)) := ⟨fun pins s σ H Q I ⟨B, env, b, env', R, h1, kk⟩ => (pts_one h).run pins s σ H Q I (by
  unfold evC at h1
  split at h1
  · rename_i b' e1 h2
    cases h1
    exact ⟨B, env, b, env', R, evT_of h2, kk⟩
  · cases h1)⟩
end
section
variable {K : PySem.W.Frag} {Φ : Nat → Fn} {σ : L2.St} {H1 B1 : Hp} {e1 e2 : En} {J : It} {xs ds : List D} {pin : Option (Addr × HO)} {vs : List Nat} {tg : T} {cs elt : E} {Q : VK}
theorem lc_run (R1 : RE K σ H1 B1 e1) (hp : ∀ a o, pin = some (a, o) → H1 a = some o ∧ ¬ Own σ e1 a) (wk : WkOk K B1 J xs pin) (ht : ∀ j ∈ tg.slots, j ∈ vs) (hl : xs.length ≤ lim)
    (hgo : lcGo (lcF Φ vs tg cs elt) xs (wipeS e1 vs) = some (ds, e2)) (fin : ∀ v H' B', Cm K σ H1 B1 e1 H' B' (backS e1 e2 vs) → RpP K σ H1 H' B' v (.new (.lst ds)) → Q v H') :
    ∀ D, H1 D = none → ∃ W : Nat → Nat → Hp → Prop, (∃ m, W 0 m (upd H1 D (.lst []))) ∧ ∀ i m H, W i m H →
      (J.stop i H ∧ Q (.ref D) H) ∨ (J.go i H ∧ ∃ Nx : Hp → Prop, (∀ H', Nx H' → ∃ m', m' < m ∧ W (i + 1) m' H') ∧ ∀ x H', J.yld i H x H' → tG K tg x (wipe σ vs) H' fun σ2 H2 => wipe σ2 vs = wipe σ vs ∧ tCs K Φ cs σ2 H2 fun b H3 =>
        if b = true then tE K Φ elt σ2 H3 fun y H4 => ∃ acc, H4 D = some (.lst acc) ∧ acc.length < sizeLine ∧ Nx (upd H4 D (.lst (acc ++ [y]))) else Nx H3) := by
  intro D nD
  have Rw := R1.wipe vs
  have c0 : Cm K (wipe σ vs) H1 B1 (wipeS e1 vs) (upd H1 D (.lst [])) B1 (wipeS e1 vs) := (Cm.refl Rw).grow (Gr.newH R1.sub nD)
  refine ⟨fun i m H => m = xs.length - i ∧ i ≤ xs.length ∧ ∃ B env acc ys rest, Cm K (wipe σ vs) H1 B1 (wipeS e1 vs) H B env ∧ NoMut vs env ∧ H D = some (.lst acc) ∧ RpA K B acc ys ∧ B D = none ∧ ys.length ≤ i ∧ lcGo (lcF Φ vs tg cs elt) (xs.drop i) env = some (rest, e2) ∧ ds = ys ++ rest,
    ⟨xs.length, by simp, Nat.zero_le _, B1, wipeS e1 vs, [], [], ds, c0, fun h1 h2 => by rw [wipeS_un h1 h2]; rfl, upd_same, .nil, R1.sub.none nD, Nat.le_refl _, by simpa using hgo, rfl⟩, ?_⟩
  rintro i m H ⟨rfl, hi, B, env, acc, ys, rest, c, nm, hD, ra, nb, hy, hgo2, hds⟩
  have noD : ∀ {σ' : L2.St} {e' : En}, (∀ {a : Addr}, Own σ' e' a → Own (wipe σ vs) (wipeS e1 vs) a) → ¬ Own σ' e' D := fun h z => by
    obtain ⟨_, w, _⟩ := Rw.ownH (h z)
    rw [nD] at w
    cases w
  obtain ⟨it, stop⟩ := wk H B c.st.bb c.re.sub fun a o e => by
    obtain ⟨h1, h2⟩ := hp a o e
    exact c.st.fr h1 fun z => h2 (own_wipe z)
  rcases Nat.lt_or_ge i xs.length with lt | ge
  · have hx : xs[i]? = some xs[i] := List.getElem?_eq_getElem lt
    obtain ⟨go, yl⟩ := it i _ hx
    rw [List.drop_eq_getElem_cons lt] at hgo2
    unfold lcGo at hgo2
    split at hgo2
    · rename_i o env' hf
      split at hgo2
      · rename_i ys' e2' hgo3
        cases hgo2
        refine .inr ⟨go, fun H' => ∃ B env acc ys rest, Cm K (wipe σ vs) H1 B1 (wipeS e1 vs) H' B env ∧ NoMut vs env ∧ H' D = some (.lst acc) ∧ RpA K B acc ys ∧ B D = none ∧ ys.length ≤ i + 1 ∧ lcGo (lcF Φ vs tg cs elt) (xs.drop (i + 1)) env = some (rest, e2) ∧ ds = ys ++ rest,
          fun H' h => ⟨xs.length - (i + 1), by omega, rfl, lt, h⟩, fun x H' y => ?_⟩
        obtain ⟨B2, g, rx⟩ := yl x H' y
        unfold lcF at hf
        split at hf
        · rename_i ea ha
          have cg := c.grow g
          refine ⟨B2, env, _, ea, cg.re, rx, ha, fun σ2 R2 U2 => ?_⟩
          have el : σ2.length = σ.length := by
            have h1 := R2.len
            rw [U2.ln, cg.re.len, wipe_length] at h1
            exact h1.symm
          have ag : ∀ {j : Nat}, j ∉ vs → σ2[j]? = σ[j]? := fun {j} hj => ((U2.off fun z => hj (ht j z)).1).trans (wipe_get hj)
          have ew : wipe σ2 vs = wipe σ vs := wipe_same el fun j hj => ag hj
          have na : NoMut vs ea := fun {j s} hj hs => by
            by_cases z : j ∈ tg.slots
            · rcases U2.on z with w | ⟨d, w⟩
              · exact nm hj (w ▸ hs)
              · rw [w] at hs; cases hs; rfl
            · exact nm hj ((U2.off z).2 ▸ hs)
          have oa : ∀ {a : Addr}, Own σ2 ea a → Own (wipe σ vs) (wipeS e1 vs) a := fun {a} ⟨j, f, m, x, y⟩ => by
            obtain ⟨h1, h2⟩ := U2.mu x rfl
            exact c.st.own ⟨j, f, m, h1, by show (wipe σ vs)[j]? = _; rw [← h2]; exact y⟩
          have hD2 : H' D = some (.lst acc) := g.hh _ _ hD
          have nb2 : B2 D = none := g.out hD nb
          -- what a turn comes to
          have turn : ∀ {H4 B4 : Hp} {e5 : En}, Cm K σ2 H' B2 ea H4 B4 e5 → Cm K (wipe σ vs) H1 B1 (wipeS e1 vs) H4 B4 (wipeS e5 vs) ∧ NoMut vs (wipeS e5 vs) ∧ H4 D = some (.lst acc) ∧ B4 D = none := fun {H4 B4 e5} c5 => by
            have n5 : NoMut vs e5 := fun {j s} hj hs => by
              cases s with
              | own f m => obtain ⟨m2, z⟩ := c5.st.ow hs; have := na hj z; cases this
              | lck f m => exact na hj (c5.st.lk.mp hs)
              | un => rfl
              | dat _ => rfl
            have nw : NoMut vs (wipeS e5 vs) := fun h1 h2 => by rw [wipeS_un h1 h2]; rfl
            have st := c5.st.shift (σ2 := wipe σ vs) (vs := vs) (e2 := env) (e2' := wipeS e5 vs) (fun {j} hj => by rw [wipe_get hj, ag hj]) (fun {j} hj => (U2.off fun z => hj (ht j z)).2.symm) (fun {j} hj => wipeS_get hj) na nm nw
            have re := c5.re.wipe vs
            rw [ew] at re
            have no := noD oa
            exact ⟨cg.trans ⟨cg.re, st, re⟩, nw, c5.st.fr hD2 no, c5.st.none hD2 nb2 no⟩
          refine ⟨ew, ?_⟩
          split at hf
          · rename_i e3 h3
            split at hf
            · rename_i p e4 h4
              split at hf
              · rename_i dd e5 h5
                cases hf
                refine ⟨B2, ea, true, e3, R2, h3, fun H3 B3 c3 => ?_⟩
                refine iteT ⟨B3, e3, p, e4, c3.re, h4, fun y H4 B4 c4 r4 => ?_⟩
                obtain ⟨B5, c5, s5, r5, _⟩ := fz_ok c4 r4 h5
                obtain ⟨cT, nw, hD4, nb4⟩ := turn (c3.trans c5)
                refine ⟨acc, hD4, ?_, B5, _, acc ++ [y], ys ++ [dd], _, cT.updD nD nb4, nw, upd_same, ?_, nb4, ?_, hgo3, ?_⟩
                · have := ra.length
                  have := lim_line
                  omega
                · exact (ra.mono (g.bb.trans (c3.trans c5).st.bb)).app (.one r5)
                · rw [List.length_append]; simp; omega
                · rw [hds]; simp
              · cases hf
            · cases hf
          · rename_i e3 h3
            cases hf
            refine ⟨B2, ea, false, e3, R2, h3, fun H3 B3 c3 => ?_⟩
            obtain ⟨cT, nw, hD4, nb4⟩ := turn c3
            exact iteF ⟨B3, _, acc, ys, _, cT, nw, hD4, ra.mono (g.bb.trans c3.st.bb), nb4, by omega, hgo3, by rw [hds]; simp⟩
          · cases hf
        · cases hf
      · cases hgo2
    · cases hgo2
  · have ei : i = xs.length := by omega
    subst ei
    rw [List.drop_length] at hgo2
    cases hgo2
    refine .inl ⟨stop, fin _ _ B (wipe_over R1 c) ⟨D, _, rfl, nD, hD, nb, acc, rfl, ?_⟩⟩
    rw [hds, List.append_nil]
    exact ra
end
section
variable [KwTab] {nms : List Str} {X : Cx} {Φ : Nat → Fn} {k : Nat} {pos p0 : Pos}
def itStart (Φ : Nat → Fn) (it : E) (env : En) : Option (List D × Option Nat × En) := match dictIt it env with
  | some r => some r
  | none => match evE Φ it env with
    | some (p, e0) => itsOf p e0
    | none => none
theorem evE_lc (vs : List Nat) (tg : T) (it cs elt : E) (env : En) : evE Φ (.lc vs tg it cs elt) env = match itStart Φ it env with
    | some (xs, lk, e1) => if xs.length ≤ lim then
        match lcGo (lcF Φ vs tg cs elt) xs (wipeS e1 vs) with
        | some (ds, e2) => some (.new (.lst ds), freeS lk (backS e1 e2 vs))
        | none => none
      else none
    | none => none := rfl
theorem dictIt_some {it : E} {env : En} {r : List D × Option Nat × En} (h : dictIt it env = some r) : ∃ i f kvs, it = .var i ∧ env[i]? = some (.own f (.dK kvs)) ∧ r = (kvs.map fun p => keyD p.1, some i, env.set i (.lck f (.dK kvs))) := by
  unfold dictIt at h
  split at h
  · rename_i i
    split at h
    · rename_i f m hm
      split at h
      · rename_i ks hk
        cases h
        cases m with
        | dK kvs => cases hk; exact ⟨i, f, kvs, rfl, hm, rfl⟩
        | dT _ => cases hk
        | lst _ => cases hk
      · cases h
    · cases h
  · cases h
theorem upd_self {H : Hp} {d : Addr} {o : HO} (h : H d = some o) : upd H d o = H := by
  funext b
  by_cases e : b = d
  · subst e; rw [upd_same, h]
  · rw [upd_ne e]
/-- the reading of a comprehension -/
def rLc (X : Cx) (Φ : Nat → Fn) (vs : List Nat) (tg : T) (it cs elt : E) : TE := fun σ H Q => tLc (tI X.K Φ it) (tG X.K tg) (tCs X.K Φ cs) (tE X.K Φ elt) vs σ H Q ∨ (∃ i, it = .var i) ∧ tLockE (tLc (iKeys (tE X.K Φ it)) (tG X.K tg) (tCs X.K Φ cs) (tE X.K Φ elt) vs) σ H Q
theorem lc_sp {vs : List Nat} {tg : T} {it cs elt : E} (ht : ∀ j ∈ tg.slots, j ∈ vs) {σ : L2.St} {H : Hp} {Q : VK} (h : tE X.K Φ (.lc vs tg it cs elt) σ H Q) : rLc X Φ vs tg it cs elt σ H Q := by
  obtain ⟨B, env, p, env', R, h, kk⟩ := h
  rw [evE_lc] at h
  split at h
  · rename_i xs lk e1 hs
    split at h
    · rename_i hl
      split at h
      · rename_i ds e2 hgo
        cases h
        unfold itStart at hs
        split at hs
        · rename_i r hd
          cases hs
          obtain ⟨i, f, kvs, rfl, ei, er⟩ := dictIt_some hd
          cases er
          obtain ⟨d, o, pd, nb, hd, ws, rfl, pw⟩ := R.own ei
          refine .inr ⟨⟨i, rfl⟩, d, _, hd, trivial, fun od => ?_⟩
          have RL := lock_re R ei pd hd (w := .frz od (.dK ws)) (.inr ⟨fun ds z => (by cases z), od, rfl⟩)
          have gi := set_self (x := Slot.lck f (.dK kvs)) (get_lt ei)
          refine ⟨B, _, .slot i, _, RL, (by unfold evE; rw [gi]), fun v H' B' c r => ⟨d, od, ?_, .inl ⟨ws, ?_, ?_⟩⟩⟩
          · exact Option.some.inj (Option.some.inj (show some (some v) = some (some (V.ref d)) from r.symm.trans pd))
          · exact c.st.fr upd_same (lock_not R ei pd)
          · have wk : WkOk X.K B' (Itk d od ws) (kvs.map fun p => keyD p.1) (some (d, .frz od (.dK ws))) := wk_keys (Paired.mapP pw fun _ _ z => ⟨z.1, z.2.mono c.st.bb⟩)
            refine lc_run (Q := fun v H' => H' d = some (.frz od (.dK ws)) ∧ Q v (upd H' d (.dK ws))) c.re (fun a u e => ?_) wk ht hl hgo fun v H2 B2 c2 r2 => ?_
            · cases e
              refine ⟨c.st.fr upd_same (lock_not R ei pd), fun ⟨j, f', m', x, y⟩ => ?_⟩
              rcases set_get x with ⟨_, z⟩ | ⟨ne, x⟩
              · cases z
              · exact ne (R.apart x ei rfl rfl y pd)
            · obtain ⟨h2, c3⟩ := lock_over R ei pd hd (.inr ⟨od, rfl⟩) (c.trans c2)
              refine ⟨h2, kk _ _ _ c3 ?_⟩
              obtain ⟨a, o, rfl, n, x1, x2, x3⟩ := r2
              have n1 := c.st.th n
              have na : a ≠ d := fun z => by subst z; rw [upd_same] at n1; cases n1
              rw [upd_ne na] at n1
              exact ⟨a, o, rfl, n1, by rw [upd_ne na]; exact x1, x2, x3⟩
        · split at hs
          · rename_i p0 e0 h1
            refine .inl ⟨B, env, p0, e0, xs, lk, e1, R, h1, hs, fun H' B' J pin lo po wk => ?_⟩
            cases lk with
            | none =>
              refine lc_run (Q := Q) (Cm.re lo) (fun a o e => ?_) wk ht hl hgo fun v H2 B2 c2 r2 => kk _ _ _ (Cm.trans lo c2) (r2.sooner (Cm.st lo))
              obtain ⟨h1, i, f, m, ei, pa⟩ := po a o e
              refine ⟨h1, fun ⟨j, f', m', x, y⟩ => ?_⟩
              have := (Cm.re lo).apart x ei rfl rfl y pa
              subst this
              rw [ei] at x
              cases x
            | some i =>
              obtain ⟨f, m, a, o, c, ei, pa, ha, rfl⟩ := lo
              have RL := lock_re c.re ei pa ha (w := o) (.inl rfl)
              rw [upd_self ha] at RL
              refine lc_run (Q := Q) RL (fun b u e => ?_) wk ht hl hgo fun v H2 B2 c2 r2 => ?_
              · obtain ⟨h1, j, f', m', ej, pb⟩ := po b u e
                refine ⟨h1, fun ⟨l, f2, m2, x, y⟩ => ?_⟩
                have := RL.apart x ej rfl rfl y pb
                subst this
                rw [ej] at x
                cases x
              · obtain ⟨h2, c3⟩ := lock_over c.re ei pa ha (.inl rfl) (H2 := H2) (by rw [upd_self ha]; exact c2)
                rw [upd_self h2] at c3
                exact kk _ _ _ (c.trans c3) (r2.sooner c.st)
          · cases hs
      · cases h
    · cases h
  · cases h
theorem ev_lc {elt tg iter : Expr} {ifs : List Expr} {scope : Scope} {own : List (Str × Nat)} {et : T} {ei ec ee : E} (g : GX nms Φ X k) (hi : PI X tg iter (tI X.K Φ ei)) (hk : PE X iter (tE X.K Φ ei)) (ok : BlkOk X.N X.env.scope scope own) (ht : ∀ j ∈ et.slots, j ∈ own.map (·.2))
    (hg : ∀ (s : Shared) (H : Hp) (C : Addr) (cl : List (Str × Addr)) (fp : List Addr), PG (X.blk s H scope (compEnvC scope cl C X.env) fp) tg (tG X.K et)) (hc : ∀ (s : Shared) (H : Hp) (C : Addr) (cl : List (Str × Addr)) (fp : List Addr), PTs (X.blk s H scope (compEnvC scope cl C X.env) fp) ifs (tCs X.K Φ ec))
    (he : ∀ (s : Shared) (H : Hp) (C : Addr) (cl : List (Str × Addr)) (fp : List Addr), PE (X.blk s H scope (compEnvC scope cl C X.env) fp) elt (tE X.K Φ ee)) (hs : ∀ x, foldedSetIterable iter X.env x = pure x) :
    PE X (.ListComp elt [⟨tg, iter, ifs, 0⟩] scope pos) (tE X.K Φ (.lc (own.map (·.2)) et ei ec ee)) :=
  ((pe_lc g.calm g.nd hi ok hg hc he hs).or (pe_lock (pe_lc g.calm g.nd (pi_keys hk) ok hg hc he hs))).imp fun σ H Q h => (lc_sp ht h).imp id (·.2)
/-- .. over what no name's dict is -/
theorem ev_lc1 {elt tg iter : Expr} {ifs : List Expr} {scope : Scope} {own : List (Str × Nat)} {et : T} {ei ec ee : E} (g : GX nms Φ X k) (hi : PI X tg iter (tI X.K Φ ei)) (nv : ∀ i, ei ≠ .var i) (ok : BlkOk X.N X.env.scope scope own) (ht : ∀ j ∈ et.slots, j ∈ own.map (·.2))
    (hg : ∀ (s : Shared) (H : Hp) (C : Addr) (cl : List (Str × Addr)) (fp : List Addr), PG (X.blk s H scope (compEnvC scope cl C X.env) fp) tg (tG X.K et)) (hc : ∀ (s : Shared) (H : Hp) (C : Addr) (cl : List (Str × Addr)) (fp : List Addr), PTs (X.blk s H scope (compEnvC scope cl C X.env) fp) ifs (tCs X.K Φ ec))
    (he : ∀ (s : Shared) (H : Hp) (C : Addr) (cl : List (Str × Addr)) (fp : List Addr), PE (X.blk s H scope (compEnvC scope cl C X.env) fp) elt (tE X.K Φ ee)) (hs : ∀ x, foldedSetIterable iter X.env x = pure x) :
    PE X (.ListComp elt [⟨tg, iter, ifs, 0⟩] scope pos) (tE X.K Φ (.lc (own.map (·.2)) et ei ec ee)) :=
  (pe_lc g.calm g.nd hi ok hg hc he hs).imp fun σ H Q h => by
    rcases lc_sp ht h with h | h
    · exact h
    · exact absurd h.1.choose_spec (nv _)
end
end Mi

/-! Mi13: what statements keep. -/
namespace Mi
open PySem PySem.Spec PyProof.Rows L2

def Slot.fzb : Slot → Bool
  | .own f _ => f
  | .lck f _ => f
  | _ => true
/-- a def's body so far: H0, B0 as at the call, fs what it may write to, σ0 the slots at the call -/
structure SI (K : PySem.W.Frag) (H0 B0 : Hp) (fs : List Addr) (σ0 σ : L2.St) (H B : Hp) (env : En) : Prop where
  re : RE K σ H B env
  bb : Sub B0 B
  th : ∀ {a : Addr}, H a = none → H0 a = none
  fr : ∀ {a : Addr} {o : HO}, H0 a = some o → a ∉ fs → H a = some o
  fre : ∀ {a : Addr} {o : HO}, B a = some o → (∃ u, B0 a = some u) ∨ H0 a = none
  ow : ∀ {i : Nat} {s : Slot} {a : Addr}, env[i]? = some s → s.mut = true → At σ i a → (s.fzb = true ∧ H0 a = none) ∨ (s.fzb = false ∧ a ∈ fs)
  pk : ∀ {i : Nat} {s : Slot}, env[i]? = some s → s.mut = true → s.fzb = false → σ[i]? = σ0[i]?
/-- what is locked stays -/
structure LK (σ : L2.St) (H B : Hp) (env : En) (σ' : L2.St) (H' B' : Hp) (env' : En) : Prop where
  bb : Sub B B'
  lk : ∀ {i : Nat} {f : Bool} {m : MO}, env'[i]? = some (Slot.lck f m) ↔ env[i]? = some (Slot.lck f m)
  ls : ∀ {i : Nat} {f : Bool} {m : MO}, env[i]? = some (Slot.lck f m) → σ'[i]? = σ[i]?
  lh : ∀ {i : Nat} {f : Bool} {m : MO} {p : Addr} {o : HO}, env[i]? = some (Slot.lck f m) → At σ i p → H p = some o → H' p = some o

section
variable {K : PySem.W.Frag} {σ σ2 σ3 σ0 : L2.St} {H B H' B' H2 B2 H0 B0 : Hp} {env env' e e2 e3 : En} {fs : List Addr} {v : V} {d : D} {p : P}
theorem LK.refl : LK σ H B env σ H B env := ⟨Sub.refl _, Iff.rfl, fun _ => rfl, fun _ _ h => h⟩
theorem LK.trans (x : LK σ H B env σ2 H2 B2 e2) (y : LK σ2 H2 B2 e2 σ3 H' B' e3) : LK σ H B env σ3 H' B' e3 :=
  ⟨x.bb.trans y.bb, y.lk.trans x.lk, fun h => (y.ls (x.lk.mpr h)).trans (x.ls h), fun h a b => y.lh (x.lk.mpr h) (by rw [At, x.ls h]; exact a) (x.lh h a b)⟩
theorem lck_own (R : RE K σ H B env) {i : Nat} {f : Bool} {m : MO} {q : Addr} (h : env[i]? = some (.lck f m)) (x : At σ i q) : ¬ Own σ env q := fun ⟨j, f', m', y, z⟩ => by
  have := R.apart y h rfl rfl z x
  subst this
  rw [h] at y
  cases y
theorem LK.cm (c : Cm K σ H B env H' B' env') : LK σ H B env σ H' B' env' := ⟨c.st.bb, c.st.lk, fun _ => rfl, fun h a b => c.st.fr b (lck_own c.r0 h a)⟩
theorem SI.cm (s : SI K H0 B0 fs σ0 σ H B env) (c : Cm K σ H B env H' B' env') : SI K H0 B0 fs σ0 σ H' B' env' := by
  have back : ∀ {i : Nat} {t : Slot}, env'[i]? = some t → t.mut = true → ∃ t0, env[i]? = some t0 ∧ t0.mut = true ∧ t0.fzb = t.fzb := fun {i t} h m => by
    cases t with
    | own f m' => obtain ⟨m2, z⟩ := c.st.ow h; exact ⟨_, z, rfl, rfl⟩
    | lck f m' => exact ⟨_, c.st.lk.mp h, rfl, rfl⟩
    | un => cases m
    | dat _ => cases m
  refine ⟨c.re, s.bb.trans c.st.bb, fun h => s.th (c.st.th h), fun {a o} h n => c.st.fr (s.fr h n) fun ⟨i, f, m, x, y⟩ => ?_, fun {a o} h => ?_, fun {i t a} h m x => ?_, fun {i t} h m f => ?_⟩
  · rcases s.ow x rfl y with ⟨_, z⟩ | ⟨_, z⟩
    · rw [h] at z; cases z
    · exact n z
  · rcases c.st.fre h with ⟨u, x⟩ | x | ⟨i, m, x, y⟩
    · exact s.fre x
    · exact .inr (s.th x)
    · rcases s.ow x rfl y with ⟨_, z⟩ | ⟨z, _⟩
      · exact .inr z
      · cases z
  · obtain ⟨t0, h0, m0, e0⟩ := back h m
    rw [← e0]
    exact s.ow h0 m0 x
  · obtain ⟨t0, h0, m0, e0⟩ := back h m
    exact s.pk h0 m0 (by rw [e0]; exact f)
theorem SI.upd {vs : List Nat} (s : SI K H0 B0 fs σ0 σ H B env) (R2 : RE K σ2 H B e2) (U : Upd vs σ env σ2 e2) : SI K H0 B0 fs σ0 σ2 H B e2 ∧ LK σ H B env σ2 H B e2 := by
  refine ⟨⟨R2, s.bb, s.th, s.fr, s.fre, fun {i t a} h m x => ?_, fun {i t} h m f => ?_⟩, ⟨Sub.refl _, fun {i f m} => ⟨fun h => (U.mu h rfl).1, fun h => (U.fr h rfl).1⟩, fun h => (U.fr h rfl).2, fun _ _ h => h⟩⟩
  · obtain ⟨h1, h2⟩ := U.mu h m
    exact s.ow h1 m (by rw [At, ← h2]; exact x)
  · obtain ⟨h1, h2⟩ := U.mu h m
    rw [h2]
    exact s.pk h1 m f
theorem SI.putD {i : Nat} (s : SI K H0 B0 fs σ0 σ H B env) (h : setS i (.dat d) env = some e2) (r : Rp K B v d) : SI K H0 B0 fs σ0 (σ.set i (some v)) H B e2 ∧ LK σ H B env (σ.set i (some v)) H B e2 := by
  obtain ⟨t, h1, h2, rfl⟩ := setS_ok h
  exact s.upd (s.re.setDat (get_lt h1) r) (Upd.one h1 h2)
theorem SI.putO {i : Nat} {a : Addr} {o : HO} {m : MO} (s : SI K H0 B0 fs σ0 σ H B env) (h : setS i (.own true m) env = some e2) (ha : H a = some o) (hb : B a = none) (mo : MOk K B o m) (nw : ∀ {j : Nat} {t : Slot}, env[j]? = some t → t.mut = true → ¬ At σ j a) (n0 : H0 a = none) :
    SI K H0 B0 fs σ0 (σ.set i (some (.ref a))) H B e2 ∧ LK σ H B env (σ.set i (some (.ref a))) H B e2 := by
  obtain ⟨t, h1, h2, rfl⟩ := setS_ok h
  have self : ∀ {q : Addr}, At (σ.set i (some (.ref a))) i q → q = a := fun {q} x => by
    have y := set_self (l := σ) (x := some (V.ref a)) (i := i) (by rw [← s.re.len]; exact get_lt h1)
    rw [At, y] at x
    cases x; rfl
  have nl : ∀ {j : Nat} {f : Bool} {m : MO}, env[j]? = some (.lck f m) → j ≠ i := fun {j f m} hj z => by
    subst z
    rw [h1] at hj
    cases hj
    cases h2
  refine ⟨⟨s.re.setOwn (get_lt h1) ha hb mo nw, s.bb, s.th, s.fr, s.fre, fun {j t a'} h m x => ?_, fun {j t} h m f => ?_⟩, ⟨Sub.refl _, fun {j f m'} => ?_, fun h => set_st (nl h), fun _ _ h => h⟩⟩
  · rcases set_get h with ⟨rfl, rfl⟩ | ⟨ne, h⟩
    · cases self x; exact .inl ⟨rfl, n0⟩
    · exact s.ow h m (by rw [At, set_st ne] at x; exact x)
  · rcases set_get h with ⟨rfl, rfl⟩ | ⟨ne, h⟩
    · cases f
    · rw [set_st ne]; exact s.pk h m f
  · exact set_lk (fun f m z => absurd rfl (nl z)) (fun f m z => by cases z)
theorem SI.fresh (s : SI K H0 B0 fs σ0 σ H B env) (c : Cm K σ H B env H' B' env') {a : Addr} (n : H a = none) {j : Nat} {t : Slot} (h : env'[j]? = some t) (m : t.mut = true) : ¬ At σ j a := fun x => by
  cases t with
  | own f m' => exact new_notOwn c.r0 c.st n ⟨j, f, m', h, x⟩
  | lck f m' => exact lck_new c n h x
  | un => cases m
  | dat _ => cases m

/-! ### several at once -/
theorem rsP_ne {p q : P} {env e1 : En} (hn : ∀ m, p ≠ .new m) (h : rsP p env = some (q, e1)) : ∃ d, q = .val d ∧ fz p env = some (d, e1) := by
  cases p with
  | new m => exact absurd rfl (hn m)
  | val d => cases h; exact ⟨_, rfl, rfl⟩
  | slot i =>
    simp only [rsP] at h
    split at h
    · rename_i d ee hf
      cases h
      exact ⟨_, rfl, hf⟩
    · cases h
  | its _ => cases h
theorem rsPs_ok : ∀ {ps : List P} {vs : List V} {qs : List P} {B' : Hp} {env' env2 : En}, Cm K σ H B env H' B' env' → RpPA K σ H H' B' vs ps → rsPs ps env' = some (qs, env2) →
    ∃ B2, Cm K σ H B env H' B2 env2 ∧ Sub B' B2 ∧ RpPA K σ H H' B2 vs qs ∧ newsA vs qs = newsA vs ps ∧ ∀ {w : V} {m : MO}, RpP K σ H H' B' w (.new m) → RpP K σ H H' B2 w (.new m)
  | [], vs, qs, B', env', env2, c, h, e => by
    cases e
    exact ⟨B', c, Sub.refl _, h, rfl, fun h => h⟩
  | p :: ps, vs, qs, B', env', env2, c, h, e => by
    unfold rsPs at e
    split at e
    · rename_i q e1 h1
      split at e
      · rename_i qs2 e2 h2
        cases e
        obtain ⟨hall, hnd⟩ := h
        cases hall with
        | cons r t =>
          rename_i v vs
          by_cases hn : ∃ m, p = .new m
          · obtain ⟨m, rfl⟩ := hn
            cases h1
            have r0 := r
            obtain ⟨a, o, rfl, n, x, y, mo⟩ := r
            obtain ⟨B2, c2, s2, r2, e2, k2⟩ := rsPs_ok c ⟨t, (List.nodup_cons.mp hnd).2⟩ h2
            refine ⟨B2, c2, s2, ⟨.cons (k2 r0) r2.all, ?_⟩, ?_, k2⟩
            · show (a :: newsA vs qs2).Nodup
              rw [e2]
              exact hnd
            · show a :: newsA vs qs2 = a :: newsA vs ps
              rw [e2]
          · have hn : ∀ m, p ≠ .new m := fun m z => hn ⟨m, z⟩
            obtain ⟨d, rfl, hf⟩ := rsP_ne hn h1
            obtain ⟨B2, c2, s2, r2, k2⟩ := fz_ok c r hf
            have e0 : newsA (v :: vs) (p :: ps) = newsA vs ps := by
              cases p with
              | new m => exact absurd rfl (hn m)
              | val d => cases v <;> rfl
              | slot i => cases v <;> rfl
              | its _ => cases v <;> rfl
            rw [e0] at hnd
            have t2 : Paired (fun v p => RpP K σ H H' B2 v p) vs ps := Paired.mapP t fun _ _ z => k2 z fun a ea eb m m' ep eq => absurd ep (hn m)
            obtain ⟨B3, c3, s3, r3, e3, k3⟩ := rsPs_ok c2 ⟨t2, hnd⟩ h2
            have e4 : newsA (v :: vs) (P.val d :: qs2) = newsA vs qs2 := by cases v <;> rfl
            refine ⟨B3, c3, s2.trans s3, ⟨.cons (r2.mono s3) r3.all, by rw [e4]; exact r3.nd⟩, by rw [e4, e0]; exact e3, fun h => k3 (k2 h fun a ea eb m m' ep eq => absurd ep (hn m))⟩
      · cases e
    · cases e
def setsσ : List Nat → List V → L2.St → L2.St
  | i :: is, v :: vs, σ => setsσ is vs (σ.set i (some v))
  | _, _, σ => σ
theorem setVs_len : ∀ {is : List Nat} {qs : List P} {env e2 : En}, setVs is qs env = some e2 → is.length = qs.length
  | [], [], _, _, _ => rfl
  | [], _ :: _, _, _, h => by cases h
  | _ :: _, [], _, _, h => by cases h
  | i :: is, q :: qs, env, e2, h => by
    cases q with
    | slot j => cases h
    | its _ => cases h
    | val d =>
      simp only [setVs] at h
      split at h
      · rw [List.length_cons, List.length_cons, setVs_len h]
      · cases h
    | new m =>
      simp only [setVs] at h
      split at h
      · rw [List.length_cons, List.length_cons, setVs_len h]
      · cases h
theorem setVs_ok {σr : L2.St} : ∀ {is : List Nat} {qs : List P} {vs : List V} {σ : L2.St} {env e2 : En}, SI K H0 B0 fs σ0 σ H B env → RpPA K σr H' H B vs qs → (∀ (v : V) (i : Nat), P.slot i ∈ qs → False) → (∀ a ∈ newsA vs qs, H0 a = none ∧ ∀ {j : Nat} {t : Slot}, env[j]? = some t → t.mut = true → ¬ At σ j a) → setVs is qs env = some e2 →
    SI K H0 B0 fs σ0 (setsσ is vs σ) H B e2 ∧ LK σ H B env (setsσ is vs σ) H B e2
  | [], [], vs, σ, env, e2, s, r, _, nw, h => by
    cases h
    cases r.all
    exact ⟨s, LK.refl⟩
  | [], _ :: _, _, _, _, _, _, _, _, _, h => by cases h
  | _ :: _, [], _, _, _, _, _, _, _, _, h => by cases h
  | i :: is, q :: qs, vs, σ, env, e2, s, r, ns, nw, h => by
    obtain ⟨hall, hnd⟩ := r
    cases hall with
    | cons r t =>
      rename_i v vs
      cases q with
      | slot j => exact (ns v j List.mem_cons_self).elim
      | its _ => exact r.elim
      | val d =>
        simp only [setVs] at h
        split at h
        · rename_i e1 h1
          have e0 : newsA (v :: vs) (P.val d :: qs) = newsA vs qs := by cases v <;> rfl
          rw [e0] at hnd nw
          obtain ⟨s1, k1⟩ := s.putD h1 r
          obtain ⟨t0, g1, g2, rfl⟩ := setS_ok h1
          have U := Upd.one (σ := σ) (v := v) (d := d) g1 g2
          obtain ⟨s2, k2⟩ := setVs_ok s1 ⟨t, hnd⟩ (fun w j z => ns w j (List.mem_cons_of_mem _ z)) (fun a ha => ⟨(nw a ha).1, fun {j t} hj m x => by
            obtain ⟨w1, w2⟩ := U.mu hj m
            exact (nw a ha).2 w1 m (by rw [At, ← w2]; exact x)⟩) h
          exact ⟨s2, k1.trans k2⟩
        · cases h
      | new m =>
        simp only [setVs] at h
        split at h
        · rename_i e1 h1
          obtain ⟨a, o, rfl, n, x, y, mo⟩ := r
          obtain ⟨m1, m2⟩ := List.nodup_cons.mp hnd
          obtain ⟨w1, w2⟩ := nw a List.mem_cons_self
          obtain ⟨s1, k1⟩ := s.putO h1 x y mo w2 w1
          obtain ⟨t0, g1, g2, rfl⟩ := setS_ok h1
          obtain ⟨s2, k2⟩ := setVs_ok s1 ⟨t, m2⟩ (fun w j z => ns w j (List.mem_cons_of_mem _ z)) (fun b hb => ⟨(nw b (List.mem_cons_of_mem _ hb)).1, fun {j t} hj m x => by
            rcases set_get hj with ⟨rfl, rfl⟩ | ⟨ne, hj⟩
            · have e := set_self (l := σ) (x := some (V.ref a)) (i := j) (by rw [← s.re.len]; exact get_lt g1)
              rw [At, e] at x
              cases x
              exact m1 hb
            · rw [At, set_st ne] at x
              exact (nw b (List.mem_cons_of_mem _ hb)).2 hj m x⟩) h
          exact ⟨s2, k1.trans k2⟩
        · cases h
theorem rsPs_slot : ∀ {ps qs : List P} {env e2 : En}, rsPs ps env = some (qs, e2) → ∀ i, P.slot i ∈ qs → False
  | [], _, _, _, h, i, m => by cases h; cases m
  | p :: ps, qs, env, e2, h, i, m => by
    unfold rsPs at h
    split at h
    · rename_i q e1 h1
      split at h
      · rename_i qs2 e3 h2
        cases h
        rcases List.mem_cons.mp m with rfl | m
        · cases p with
          | new m => cases h1
          | val d => cases h1
          | slot j => simp only [rsP] at h1; split at h1 <;> cases h1
          | its _ => cases h1
        · exact rsPs_slot h2 i m
      · cases h
    · cases h
end

/-! ### the reading of a statement -/
def Fin (K : PySem.W.Frag) (H0 B0 : Hp) (fs : List Addr) (σ0 : L2.St) (D : Ends) (σ : L2.St) (H B : Hp) (env : En) : Out → Prop
  | .nx e => ∀ σ' H' B', SI K H0 B0 fs σ0 σ' H' B' e → LK σ H B env σ' H' B' e → D.nx σ' H'
  | .bk e => ∀ σ' H' B', SI K H0 B0 fs σ0 σ' H' B' e → LK σ H B env σ' H' B' e → D.bk σ' H'
  | .ct e => ∀ σ' H' B', SI K H0 B0 fs σ0 σ' H' B' e → LK σ H B env σ' H' B' e → D.ct σ' H'
  | .rt r e => ∀ v σ' H' B', SI K H0 B0 fs σ0 σ' H' B' e → LK σ H B env σ' H' B' e → RetOk K H0 H' B' v r → D.rt v H'
def tS (K : PySem.W.Frag) (Φ : Nat → Fn) (s : S) : TS := fun D σ H => ∃ H0 B0 fs σ0 B env out, SI K H0 B0 fs σ0 σ H B env ∧ evS Φ s env = some out ∧ Fin K H0 B0 fs σ0 D σ H B env out
theorem Fin.after {K : PySem.W.Frag} {H0 B0 : Hp} {fs : List Addr} {σ0 σ σ1 : L2.St} {D : Ends} {H B H1 B1 : Hp} {env e1 : En} {out : Out} (k : LK σ H B env σ1 H1 B1 e1) (h : Fin K H0 B0 fs σ0 D σ H B env out) : Fin K H0 B0 fs σ0 D σ1 H1 B1 e1 out := by
  cases out with
  | nx e => exact fun σ' H' B' s l => h σ' H' B' s (k.trans l)
  | bk e => exact fun σ' H' B' s l => h σ' H' B' s (k.trans l)
  | ct e => exact fun σ' H' B' s l => h σ' H' B' s (k.trans l)
  | rt r e => exact fun v σ' H' B' s l => h v σ' H' B' s (k.trans l)
end Mi

/-! Mi14: statements. -/
namespace Mi
open PySem PySem.Spec PyProof.Rows L2

theorem _root_.L2.PS.imp {X : Cx} {e : Stmt} {t t' : TS} (h : PS X e t) (k : ∀ D σ H, t' D σ H → t D σ H) : PS X e t' := ⟨fun pins s σ H D I hw => h.run pins s σ H D I (k D σ H hw)⟩
theorem _root_.L2.PSs.imp {X : Cx} {e : List Stmt} {t t' : TS} (h : PSs X e t) (k : ∀ D σ H, t' D σ H → t D σ H) : PSs X e t' := ⟨fun pins s σ H D I hw => h.run pins s σ H D I (k D σ H hw)⟩
theorem _root_.L2.PS.or {X : Cx} {e : Stmt} {t t' : TS} (h : PS X e t) (h' : PS X e t') : PS X e (fun D σ H => t D σ H ∨ t' D σ H) := ⟨fun pins s σ H D I hw => hw.elim (h.run pins s σ H D I) (h'.run pins s σ H D I)⟩

section
variable [KwTab] {nms : List Str} {X : Cx} {Φ : Nat → Fn} {k : Nat} {pos : Pos} {st : Stmt} {rest : List Stmt} {e : Expr} {ee : E} {a b : S}
theorem es_next {K : PySem.W.Frag} {D : Ends} {σ : L2.St} {H : Hp} (h : tS K Φ .nop D σ H) : tNext D σ H := by
  obtain ⟨H0, B0, fs, σ0, B, env, out, s, h, f⟩ := h
  cases h
  exact f σ H B s LK.refl
theorem es_nil : PSs X [] (tS X.K Φ .nop) := pss_nil.imp fun D σ H h => es_next h
theorem es_pass : PS X (.Pass pos) (tS X.K Φ .nop) := ps_pass.imp fun D σ H h => es_next h
theorem es_doc {x : Str} {j : Nat} {p' : Pos} : PS X (.Expr (.Constant (.str x) j pos) p') (tS X.K Φ .nop) := ps_doc.imp fun D σ H h => es_next h
theorem es_seq (h1 : PS X st (tS X.K Φ a)) (h2 : PSs X rest (tS X.K Φ b)) : PSs X (st :: rest) (tS X.K Φ (.seq a b)) :=
  (pss_cons h1 h2).imp fun D σ H ⟨H0, B0, fs, σ0, B, env, out, s, h, f⟩ => by
    unfold evS at h
    split at h
    · rename_i e1 h1
      exact ⟨H0, B0, fs, σ0, B, env, _, s, h1, fun σ' H' B' s' l => ⟨H0, B0, fs, σ0, B', e1, out, s', h, f.after l⟩⟩
    · rename_i hn
      refine ⟨H0, B0, fs, σ0, B, env, out, s, h, ?_⟩
      cases out with
      | nx e1 => exact absurd h (hn e1)
      | _ => exact f
theorem es_never : PS X st (tS X.K Φ .never) := ps_never.imp fun D σ H ⟨H0, B0, fs, σ0, B, env, out, s, h, f⟩ => by cases h
theorem es_nevers {sts : List Stmt} : PSs X sts (tS X.K Φ .never) := pss_never.imp fun D σ H ⟨H0, B0, fs, σ0, B, env, out, s, h, f⟩ => by cases h
theorem es_brk : PS X (.Break pos) (tS X.K Φ .brk) := ps_break.imp fun D σ H ⟨H0, B0, fs, σ0, B, env, out, s, h, f⟩ => by
  cases h
  exact f σ H B s LK.refl
theorem es_cnt : PS X (.Continue pos) (tS X.K Φ .cnt) := ps_continue.imp fun D σ H ⟨H0, B0, fs, σ0, B, env, out, s, h, f⟩ => by
  cases h
  exact f σ H B s LK.refl
theorem es_retN : PS X (.Return none pos) (tS X.K Φ .retN) := ps_retN.imp fun D σ H ⟨H0, B0, fs, σ0, B, env, out, s, h, f⟩ => by
  cases h
  exact f _ σ H B s LK.refl .non
theorem es_exp (he : PE X e (tE X.K Φ ee)) (hs : swapsWith e none pos.line X.env = pure false) : PS X (.Expr e pos) (tS X.K Φ (.exp ee)) :=
  (ps_expr he hs).imp fun D σ H ⟨H0, B0, fs, σ0, B, env, out, s, h, f⟩ => by
    unfold evS at h
    split at h
    · rename_i p e1 h1
      cases h
      exact ⟨B, env, p, e1, s.re, h1, fun v H' B' c _ => f σ H' B' (s.cm c) (LK.cm c)⟩
    · cases h
theorem RE.setUn {K : PySem.W.Frag} {σ : L2.St} {H B : Hp} {env : En} (R : RE K σ H B env) (i : Nat) : RE K σ H B (env.set i .un) where
  sub := R.sub
  len := by rw [List.length_set]; exact R.len
  dat := fun h => by
    rcases set_get h with ⟨_, e2⟩ | ⟨_, h⟩
    · cases e2
    · exact R.dat h
  own := fun h => by
    rcases set_get h with ⟨_, e2⟩ | ⟨_, h⟩
    · cases e2
    · exact R.own h
  lck := fun h => by
    rcases set_get h with ⟨_, e2⟩ | ⟨_, h⟩
    · cases e2
    · exact R.lck h
  apart := fun h1 h2 m1 m2 x1 x2 => by
    rcases set_get h1 with ⟨_, e2⟩ | ⟨_, h1⟩
    · subst e2; cases m1
    · rcases set_get h2 with ⟨_, e2⟩ | ⟨_, h2⟩
      · subst e2; cases m2
      · exact R.apart h1 h2 m1 m2 x1 x2
theorem es_ret (he : PE X e (tE X.K Φ ee)) : PS X (.Return (some e) pos) (tS X.K Φ (.ret ee)) :=
  (ps_ret he).imp fun D σ H ⟨H0, B0, fs, σ0, B, env, out, s, h, f⟩ => by
    unfold evS at h
    split at h
    · rename_i p e1 h1
      split at h
      · rename_i r e2 h2
        cases h
        refine ⟨B, env, p, e1, s.re, h1, fun v H' B' c rp => ?_⟩
        have s1 := s.cm c
        unfold retOf at h2
        split at h2
        · cases h2
          exact f v σ H' B' s1 (LK.cm c) rp
        · cases h2
          obtain ⟨a, o, e, n, x⟩ := rp
          exact f v σ H' B' s1 (LK.cm c) ⟨a, o, e, s.th n, x⟩
        · cases h2
        · rename_i i
          split at h2
          · rename_i m hi
            cases h2
            obtain ⟨a, o, pa, nb, ha, mo⟩ := s1.re.own hi
            cases Option.some.inj (Option.some.inj (show some (some v) = some (some (V.ref a)) from rp.symm.trans pa))
            have n0 : H0 a = none := by
              rcases s1.ow hi rfl pa with ⟨_, z⟩ | ⟨z, _⟩
              · exact z
              · cases z
            have hl : ∀ {j : Nat} {f : Bool} {m : MO}, (e1.set i .un)[j]? = some (Slot.lck f m) ↔ e1[j]? = some (Slot.lck f m) := set_lk (env := e1) (i := i) (s := .un) (fun f m z => by rw [hi] at z; cases z) (fun f m z => by cases z)
            have s2 : SI X.K H0 B0 fs σ0 σ H' B' (e1.set i .un) := by
              refine ⟨s1.re.setUn i, s1.bb, s1.th, s1.fr, s1.fre, fun {j t a'} h m x => ?_, fun {j t} h m f => ?_⟩
              · rcases set_get h with ⟨_, rfl⟩ | ⟨_, h⟩
                · cases m
                · exact s1.ow h m x
              · rcases set_get h with ⟨_, rfl⟩ | ⟨_, h⟩
                · cases m
                · exact s1.pk h m f
            exact f _ σ H' B' s2 ((LK.cm c).trans ⟨Sub.refl _, hl, fun _ => rfl, fun _ _ h => h⟩) ⟨a, o, rfl, n0, ha, nb, mo⟩
          · rename_i d hi
            cases h2
            obtain ⟨w, pw, r⟩ := s1.re.dat hi
            cases Option.some.inj (Option.some.inj (show some (some v) = some (some w) from rp.symm.trans pw))
            exact f v σ H' B' s1 (LK.cm c) r
          · cases h2
      · cases h
    · cases h
theorem es_ite {c : Expr} {ec : E} {p q : List Stmt} (hc : PT X c (tT X.K Φ ec)) (ha : PSs X p (tS X.K Φ a)) (hb : PSs X q (tS X.K Φ b)) : PS X (.If c p q pos) (tS X.K Φ (.ite ec a b)) :=
  (ps_if hc ha hb).imp fun D σ H ⟨H0, B0, fs, σ0, B, env, out, s, h, f⟩ => by
    unfold evS at h
    split at h
    · rename_i e1 h1
      exact ⟨B, env, true, e1, s.re, h1, fun H' B' c => iteT ⟨H0, B0, fs, σ0, B', e1, out, s.cm c, h, f.after (LK.cm c)⟩⟩
    · rename_i e1 h1
      exact ⟨B, env, false, e1, s.re, h1, fun H' B' c => iteF ⟨H0, B0, fs, σ0, B', e1, out, s.cm c, h, f.after (LK.cm c)⟩⟩
    · cases h
theorem es_whl {c : Expr} {ec : E} {p : List Stmt} (n : Nat) (hp : PassesOwn (model X.prog X.w) X.A X.env X.xe) (hc : PT X c (tT X.K Φ ec)) (ha : PSs X p (tS X.K Φ a)) : PS X (.While c p [] pos) (tS X.K Φ (.whl n ec a)) :=
  (ps_while hp hc ha).imp fun D σ H ⟨H0, B0, fs, σ0, B, env, out, s, h, f⟩ => by
    unfold evS at h
    refine ⟨fun m σ' H' => ∃ B' e', SI X.K H0 B0 fs σ0 σ' H' B' e' ∧ LK σ H B env σ' H' B' e' ∧ whlGo (evT Φ ec) (evS Φ a) m e' = some out, ⟨n, B, env, s, LK.refl, h⟩, ?_⟩
    rintro m σ1 H1 ⟨B1, e1, s1, l1, h1⟩
    cases m with
    | zero => cases h1
    | succ m =>
      unfold whlGo at h1
      split at h1
      · rename_i e2 h2
        refine ⟨B1, e1, true, e2, s1.re, h2, fun H2 B2 c2 => iteT ⟨fun σ' H' => ∃ B' e', SI X.K H0 B0 fs σ0 σ' H' B' e' ∧ LK σ H B env σ' H' B' e' ∧ whlGo (evT Φ ec) (evS Φ a) m e' = some out, fun σ' H' z => ⟨m, Nat.lt_succ_self m, z⟩, ?_⟩⟩
        have l2 := l1.trans (LK.cm c2)
        split at h1
        · rename_i e3 h3
          exact ⟨H0, B0, fs, σ0, B2, e2, _, s1.cm c2, h3, fun σ' H' B' s' l => ⟨B', e3, s', l2.trans l, h1⟩⟩
        · rename_i e3 h3
          exact ⟨H0, B0, fs, σ0, B2, e2, _, s1.cm c2, h3, fun σ' H' B' s' l => ⟨B', e3, s', l2.trans l, h1⟩⟩
        · rename_i e3 h3
          cases h1
          exact ⟨H0, B0, fs, σ0, B2, e2, _, s1.cm c2, h3, fun σ' H' B' s' l => f σ' H' B' s' (l2.trans l)⟩
        · rename_i r e3 h3
          cases h1
          exact ⟨H0, B0, fs, σ0, B2, e2, _, s1.cm c2, h3, fun v σ' H' B' s' l rr => f v σ' H' B' s' (l2.trans l) rr⟩
        · cases h1
      · rename_i e2 h2
        cases h1
        exact ⟨B1, e1, false, e2, s1.re, h2, fun H2 B2 c2 => iteF (f σ1 H2 B2 (s1.cm c2) (l1.trans (LK.cm c2)))⟩
      · cases h1

/-! ### name = e -/
theorem asg_sp {i : Nat} {D : Ends} {σ : L2.St} {H : Hp} (h : tS X.K Φ (.asg (.nm i) ee) D σ H) : tE X.K Φ ee σ H fun x H1 => D.nx (σ.set i (some x)) H1 := by
  obtain ⟨H0, B0, fs, σ0, B, env, out, s, h, f⟩ := h
  unfold evS at h
  split at h
  · rename_i p e1 h1
    split at h
    · rename_i e2 h2
      cases h
      refine ⟨B, env, p, e1, s.re, h1, fun v H' B' c rp => ?_⟩
      have s1 := s.cm c
      have other : (∀ m, p ≠ .new m) → ∃ d e', fz p e1 = some (d, e') ∧ setS i (.dat d) e' = some e2 := fun hn => by
        cases p with
        | new m => exact absurd rfl (hn m)
        | _ =>
          simp only [setP] at h2
          split at h2
          · rename_i d e' hf
            unfold setD at h2
            exact ⟨d, e', hf, h2⟩
          · cases h2
      by_cases hn : ∃ m, p = .new m
      · obtain ⟨m, rfl⟩ := hn
        simp only [setP] at h2
        obtain ⟨a, o, rfl, n, x, y, mo⟩ := rp
        obtain ⟨s2, l2⟩ := s1.putO h2 x y mo (fun hj m => s.fresh c n hj m) (s.th n)
        exact f _ H' B' s2 ((LK.cm c).trans l2)
      · obtain ⟨d, e', hf, hs⟩ := other fun m z => hn ⟨m, z⟩
        obtain ⟨B2, c2, _, r2, _⟩ := fz_ok c rp hf
        obtain ⟨s2, l2⟩ := (s.cm c2).putD hs r2
        exact f _ H' B2 s2 ((LK.cm c2).trans l2)
    · cases h
  · cases h
theorem es_set {i : Nat} {x : Str} {p' : Pos} (hN : X.N.Nodup) (hi : X.N[i]? = some x) (hx : Loc X.env.scope x) (he : PE X e (tE X.K Φ ee)) (hs : swapsWith e (some (.Name x p')) pos.line X.env = pure false) (hf : X.fn x = true ∨ X.env.scope.names.lookup x = some .local) :
    PS X (.Assign [.Name x p'] e pos) (tS X.K Φ (.asg (.nm i) ee)) := (ps_set hN hi hx he hs hf).imp fun D σ H h => asg_sp h
theorem es_setLc {i : Nat} {y : Str} {py : Pos} {elt tg iter : Expr} {ifs : List Expr} {scope : Scope} {own : List (Str × Nat)} {pos spos : Pos} {et : T} {ei ec ee : E} (g : GX nms Φ X k) (hy : X.N[i]? = some y) (hyl : X.env.scope.names.lookup y = some .local)
    (hsw : swapsWith (.ListComp elt [⟨tg, iter, ifs, 0⟩] scope pos) (some (.Name y py)) spos.line X.env = pure true) (hi : PI X tg iter (tI X.K Φ ei)) (hk : PE X iter (tE X.K Φ ei) ∨ ∀ i, ei ≠ .var i) (ok : BlkOk X.N X.env.scope scope own) (ht : ∀ j ∈ et.slots, j ∈ own.map (·.2))
    (hg : ∀ (s : Shared) (H : Hp) (C : Addr) (cl : List (Str × Addr)) (fp : List Addr), PG (X.blk s H scope (compEnvC scope cl C X.env) fp) tg (tG X.K et)) (hc : ∀ (s : Shared) (H : Hp) (C : Addr) (cl : List (Str × Addr)) (fp : List Addr), PTs (X.blk s H scope (compEnvC scope cl C X.env) fp) ifs (tCs X.K Φ ec))
    (he : ∀ (s : Shared) (H : Hp) (C : Addr) (cl : List (Str × Addr)) (fp : List Addr), PE (X.blk s H scope (compEnvC scope cl C X.env) fp) elt (tE X.K Φ ee)) (hs : ∀ x, foldedSetIterable iter X.env x = pure x) :
    PS X (.Assign [.Name y py] (.ListComp elt [⟨tg, iter, ifs, 0⟩] scope pos) spos) (tS X.K Φ (.asg (.nm i) (.lc (own.map (·.2)) et ei ec ee))) := by
  rcases hk with hk | hk
  · exact ((ps_setLc g.calm g.nd hy hyl hsw hi ok hg hc he hs).or (ps_lock (ps_setLc g.calm g.nd hy hyl hsw (pi_keys hk) ok hg hc he hs))).imp fun D σ H h => (lc_sp ht (asg_sp h)).imp id (·.2)
  · exact (ps_setLc g.calm g.nd hy hyl hsw hi ok hg hc he hs).imp fun D σ H h => by
      rcases lc_sp ht (asg_sp h) with h | h
      · exact h
      · exact absurd h.1.choose_spec (hk _)
/-- a tuple of targets -/
theorem es_asgT {tg : Expr} {ts : T} (he : PE X e (tE X.K Φ ee)) (hg : PG X tg (tG X.K (.tp ts))) (hs : swapsWithSole [tg] e pos.line X.env = pure false) (hw : swappedStores [tg] e X.env = pure none) (h1 : (assignEach [tg] X.env).map (·.2) = [assign tg X.env]) :
    PS X (.Assign [tg] e pos) (tS X.K Φ (.asg (.tp ts) ee)) :=
  (ps_asg he hg hs hw h1).imp fun D σ H ⟨H0, B0, fs, σ0, B, env, out, s, h, f⟩ => by
    unfold evS at h
    split at h
    · rename_i p e1 h1
      split at h
      · rename_i e2 h2
        cases h
        refine ⟨B, env, p, e1, s.re, h1, fun v H' B' c rp => ?_⟩
        simp only [setP] at h2
        split at h2
        · rename_i d e' hf
          obtain ⟨B2, c2, _, r2, _⟩ := fz_ok c rp hf
          refine ⟨B2, e', d, e2, c2.re, r2, h2, fun σ2 R2 U2 => ?_⟩
          obtain ⟨s2, l2⟩ := (s.cm c2).upd R2 U2
          exact f σ2 H' B2 s2 ((LK.cm c2).trans l2)
        · cases h2
      · cases h
    · cases h
/-! ### a, b = x, y -/
theorem par_sp {is : List Nat} {ees : E} {D : Ends} {σ : L2.St} {H : Hp} (h : tS X.K Φ (.par is ees) D σ H) : tA X.K Φ ees σ H fun vs H1 => vs.length = is.length ∧ D.nx (setsσ is vs σ) H1 ∧ ∀ q, H1 q = none → D.nx (setsσ is vs σ) (upd H1 q (.tup vs)) := by
  obtain ⟨H0, B0, fs, σ0, B, env, out, s, h, f⟩ := h
  unfold evS at h
  split at h
  · rename_i ps e1 h1
    split at h
    · rename_i qs e2 h2
      split at h
      · rename_i e3 h3
        cases h
        refine ⟨B, env, ps, e1, s.re, h1, fun vs H' B' c rp => ?_⟩
        obtain ⟨B2, c2, s2, r2, e4, _⟩ := rsPs_ok c rp h2
        have go : ∀ {H3 : Hp}, Cm X.K σ H B env H3 B2 e2 → RpPA X.K σ H H3 B2 vs qs → D.nx (setsσ is vs σ) H3 := fun {H3} c3 r3 => by
          obtain ⟨s3, l3⟩ := setVs_ok (s.cm c3) r3 (fun _ i z => rsPs_slot h2 i z) (fun a ha => ⟨s.th (newsA_none r3.all a ha).1, fun {j t} hj m => s.fresh c3 (newsA_none r3.all a ha).1 hj m⟩) h3
          exact f _ H3 B2 s3 ((LK.cm c3).trans l3)
        refine ⟨by rw [setVs_len h3]; exact paired_len r2.all, go c2 r2, fun q nq => ?_⟩
        have g := Gr.newH c2.re.sub nq (o := .tup vs)
        refine go (c2.grow g) ⟨Paired.mapP r2.all fun v p z => ?_, r2.nd⟩
        cases p with
        | val d => exact z
        | slot i => exact z
        | its _ => exact z
        | new m =>
          obtain ⟨a, o, e, n, x, y⟩ := z
          exact ⟨a, o, e, n, g.hh _ _ x, y⟩
      · cases h
    · cases h
  · cases h
theorem es_par2 {i j : Nat} {x y : Str} {a b : Expr} {ees : E} {px py pt : Pos} {kt k2 pt2} (hc : X.calm = true) (hN : X.N.Nodup) (hi : X.N[i]? = some x) (hj : X.N[j]? = some y) (hij : i ≠ j)
    (hx : X.env.scope.names.lookup x = some .local) (hy : X.env.scope.names.lookup y = some .local) (ha : PA X [a, b] (tA X.K Φ ees))
    (hw : swappedStores [.Tuple [.Name x px, .Name y py] kt pt] (.Tuple [a, b] k2 pt2) X.env = pure (some [x, y]))
    (hs : swapsWithSole [.Tuple [.Name x px, .Name y py] kt pt] (.Tuple [a, b] k2 pt2) pos.line X.env = pure false) :
    PS X (.Assign [.Tuple [.Name x px, .Name y py] kt pt] (.Tuple [a, b] k2 pt2) pos) (tS X.K Φ (.par [i, j] ees)) :=
  (ps_par hc hN hi hj hij hx hy ha hw hs).imp fun D σ H h => by
    obtain ⟨B, env, ps, e1, R, h1, kk⟩ := par_sp h
    refine ⟨B, env, ps, e1, R, h1, fun vs H' B' c r => ?_⟩
    obtain ⟨l, q, _⟩ := kk vs H' B' c r
    rcases vs with _ | ⟨v, _ | ⟨w, _ | ⟨u, vs⟩⟩⟩
    · cases l
    · cases l
    · exact ⟨v, w, rfl, q⟩
    · cases l
theorem es_par3 {i j l : Nat} {x y z : Str} {a b c : Expr} {ees : E} {px py pz pt pos : Pos} {kt k2 pt2} (hc : X.calm = true) (hN : X.N.Nodup) (hi : X.N[i]? = some x) (hj : X.N[j]? = some y) (hl : X.N[l]? = some z) (hij : i ≠ j) (hil : i ≠ l) (hjl : j ≠ l)
    (hx : X.env.scope.names.lookup x = some .local) (hy : X.env.scope.names.lookup y = some .local) (hz : X.env.scope.names.lookup z = some .local) (ha : PA X [a, b, c] (tA X.K Φ ees))
    (hw : swappedStores [.Tuple [.Name x px, .Name y py, .Name z pz] kt pt] (.Tuple [a, b, c] k2 pt2) X.env = pure (some [x, y, z]))
    (hs : swapsWithSole [.Tuple [.Name x px, .Name y py, .Name z pz] kt pt] (.Tuple [a, b, c] k2 pt2) pos.line X.env = pure false) :
    PS X (.Assign [.Tuple [.Name x px, .Name y py, .Name z pz] kt pt] (.Tuple [a, b, c] k2 pt2) pos) (tS X.K Φ (.par [i, j, l] ees)) :=
  (L2.ps_par3 hc hN hi hj hl hij hil hjl hx hy hz ha hw hs).imp fun D σ H h => by
    obtain ⟨B, env, ps, e1, R, h1, kk⟩ := par_sp h
    refine ⟨B, env, ps, e1, R, h1, fun vs H' B' c r => ?_⟩
    obtain ⟨l, q, _⟩ := kk vs H' B' c r
    rcases vs with _ | ⟨v, _ | ⟨w, _ | ⟨u, _ | ⟨t, vs⟩⟩⟩⟩
    · cases l
    · cases l
    · cases l
    · exact ⟨v, w, u, rfl, q⟩
    · cases l
/-- stored through a tuple -/
def gNames : List Nat → TGs
  | [] => gNil
  | i :: is => gCons (gName i) (gNames is)
theorem gNames_ok {Q : L2.St → Hp → Prop} {H : Hp} : ∀ {is : List Nat} {vs : List V} {σ : L2.St}, vs.length = is.length → Q (setsσ is vs σ) H → gNames is vs σ H Q
  | [], [], σ, _, h => ⟨rfl, h⟩
  | i :: is, v :: vs, σ, hl, h => ⟨v, vs, rfl, gNames_ok (by simpa using hl) h⟩
  | [], _ :: _, _, hl, _ => by cases hl
  | _ :: _, [], _, hl, _ => by cases hl
theorem es_parG {es : List Expr} {ts : List Expr} {is : List Nat} {ees : E} {k2 k3 : Nat} {pt pt2 : Pos} (hc : X.calm = true) (ha : PA X es (tA X.K Φ ees)) (hg : PGs X ts (gNames is)) (hn : (assignEach ts X.env).length = is.length) (hst : (assignEach ts X.env).findIdx? (·.1) = none)
    (hz : is.length ≤ lim) (hs : swapsWithSole [.Tuple ts k3 pt] (.Tuple es k2 pt2) pos.line X.env = pure false) (hw : swappedStores [.Tuple ts k3 pt] (.Tuple es k2 pt2) X.env = pure none) (h1 : (assignEach [.Tuple ts k3 pt] X.env).map (·.2) = [assign (.Tuple ts k3 pt) X.env]) :
    PS X (.Assign [.Tuple ts k3 pt] (.Tuple es k2 pt2) pos) (tS X.K Φ (.par is ees)) :=
  (ps_asg (pe_tup ha) (pg_tup hc hg hn hst) hs hw h1).imp fun D σ H h => by
    obtain ⟨B, env, ps, e1, R, h1, kk⟩ := par_sp h
    refine ⟨B, env, ps, e1, R, h1, fun vs H' B' c r => ?_⟩
    obtain ⟨l, _, q⟩ := kk vs H' B' c r
    refine ⟨by rw [l]; exact lim_le hz, fun p np => ⟨p, vs, rfl, Evl.st_of upd_same, l, gNames_ok l (q p np)⟩⟩

/-! ### o[i] = v -/
theorem putK_rel {κ : Type} [DecidableEq κ] {K : PySem.W.Frag} {B : Hp} {ws : List (κ × V)} {kvs : List (κ × D)} (h : Paired (fun (p : κ × V) (q : κ × D) => p.1 = q.1 ∧ Rp K B p.2 q.2) ws kvs) (x : κ) {v : V} {d : D} (r : Rp K B v d) :
    Paired (fun (p : κ × V) (q : κ × D) => p.1 = q.1 ∧ Rp K B p.2 q.2) (putK ws x v) (putD kvs x d) := by
  have ha : ∀ {ws : List (κ × V)} {kvs : List (κ × D)}, Paired (fun (p : κ × V) (q : κ × D) => p.1 = q.1 ∧ Rp K B p.2 q.2) ws kvs → (ws.any fun kv => decide (kv.1 = x)) = (kvs.any fun kv => decide (kv.1 = x)) := by
    intro ws kvs h
    induction h with
    | nil => rfl
    | cons z t ih => simp only [List.any_cons]; rw [ih, z.1]
  have hm : ∀ {ws : List (κ × V)} {kvs : List (κ × D)}, Paired (fun (p : κ × V) (q : κ × D) => p.1 = q.1 ∧ Rp K B p.2 q.2) ws kvs → Paired (fun (p : κ × V) (q : κ × D) => p.1 = q.1 ∧ Rp K B p.2 q.2) (ws.map fun kv => if kv.1 = x then (kv.1, v) else kv) (kvs.map fun kv => if kv.1 = x then (kv.1, d) else kv) := by
    intro ws kvs h
    induction h with
    | nil => exact .nil
    | cons z t ih =>
      refine .cons ?_ ih
      rename_i a b _ _
      show (if a.1 = x then (a.1, v) else a).1 = (if _ = x then (_, d) else _).1 ∧ Rp K B (if a.1 = x then (a.1, v) else a).2 (if _ = x then (_, d) else _).2
      by_cases e : a.1 = x
      · rw [if_pos e, if_pos (by rw [← z.1]; exact e)]
        exact ⟨z.1, r⟩
      · rw [if_neg e, if_neg (by rw [← z.1]; exact e)]
        exact z
  have hap : ∀ {ws : List (κ × V)} {kvs : List (κ × D)}, Paired (fun (p : κ × V) (q : κ × D) => p.1 = q.1 ∧ Rp K B p.2 q.2) ws kvs → Paired (fun (p : κ × V) (q : κ × D) => p.1 = q.1 ∧ Rp K B p.2 q.2) (ws ++ [(x, v)]) (kvs ++ [(x, d)]) := by
    intro ws kvs h
    induction h with
    | nil => exact .cons ⟨rfl, r⟩ .nil
    | cons z t ih => exact .cons z ih
  unfold putK putD
  rw [ha h]
  split
  · exact hm h
  · exact hap h
theorem es_put {o i v : Expr} {eo ei ev : E} {p' : Pos} (hu : X.A.units + 65 < cLine) (ho : PE X o (tE X.K Φ eo)) (hi : PE X i (tE X.K Φ ei)) (hv : PE X v (tE X.K Φ ev))
    (ha : ∀ w, assign (.Subscript o i p') X.env w = (do
      let ov ← holding [w] (eval o X.env)
      let iv ← holding [w, ov] (eval i X.env)
      standAt p'
      holding [w, ov, iv] (setItem ov iv w)
      release [w, ov, iv] []))
    (hs : swapsWithSole [.Subscript o i p'] v pos.line X.env = pure false) (hw : swappedStores [.Subscript o i p'] v X.env = pure none) (h1 : (assignEach [.Subscript o i p'] X.env).map (·.2) = [assign (.Subscript o i p') X.env]) (hs2 : swapsWith v (some (.Subscript o i p')) pos.line X.env = pure false) :
    PS X (.Assign [.Subscript o i p'] v pos) (tS X.K Φ (.put eo ei ev)) :=
  ((ps_asg hv (pg_sub ho hi set_list ha) hs hw h1).or (ps_dput (by omega) ho hi hv hs2)).imp fun D σ H ⟨H0, B0, fs, σ0, B, env, out, s, h, f⟩ => by
    unfold evS at h
    split at h
    · rename_i pv e1 h1
      split at h
      · rename_i sl e2 h2
        split at h
        · rename_i ky e3 h3
          split at h
          · rename_i d e4 h4
            split at h
            · rename_i fz0 m hm
              split at h
              · rename_i m' hp
                cases h
                have fin : ∀ {H3 B4 : Hp} {a : Addr} {o' : HO}, Cm X.K σ H B env H3 B4 e4 → At σ sl a → MOk X.K B4 o' m' → D.nx σ (upd H3 a o') := fun {H3 B4 a o'} c pa mo =>
                  f σ _ B4 (s.cm (own_write c hm pa mo)) (LK.cm (own_write c hm pa mo))
                cases m with
                | lst ds =>
                  refine .inl ⟨B, env, pv, e1, s.re, h1, fun v H1 B1 c1 r1 => ⟨B1, e1, _, e2, c1.re, h2, fun w H2 B2 c2 r2 => ⟨B2, e2, _, e3, c2.re, h3, fun u H3 B3 c3 r3 => ?_⟩⟩⟩
                  have r1' := (r1.later c1.r0 c1.st c2.st).later c1.r0 (c1.trans c2).st c3.st
                  obtain ⟨B4, c4, s4, r4, _⟩ := fz_ok ((c1.trans c2).trans c3) r1' h4
                  obtain ⟨a, ob, pa, nb, ha, xs, rfl, ra⟩ := c4.re.own hm
                  cases Option.some.inj (Option.some.inj (show some (some w) = some (some (V.ref a)) from r2.symm.trans pa))
                  unfold putAt at hp
                  split at hp
                  · rename_i ds' n e
                    cases e
                    split at hp
                    · rename_i bd
                      cases hp
                      cases r3
                      refine ⟨a, xs, n, n.toNat, rfl, rfl, ha, ?_, fin c4 pa ⟨_, rfl, ra.set r4 _⟩⟩
                      have hl := ra.length
                      unfold ixN
                      rw [hl, if_pos (by omega), if_pos (by omega)]
                    · cases hp
                  · rename_i e; cases e
                  · rename_i e; cases e
                  · cases hp
                | dK kvs =>
                  refine .inr ⟨B, env, pv, e1, s.re, h1, fun v H1 B1 c1 r1 => ⟨B1, e1, _, e2, c1.re, h2, fun w H2 B2 c2 r2 => ⟨B2, e2, _, e3, c2.re, h3, fun u H3 B3 c3 r3 => ?_⟩⟩⟩
                  have r1' := (r1.later c1.r0 c1.st c2.st).later c1.r0 (c1.trans c2).st c3.st
                  obtain ⟨B4, c4, s4, r4, _⟩ := fz_ok ((c1.trans c2).trans c3) r1' h4
                  obtain ⟨a, ob, pa, nb, ha, xs, rfl, ra⟩ := c4.re.own hm
                  cases Option.some.inj (Option.some.inj (show some (some w) = some (some (V.ref a)) from r2.symm.trans pa))
                  have hl := paired_len ra
                  cases ky <;> simp only [putAt, dput, reduceCtorEq] at hp
                  · split at hp
                    · rename_i bd
                      cases hp
                      cases r3
                      exact ⟨a, _, rfl, DPut.k (k := .inl _) ha (by rw [hl]; exact Nat.lt_of_lt_of_le bd lim_line), fin c4 pa ⟨_, rfl, putK_rel ra _ r4⟩⟩
                    · cases hp
                  · split at hp
                    · rename_i bd
                      cases hp
                      cases r3
                      exact ⟨a, _, rfl, DPut.k (k := .inr _) ha (by rw [hl]; exact Nat.lt_of_lt_of_le bd lim_line), fin c4 pa ⟨_, rfl, putK_rel ra _ r4⟩⟩
                    · cases hp
                | dT kvs =>
                  refine .inr ⟨B, env, pv, e1, s.re, h1, fun v H1 B1 c1 r1 => ⟨B1, e1, _, e2, c1.re, h2, fun w H2 B2 c2 r2 => ⟨B2, e2, _, e3, c2.re, h3, fun u H3 B3 c3 r3 => ?_⟩⟩⟩
                  have r1' := (r1.later c1.r0 c1.st c2.st).later c1.r0 (c1.trans c2).st c3.st
                  obtain ⟨B4, c4, s4, r4, _⟩ := fz_ok ((c1.trans c2).trans c3) r1' h4
                  obtain ⟨a, ob, pa, nb, ha, xs, rfl, ra⟩ := c4.re.own hm
                  cases Option.some.inj (Option.some.inj (show some (some w) = some (some (V.ref a)) from r2.symm.trans pa))
                  have hl := paired_len ra
                  cases ky <;> simp only [putAt, dput, reduceCtorEq] at hp
                  split at hp
                  · rename_i kk hk
                    split at hp
                    · rename_i bd
                      cases hp
                      cases r3 with
                      | wtup hb rb =>
                        have e := keysOf_rel hk rb
                        subst e
                        exact ⟨a, _, rfl, DPut.t ha (c3.re.sub _ _ hb) (by rw [hl]; exact Nat.lt_of_lt_of_le bd lim_line), fin c4 pa ⟨_, rfl, putK_rel ra _ r4⟩⟩
                    · cases hp
                  · cases hp
              · cases h
            · cases h
          · cases h
        · cases h
      · cases h
    · cases h
/-! ### names let go -/
theorem RE.wipeE {K : PySem.W.Frag} {σ : L2.St} {H B : Hp} {env : En} (R : RE K σ H B env) (vs : List Nat) : RE K σ H B (wipeS env vs) where
  sub := R.sub
  len := by rw [wipeS_len]; exact R.len
  dat := fun {j x} h => R.dat (wipeS_mut h (by intro z; cases z)).2
  own := fun {j f m} h => R.own (wipeS_mut h (by intro z; cases z)).2
  lck := fun {j f m} h => R.lck (wipeS_mut h (by intro z; cases z)).2
  apart := fun {j l s t p} h1 h2 m1 m2 x1 x2 => R.apart (wipeS_mut h1 (by intro z; subst z; cases m1)).2 (wipeS_mut h2 (by intro z; subst z; cases m2)).2 m1 m2 x1 x2
theorem SI.wipeE {K : PySem.W.Frag} {H0 B0 : Hp} {fs : List Addr} {σ0 σ : L2.St} {H B : Hp} {env : En} (s : SI K H0 B0 fs σ0 σ H B env) (vs : List Nat) : SI K H0 B0 fs σ0 σ H B (wipeS env vs) :=
  ⟨s.re.wipeE vs, s.bb, s.th, s.fr, s.fre, fun {i t a} h m x => s.ow (wipeS_mut h (by intro z; subst z; cases m)).2 m x, fun {i t} h m f => s.pk (wipeS_mut h (by intro z; subst z; cases m)).2 m f⟩
theorem LK.wipeE {σ σ' : L2.St} {H B H' B' : Hp} {env e : En} {vs : List Nat} (l : LK σ H B env σ' H' B' e) (h : wipeOk e vs = true) : LK σ H B env σ' H' B' (wipeS e vs) := by
  refine ⟨l.bb, fun {i f m} => ?_, l.ls, l.lh⟩
  rw [← l.lk]
  by_cases z : i ∈ vs
  · have h1 := List.all_eq_true.mp h i z
    constructor
    · intro g
      have := wipeS_un z g
      cases this
    · intro g
      rw [g] at h1
      cases h1
  · rw [wipeS_get z]
theorem ts_wipe {K : PySem.W.Frag} {vs : List Nat} {D : Ends} {σ : L2.St} {H : Hp} (h : tS K Φ (.seq a (.wipe vs)) D σ H) : tS K Φ a D σ H := by
  obtain ⟨H0, B0, fs, σ0, B, env, out, s, h, f⟩ := h
  unfold evS at h
  split at h
  · rename_i e1 h1
    unfold evS at h
    split at h
    · rename_i hw
      cases h
      exact ⟨H0, B0, fs, σ0, B, env, _, s, h1, fun σ' H' B' s' l => f σ' H' B' (s'.wipeE vs) (l.wipeE hw)⟩
    · cases h
  · rename_i hn
    exact ⟨H0, B0, fs, σ0, B, env, out, s, h, f⟩
def wp (a : S) (vs : List Nat) : S := if vs.isEmpty then a else .seq a (.wipe vs)
theorem ts_wp {K : PySem.W.Frag} {vs : List Nat} {D : Ends} {σ : L2.St} {H : Hp} (h : tS K Φ (wp a vs) D σ H) : tS K Φ a D σ H := by
  unfold wp at h
  split at h
  · exact h
  · exact ts_wipe h
end
end Mi

/-! Mi15: for. -/
namespace Mi
open PySem PySem.Spec PyProof.Rows L2

section
variable {K : PySem.W.Frag} {Φ : Nat → Fn} {σ σ2 σ0 : L2.St} {H B H' B' H2 B2 H0 B0 : Hp} {env e e2 : En} {fs : List Addr} {i : Nat} {f : Bool} {m : MO} {d : Addr} {u w : HO}
theorem si_nd (s : SI K H0 B0 fs σ0 σ H B e) (ei : e[i]? = some (.own f m) ∨ e[i]? = some (.lck f m)) (pd : At σ i d) : H0 d = none ∨ d ∈ fs := by
  rcases ei with ei | ei
  · rcases s.ow ei rfl pd with ⟨_, z⟩ | ⟨_, z⟩
    · exact .inl z
    · exact .inr z
  · rcases s.ow ei rfl pd with ⟨_, z⟩ | ⟨_, z⟩
    · exact .inl z
    · exact .inr z
theorem si_lock (s : SI K H0 B0 fs σ0 σ H B e) (ei : e[i]? = some (.own f m)) (pd : At σ i d) (hd : H d = some u) (hw : w = u ∨ ((∀ ds, m ≠ .lst ds) ∧ ∃ od, w = .frz od u)) : SI K H0 B0 fs σ0 σ (upd H d w) B (e.set i (.lck f m)) := by
  refine ⟨lock_re s.re ei pd hd hw, s.bb, fun {a} h => ?_, fun {a o} h n => ?_, s.fre, fun {j t a} h m x => ?_, fun {j t} h m' g => ?_⟩
  · have ne : a ≠ d := fun z => by subst z; rw [upd_same] at h; cases h
    rw [upd_ne ne] at h
    exact s.th h
  · have ne : a ≠ d := fun z => by
      subst z
      rcases si_nd s (.inl ei) pd with z | z
      · rw [z] at h; cases h
      · exact n z
    rw [upd_ne ne]
    exact s.fr h n
  · rcases set_get h with ⟨rfl, rfl⟩ | ⟨_, h⟩
    · have z := s.ow ei rfl x
      exact z
    · exact s.ow h m x
  · rcases set_get h with ⟨rfl, rfl⟩ | ⟨_, h⟩
    · have z := s.pk ei rfl g
      exact z
    · exact s.pk h m' g
theorem si_unlock (s : SI K H0 B0 fs σ0 σ H B e) (ei : e[i]? = some (.lck f m)) (pd : At σ i d) (hd : H d = some w) (hw : w = u ∨ ∃ od, w = .frz od u) (nf : ∀ od x, u ≠ .frz od x) : SI K H0 B0 fs σ0 σ (upd H d u) B (e.set i (.own f m)) := by
  have mo : MOk K B u m := by
    obtain ⟨q, o, pq, nb, hq, mo⟩ := s.re.lck ei
    cases At.eq pd pq
    have ou : o = u ∨ ∃ od x, o = .frz od x := by
      rcases hq.rd with z | ⟨y, z⟩
      · rw [hd] at z
        cases z
        rcases hw with rfl | ⟨od, rfl⟩
        · exact .inl rfl
        · exact .inr ⟨od, u, rfl⟩
      · rw [hd] at z
        cases z
        rcases hw with z | ⟨od, z⟩
        · exact absurd z.symm (nf _ _)
        · cases z; exact .inl rfl
    rcases ou with rfl | ⟨od, x, rfl⟩
    · exact mo
    · cases m with
      | lst _ => obtain ⟨_, w, _⟩ := mo; cases w
      | dK _ => obtain ⟨_, w, _⟩ := mo; cases w
      | dT _ => obtain ⟨_, w, _⟩ := mo; cases w
  refine ⟨free_re s.re ei pd hd hw mo, s.bb, fun {a} h => ?_, fun {a o} h n => ?_, s.fre, fun {j t a} h m x => ?_, fun {j t} h m' g => ?_⟩
  · have ne : a ≠ d := fun z => by subst z; rw [upd_same] at h; cases h
    rw [upd_ne ne] at h
    exact s.th h
  · have ne : a ≠ d := fun z => by
      subst z
      rcases si_nd s (.inr ei) pd with z | z
      · rw [z] at h; cases h
      · exact n z
    rw [upd_ne ne]
    exact s.fr h n
  · rcases set_get h with ⟨rfl, rfl⟩ | ⟨_, h⟩
    · have z := s.ow ei rfl x
      exact z
    · exact s.ow h m x
  · rcases set_get h with ⟨rfl, rfl⟩ | ⟨_, h⟩
    · have z := s.pk ei rfl g
      exact z
    · exact s.pk h m' g
theorem lk_unlock {σ' : L2.St} (R : RE K σ H B e) (ei : e[i]? = some (.own f m)) (pd : At σ i d) (l : LK σ (upd H d w) B (e.set i (.lck f m)) σ' H' B' e2) : H' d = some w ∧ At σ' i d ∧ e2[i]? = some (.lck f m) ∧ freeS (some i) e2 = e2.set i (.own f m) ∧ LK σ H B e σ' (upd H' d u) B' (e2.set i (.own f m)) := by
  have gi := set_self (x := Slot.lck f m) (get_lt ei)
  have ei2 := l.lk.mpr gi
  refine ⟨l.lh gi pd upd_same, by rw [At, l.ls gi]; exact pd, ei2, by unfold freeS; simp only [ei2], l.bb, fun {j f' m'} => ?_, fun {j f' m'} h => ?_, fun {j f' m' p o} h x y => ?_⟩
  · by_cases z : j = i
    · subst z
      rw [set_self (get_lt ei2), ei]
    · rw [List.getElem?_set_ne (Ne.symm z), l.lk, List.getElem?_set_ne (Ne.symm z)]
  · have ne : j ≠ i := fun z => by subst z; rw [ei] at h; cases h
    exact l.ls (by rw [List.getElem?_set_ne (Ne.symm ne)]; exact h)
  · have ne : j ≠ i := fun z => by subst z; rw [ei] at h; cases h
    have np : p ≠ d := fun z => by subst z; exact ne (R.apart h ei rfl rfl x pd)
    rw [upd_ne np]
    exact l.lh (by rw [List.getElem?_set_ne (Ne.symm ne)]; exact h) x (by rw [upd_ne np]; exact y)
def forF (Φ : Nat → Fn) (t : T) (b : S) : D → En → Option Out := fun x e => match setD t x e with
  | some e2 => evS Φ b e2
  | none => none
theorem forGo_out {g : D → En → Option Out} : ∀ {xs : List D} {env : En} {out : Out}, forGo g xs env = some out → (∃ e, out = .nx e) ∨ ∃ r e, out = .rt r e
  | [], _, _, h => by cases h; exact .inl ⟨_, rfl⟩
  | x :: xs, env, out, h => by
    unfold forGo at h
    split at h
    · exact forGo_out h
    · exact forGo_out h
    · cases h; exact .inl ⟨_, rfl⟩
    · cases h; exact .inr ⟨_, _, rfl⟩
    · cases h
theorem for_run {σ1 : L2.St} {H1 B1 : Hp} {e1 : En} {J : It} {xs : List D} {pin : Option (Addr × HO)} {t : T} {b : S} {out : Out} {D : Ends} (s1 : SI K H0 B0 fs σ0 σ1 H1 B1 e1) (po : PinOk σ1 H1 e1 pin) (wk : WkOk K B1 J xs pin)
    (hgo : forGo (forF Φ t b) xs e1 = some out) (fin : Fin K H0 B0 fs σ0 D σ1 H1 B1 e1 out) :
    ∃ W : Nat → Nat → L2.St → Hp → Prop, (∃ m, W 0 m σ1 H1) ∧ ∀ i m σ H, W i m σ H → (J.stop i H ∧ D.nx σ H) ∨ (J.go i H ∧ ∃ N : L2.St → Hp → Prop, (∀ σ' H', N σ' H' → ∃ m', m' < m ∧ W (i + 1) m' σ' H') ∧
      ∀ x H', J.yld i H x H' → tG K t x σ H' fun σ2 H2 => tS K Φ b { D with nx := N, ct := N, bk := D.nx } σ2 H2) := by
  refine ⟨fun i m σ H => m = xs.length - i ∧ i ≤ xs.length ∧ ∃ B e, SI K H0 B0 fs σ0 σ H B e ∧ LK σ1 H1 B1 e1 σ H B e ∧ forGo (forF Φ t b) (xs.drop i) e = some out, ⟨xs.length, by simp, Nat.zero_le _, B1, e1, s1, LK.refl, by simpa using hgo⟩, ?_⟩
  rintro i m σ H ⟨rfl, hi, B, e, s, l, hgo2⟩
  obtain ⟨it, stop⟩ := wk H B l.bb s.re.sub fun a o z => by
    obtain ⟨h1, i, f, m, h2, h3⟩ := po a o z
    exact l.lh h2 h3 h1
  rcases Nat.lt_or_ge i xs.length with lt | ge
  · obtain ⟨go, yl⟩ := it i _ (List.getElem?_eq_getElem lt)
    rw [List.drop_eq_getElem_cons lt] at hgo2
    refine .inr ⟨go, fun σ' H' => ∃ B e, SI K H0 B0 fs σ0 σ' H' B e ∧ LK σ1 H1 B1 e1 σ' H' B e ∧ forGo (forF Φ t b) (xs.drop (i + 1)) e = some out, fun σ' H' z => ⟨xs.length - (i + 1), by omega, rfl, lt, z⟩, fun x H' y => ?_⟩
    obtain ⟨B2, g, rx⟩ := yl x H' y
    have cg := (Cm.refl s.re).grow g
    have s2 := s.cm cg
    have l2 := l.trans (LK.cm cg)
    unfold forGo at hgo2
    have hf : ∃ ea o, setD t xs[i] e = some ea ∧ forF Φ t b xs[i] e = some o ∧ evS Φ b ea = some o := by
      cases h0 : forF Φ t b xs[i] e with
      | none => rw [h0] at hgo2; cases hgo2
      | some o =>
        have h1 := h0
        unfold forF at h1
        split at h1
        · rename_i ea ha
          exact ⟨ea, o, ha, rfl, h1⟩
        · cases h1
    obtain ⟨ea, o, ha, hf, hb⟩ := hf
    rw [hf] at hgo2
    refine ⟨B2, e, _, ea, s2.re, rx, ha, fun σ2 R2 U2 => ?_⟩
    obtain ⟨s3, l3⟩ := s2.upd R2 U2
    have l4 := l2.trans l3
    refine ⟨H0, B0, fs, σ0, B2, ea, o, s3, hb, ?_⟩
    cases o with
    | nx e5 => exact fun σ' H' B' s' l' => ⟨B', e5, s', l4.trans l', hgo2⟩
    | ct e5 => exact fun σ' H' B' s' l' => ⟨B', e5, s', l4.trans l', hgo2⟩
    | bk e5 =>
      cases hgo2
      exact fun σ' H' B' s' l' => fin σ' H' B' s' (l4.trans l')
    | rt r e5 =>
      cases hgo2
      exact fun v σ' H' B' s' l' rr => fin v σ' H' B' s' (l4.trans l') rr
  · have ei : i = xs.length := by omega
    subst ei
    rw [List.drop_length] at hgo2
    cases hgo2
    exact .inl ⟨stop, fin σ H B s l⟩
theorem retOk_upd {v : V} {r : Ret} (h : RetOk K H0 H' B' v r) (hd : H' d = some w) (hw : w = u ∨ ∃ od, w = .frz od u) : RetOk K H0 (upd H' d u) B' v r := by
  cases r with
  | val x => exact h
  | new m =>
    obtain ⟨a, o, e, n, x, y, mo⟩ := h
    by_cases z : a = d
    · subst z
      rw [hd] at x
      cases x
      rcases hw with rfl | ⟨od, rfl⟩
      · exact ⟨a, _, e, n, upd_same, y, mo⟩
      · cases m with
        | lst _ => obtain ⟨_, w, _⟩ := mo; cases w
        | dK _ => obtain ⟨_, w, _⟩ := mo; cases w
        | dT _ => obtain ⟨_, w, _⟩ := mo; cases w
    · exact ⟨a, o, e, n, by rw [upd_ne z]; exact x, y, mo⟩
theorem mok_nf {o : HO} {B : Hp} (mo : MOk K B o m) : ∀ od x, o ≠ .frz od x := fun od x z => by
  subst z
  cases m with
  | lst _ => obtain ⟨_, w, _⟩ := mo; cases w
  | dK _ => obtain ⟨_, w, _⟩ := mo; cases w
  | dT _ => obtain ⟨_, w, _⟩ := mo; cases w
end
section
variable [KwTab] {nms : List Str} {X : Cx} {Φ : Nat → Fn} {k : Nat} {pos p0 : Pos}
theorem evS_for (t : T) (it : E) (b : S) (env : En) : evS Φ (.for_ t it b) env = match itStart Φ it env with
    | some (xs, lk, e1) => match forGo (forF Φ t b) xs e1 with
      | some (.nx e2) => some (.nx (freeS lk e2))
      | some (.rt r e2) => some (.rt r (freeS lk e2))
      | _ => none
    | none => none := rfl
theorem for_sp {t : T} {it : E} {b : S} {D : Ends} {σ : L2.St} {H : Hp} (h : tS X.K Φ (.for_ t it b) D σ H) :
    tFor (tI X.K Φ it) (tG X.K t) (tS X.K Φ b) D σ H ∨ (∃ i, it = .var i) ∧ tLock (tFor (iKeys (tE X.K Φ it)) (tG X.K t) (tS X.K Φ b)) D σ H := by
  obtain ⟨H0, B0, fs, σ0, B, env, out, s, h, f⟩ := h
  rw [evS_for] at h
  split at h
  · rename_i xs lk e1 hs
    have hgo : ∃ o, forGo (forF Φ t b) xs e1 = some o ∧ ((∃ e2, o = .nx e2 ∧ out = .nx (freeS lk e2)) ∨ ∃ r e2, o = .rt r e2 ∧ out = .rt r (freeS lk e2)) := by
      split at h
      · rename_i e2 hh
        cases h
        exact ⟨_, hh, .inl ⟨_, rfl, rfl⟩⟩
      · rename_i r e2 hh
        cases h
        exact ⟨_, hh, .inr ⟨_, _, rfl, rfl⟩⟩
      · cases h
    obtain ⟨o, hgo, ho⟩ := hgo
    unfold itStart at hs
    split at hs
    · rename_i r hd
      cases hs
      obtain ⟨i, f0, kvs, rfl, ei, er⟩ := dictIt_some hd
      cases er
      obtain ⟨d, ob, pd, nb, hd, ws, rfl, pw⟩ := s.re.own ei
      refine .inr ⟨⟨i, rfl⟩, d, _, hd, trivial, fun od => ?_⟩
      have hw : (HO.frz od (.dK ws)) = .dK ws ∨ ((∀ ds, (MO.dK kvs) ≠ .lst ds) ∧ ∃ od', (HO.frz od (.dK ws)) = .frz od' (.dK ws)) := .inr ⟨fun ds z => (by cases z), od, rfl⟩
      have sL := si_lock s ei pd hd hw
      have gi := set_self (x := Slot.lck f0 (.dK kvs)) (get_lt ei)
      refine ⟨B, _, .slot i, _, sL.re, (by unfold evE; rw [gi]), fun v H' B' c r => ⟨d, od, ?_, .inl ⟨ws, ?_, ?_⟩⟩⟩
      · exact Option.some.inj (Option.some.inj (show some (some v) = some (some (V.ref d)) from r.symm.trans pd))
      · exact c.st.fr upd_same (lock_not s.re ei pd)
      · have wk : WkOk X.K B' (Itk d od ws) (kvs.map fun p => keyD p.1) (some (d, .frz od (.dK ws))) := wk_keys (Paired.mapP pw fun _ _ z => ⟨z.1, z.2.mono c.st.bb⟩)
        have po : PinOk σ H' (env.set i (.lck f0 (.dK kvs))) (some (d, .frz od (.dK ws))) := fun a u z => by
          cases z
          exact ⟨c.st.fr upd_same (lock_not s.re ei pd), i, f0, _, gi, pd⟩
        refine for_run (sL.cm c) po wk hgo ?_
        have fin : ∀ {σ' : L2.St} {H2 B2 : Hp} {e2 : En}, SI X.K H0 B0 fs σ0 σ' H2 B2 e2 → LK σ H' B' (env.set i (.lck f0 (.dK kvs))) σ' H2 B2 e2 → H2 d = some (.frz od (.dK ws)) ∧ SI X.K H0 B0 fs σ0 σ' (upd H2 d (.dK ws)) B2 (freeS (some i) e2) ∧ LK σ H B env σ' (upd H2 d (.dK ws)) B2 (freeS (some i) e2) := fun {σ' H2 B2 e2} s2 l2 => by
          obtain ⟨g1, g2, g3, g4, g5⟩ := lk_unlock (u := .dK ws) s.re ei pd ((LK.cm c).trans l2)
          rw [g4]
          exact ⟨g1, si_unlock s2 g3 g2 g1 (.inr ⟨od, rfl⟩) (fun _ _ z => by cases z), g5⟩
        rcases ho with ⟨e2, rfl, rfl⟩ | ⟨r, e2, rfl, rfl⟩
        · intro σ' H2 B2 s2 l2
          obtain ⟨g1, g2, g3⟩ := fin s2 l2
          exact ⟨g1, f σ' _ B2 g2 g3⟩
        · intro v σ' H2 B2 s2 l2 rr
          obtain ⟨g1, g2, g3⟩ := fin s2 l2
          exact ⟨g1, f v σ' _ B2 g2 g3 (retOk_upd rr g1 (.inr ⟨od, rfl⟩))⟩
    · split at hs
      · rename_i p0 e0 h1
        refine .inl ⟨B, env, p0, e0, xs, lk, e1, s.re, h1, hs, fun H' B' J pin lo po wk => ?_⟩
        cases lk with
        | none =>
          have lo : Cm X.K σ H B env H' B' e1 := lo
          refine for_run (s.cm lo) po wk hgo ?_
          rcases ho with ⟨e2, rfl, rfl⟩ | ⟨r, e2, rfl, rfl⟩
          · exact Fin.after (LK.cm lo) f
          · exact Fin.after (LK.cm lo) f
        | some i =>
          obtain ⟨f0, m, a, ob, c, ei, pa, ha, rfl⟩ := lo
          have sL := si_lock (s.cm c) ei pa ha (w := ob) (.inl rfl)
          rw [upd_self ha] at sL
          have nf : ∀ od x, ob ≠ .frz od x := by
            obtain ⟨a2, o2, p2, _, h2, mo⟩ := c.re.own ei
            cases At.eq pa p2
            rw [ha] at h2
            cases h2
            exact mok_nf mo
          refine for_run sL po wk hgo ?_
          have fin : ∀ {σ' : L2.St} {H2 B2 : Hp} {e2 : En}, SI X.K H0 B0 fs σ0 σ' H2 B2 e2 → LK σ H' B' (e0.set i (.lck f0 m)) σ' H2 B2 e2 → SI X.K H0 B0 fs σ0 σ' H2 B2 (freeS (some i) e2) ∧ LK σ H B env σ' H2 B2 (freeS (some i) e2) := fun {σ' H2 B2 e2} s2 l2 => by
            obtain ⟨g1, g2, g3, g4, g5⟩ := lk_unlock (u := ob) (w := ob) c.re ei pa (by rw [upd_self ha]; exact l2)
            rw [g4]
            have s3 := si_unlock s2 g3 g2 g1 (.inl rfl) nf
            rw [upd_self g1] at s3 g5
            exact ⟨s3, (LK.cm c).trans g5⟩
          rcases ho with ⟨e2, rfl, rfl⟩ | ⟨r, e2, rfl, rfl⟩
          · intro σ' H2 B2 s2 l2
            obtain ⟨g2, g3⟩ := fin s2 l2
            exact f σ' _ B2 g2 g3
          · intro v σ' H2 B2 s2 l2 rr
            obtain ⟨g2, g3⟩ := fin s2 l2
            exact f v σ' _ B2 g2 g3 rr
      · cases hs
  · cases h
theorem es_for {tg iter : Expr} {body : List Stmt} {et : T} {ei : E} {eb : S} (hp : PassesOwn (model X.prog X.w) X.A X.env X.xe) (hc : X.calm = true) (hi : PI X tg iter (tI X.K Φ ei)) (hk : PE X iter (tE X.K Φ ei) ∨ ∀ i, ei ≠ .var i) (hg : PG X tg (tG X.K et)) (hb : PSs X body (tS X.K Φ eb))
    (hs : ∀ x, foldedSetIterable iter X.env x = pure x) : PS X (.For tg iter body [] pos) (tS X.K Φ (.for_ et ei eb)) := by
  rcases hk with hk | hk
  · exact ((ps_for hp hc hi hg hb hs).or (ps_lock (ps_for hp hc (pi_keys hk) hg hb hs))).imp fun D σ H h => (for_sp h).imp id (·.2)
  · exact (ps_for hp hc hi hg hb hs).imp fun D σ H h => by
      rcases for_sp h with h | h
      · exact h
      · exact absurd h.1.choose_spec (hk _)
end
end Mi

/-! Mi16: from the text's tree to the small language, with the proof along. -/
namespace Mi
open PySem PySem.Spec PyProof.Rows L2

structure SC where
  sc : Scope
  N : List Str
  fnB : Str → Bool
  cst : List (Str × D)
  nms : List Str
  dt : Pos → Bool
  fuel : Nat
  wp : Pos → List Nat
structure GC [KwTab] (c : SC) (Φ : Nat → Fn) (X : Cx) (k : Nat) : Prop where
  g : GX c.nms Φ X k
  sc : X.env.scope = c.sc
  N : X.N = c.N
  fn : ∀ x, c.fnB x = true → X.fn x = true
  cst : ∀ x d, c.cst.lookup x = some d → ∃ u v, X.mg x = some u ∧ RelV v u ∧ ∀ B, Rp X.K B v d
section
variable [KwTab]
abbrev CE (c : SC) (e : Expr) := {ee : E // ∀ {Φ : Nat → Fn} {X : Cx} {k : Nat}, GC c Φ X k → PE X e (tE X.K Φ ee)}
abbrev CT (c : SC) (e : Expr) := {ee : E // ∀ {Φ : Nat → Fn} {X : Cx} {k : Nat}, GC c Φ X k → PT X e (tT X.K Φ ee)}
abbrev CA (c : SC) (es : List Expr) := {ee : E // ∀ {Φ : Nat → Fn} {X : Cx} {k : Nat}, GC c Φ X k → PA X es (tA X.K Φ ee)}
abbrev CO' (c : SC) (e : Option Expr) := {ee : E // ∀ {Φ : Nat → Fn} {X : Cx} {k : Nat}, GC c Φ X k → PO X e (tO X.K Φ ee)}
abbrev CC (c : SC) (es : List Expr) := {ee : E // ∀ {Φ : Nat → Fn} {X : Cx} {k : Nat}, GC c Φ X k → PTs X es (tCs X.K Φ ee)}
abbrev CB (c : SC) (op : BoolOp) (es : List Expr) := {ee : E // ∀ {Φ : Nat → Fn} {X : Cx} {k : Nat} {pos : Pos}, GC c Φ X k → PE X (.BoolOp op es pos) (tE X.K Φ ee)}
abbrev CW (c : SC) (op : BoolOp) (es : List Expr) := {ee : E // ∀ {Φ : Nat → Fn} {X : Cx} {k : Nat} {pos : Pos}, GC c Φ X k → PW X (.BoolOp op es pos) (tT X.K Φ ee)}
abbrev CI (c : SC) (tg it : Expr) := {ee : E // ∀ {Φ : Nat → Fn} {X : Cx} {k : Nat}, GC c Φ X k → PI X tg it (tI X.K Φ ee) ∧ (PE X it (tE X.K Φ ee) ∨ ∀ i, ee ≠ .var i)}
abbrev CG (c : SC) (tg : Expr) := {t : T // ∀ {Φ : Nat → Fn} {X : Cx} {k : Nat}, GC c Φ X k → PG X tg (tG X.K t)}
abbrev CGs (c : SC) (tg : List Expr) := {t : T // ∀ {Φ : Nat → Fn} {X : Cx} {k : Nat}, GC c Φ X k → PGs X tg (tGs X.K t) ∧ (assignEach tg X.env).length = t.len ∧ (assignEach tg X.env).findIdx? (·.1) = none}
end

section
variable [KwTab] {c : SC} {Φ : Nat → Fn} {X : Cx} {k : Nat} {e a b : Expr} {es : List Expr} {pos p0 : Pos} {ee ea eb : E}
/-! ### what is never evaluated -/
def gE : CE c e := ⟨.gone, fun _ => ⟨fun _ _ _ _ _ _ ⟨_, _, _, _, _, h, _⟩ => by cases h⟩⟩
theorem evT_gone {env : En} : evT Φ .gone env = none := rfl
def gT : CT c e := ⟨.gone, fun _ => ⟨fun _ _ _ _ _ _ ⟨_, _, _, _, _, h, _⟩ => by rw [evT_gone] at h; cases h⟩⟩
def gA : CA c es := ⟨.gone, fun _ => ⟨fun _ _ _ _ _ _ _ ⟨_, _, _, _, _, h, _⟩ => by cases h⟩⟩
def gO {o : Option Expr} : CO' c o := ⟨.cst .non, fun _ => ⟨fun _ _ _ _ _ _ ⟨_, _, _, _, _, h, _⟩ => by cases h⟩⟩
def gC : CC c es := ⟨.gone, fun _ => ⟨fun _ _ _ _ _ _ ⟨_, _, _, _, _, h, _⟩ => by cases h⟩⟩
def gB {op : BoolOp} : CB c op es := ⟨.gone, fun _ => ⟨fun _ _ _ _ _ _ ⟨_, _, _, _, _, h, _⟩ => by cases h⟩⟩
def gW {op : BoolOp} : CW c op es := ⟨.gone, fun _ => ⟨fun _ _ _ _ _ _ _ ⟨_, _, _, _, _, h, _⟩ => by rw [evT_gone] at h; cases h⟩⟩
def gI {tg it : Expr} : CI c tg it := ⟨.gone, fun _ => ⟨⟨fun _ _ _ _ _ _ ⟨_, _, _, _, _, _, _, _, h, _⟩ => by cases h⟩, .inr fun i z => by cases z⟩⟩
def gG {tg : Expr} : CG c tg := ⟨.nil, fun _ => ⟨fun _ _ _ _ _ _ _ _ _ ⟨_, _, d, _, _, _, h, _⟩ => by cases d <;> cases h⟩⟩

/-! ### signs of the tree -/
def notStar : Expr → Bool
  | .Starred _ _ => false
  | _ => true
theorem star_one (h : notStar a = true) (env : Env) : starEach (a :: es) env = (false, eval a env) :: starEach es env := by
  cases a <;> first | rfl | cases h
def noStars (es : List Expr) : Bool := es.all notStar
theorem star_none (env : Env) (pos : Pos) : ∀ {es : List Expr}, noStars es = true → (backTo pos (starEach es env)).any (·.1) = false
  | [], _ => rfl
  | a :: es, h => by
    simp only [noStars, List.all_cons, Bool.and_eq_true] at h
    rw [star_one h.1]
    have ih := star_none env pos (es := es) h.2
    simp only [backTo, List.map_cons, List.any_cons, Bool.false_or] at ih ⊢
    exact ih
def notSet : Expr → Bool
  | .Set _ _ _ => false
  | _ => true
theorem folded (h : notSet a = true) (env : Env) : ∀ x, foldedSetIterable a env x = pure x := by
  intro x
  cases a <;> first | rfl | cases h
def isName : Expr → Bool
  | .Name _ _ => true
  | _ => false
theorem base_name (h : isName a = true) (m : Str) (env : Env) (w : Sem Value) : attributeBase a m env w = w := by
  cases a <;> first | rfl | cases h
theorem few_one (h : notStar a = true) (env : Env) : ((backTo pos (starEach [a] env)).all (fun x => !x.1) && (backToKw pos (keywordEach [] env)).all (fun x => x.1.isSome) && decide (([a] : List Expr).length + ([] : List Keyword).length + (if ([] : List Keyword).isEmpty then 0 else 1) < 30)) = true := by
  rw [star_one h]; rfl
def notSl : Expr → Bool
  | .Slice _ _ _ _ => false
  | _ => true
theorem plain_ix (h : notSl b = true) : PlainIx b := by
  intro o i
  cases b <;> first | rfl | cases h
theorem no_sl (h : notSl b = true) : NoSl b := by
  intro o i
  cases b <;> first | rfl | cases h
def plainT : Expr → Bool
  | .BoolOp _ _ _ => false
  | .UnaryOp _ _ _ => false
  | .IfExp _ _ _ _ => false
  | .Compare _ _ _ _ => false
  | _ => true
theorem true_plain (h : plainT e = true) (env : Env) : ∀ whole, isTrue e env whole = (do let v ← whole; standAt e.pos; holding [v] (truthy v)) := by
  intro w
  cases e <;> first | rfl | cases h
def ixOf (l : List Str) (x : Str) : Nat := l.findIdx (fun y => decide (y = x))

/-! ### names -/
def cName (c : SC) (x : Str) (pos : Pos) : CE c (.Name x pos) :=
  if h : c.N[ixOf c.N x]? = some x ∧ (c.sc.names.lookup x = some .local ∨ c.sc.names.lookup x = some .cell ∨ c.sc.names.lookup x = some .free) ∧ (x == ("__debug__" : Str)) = false ∧ (x == ("__classdict__" : Str)) = false then
    ⟨.var (ixOf c.N x), fun g => ev_name (by rw [g.N]; exact h.1) (by unfold Vis; rw [g.sc]; exact h.2.1) h.2.2.1 h.2.2.2⟩
  else match hd : c.cst.lookup x with
    | some d => if h : c.sc.names.lookup x = some .globalImplicit ∧ (x == ("__debug__" : Str)) = false then
        ⟨.cst d, fun {Φ X k} g => by
          obtain ⟨u, v, hm, r, hr⟩ := g.cst x d hd
          exact ev_cst (pe_glob (by show X.env.scope.names.lookup x = _; rw [g.sc]; exact h.1) hm r h.2) hr⟩
      else gE
    | none => gE
def cConst (c : SC) (v : Const) (j : Nat) (pos : Pos) : CE c (.Constant v j pos) := match v with
  | .none => ⟨.cst .non, fun _ => ev_cst pe_non fun _ => .non⟩
  | .bool b => ⟨.cst (.bl b), fun _ => ev_cst pe_bl fun _ => .bl b⟩
  | .int i => ⟨.cst (.int i), fun _ => ev_cst pe_int fun _ => .int i⟩
  | .str x => ⟨.cst (.str x), fun _ => ev_cst pe_str fun _ => .str x⟩
  | _ => gE
def cBin (pos : Pos) (op : Operator) (ra : CE c a) (rb : CE c b) : CE c (.BinOp a op b pos) := match op with
  | .Add => ⟨.bin .add ra.1 rb.1, fun g => ev_bin .add (ra.2 g) (rb.2 g)⟩
  | .Sub => ⟨.bin .sub ra.1 rb.1, fun g => ev_bin .sub (ra.2 g) (rb.2 g)⟩
  | .Mult => ⟨.bin .mul ra.1 rb.1, fun g => ev_bin .mul (ra.2 g) (rb.2 g)⟩
  | .FloorDiv => ⟨.bin .fdiv ra.1 rb.1, fun g => ev_bin .fdiv (ra.2 g) (rb.2 g)⟩
  | .Mod => ⟨.bin .mod ra.1 rb.1, fun g => ev_bin .mod (ra.2 g) (rb.2 g)⟩
  | .Pow => ⟨.bin .pow ra.1 rb.1, fun g => ev_bin .pow (ra.2 g) (rb.2 g)⟩
  | _ => gE
def coOf : (op : CmpOp) → {o : CO // o.op = op}
  | .Eq => ⟨.eq, rfl⟩ | .NotEq => ⟨.ne, rfl⟩ | .Lt => ⟨.lt, rfl⟩ | .LtE => ⟨.le, rfl⟩ | .Gt => ⟨.gt, rfl⟩ | .GtE => ⟨.ge, rfl⟩
  | .Is => ⟨.is_, rfl⟩ | .IsNot => ⟨.isn, rfl⟩ | .In => ⟨.in_, rfl⟩ | .NotIn => ⟨.nin, rfl⟩
variable (f : ∀ (c : SC) (e : Expr), CE c e) (t : ∀ (c : SC) (e : Expr), CT c e)
def cArgs (c : SC) : (es : List Expr) → CA c es
  | [] => ⟨.anil, fun _ => va_nil⟩
  | .Starred a _ :: es => ⟨.astar (f c a).1 (cArgs c es).1, fun g => va_star ((f c a).2 g) ((cArgs c es).2 g)⟩
  | a :: es => if h : notStar a = true then ⟨.acons (f c a).1 (cArgs c es).1, fun g => va_cons ((f c a).2 g) ((cArgs c es).2 g) (star_one h _)⟩ else gA
def cOpt (c : SC) : (o : Option Expr) → CO' c o
  | none => ⟨.gone, fun _ => vo_none⟩
  | some a => ⟨.acons (f c a).1 .anil, fun g => vo_some ((f c a).2 g)⟩
def cIfs (c : SC) : (es : List Expr) → CC c es
  | [] => ⟨.anil, fun _ => ec_nil⟩
  | [a] => ⟨.acons (t c a).1 .anil, fun g => ec_one ((t c a).2 g)⟩
  | _ => gC
def cBool (c : SC) (op : BoolOp) : (es : List Expr) → CB c op es
  | [] => gB
  | [a] => ⟨(f c a).1, fun g => ev_one ((f c a).2 g)⟩
  | a :: b :: r => match op with
    | .And => ⟨.and (f c a).1 (cBool c .And (b :: r)).1, fun g => ev_and ((f c a).2 g) ((cBool c .And (b :: r)).2 g)⟩
    | .Or => ⟨.or (f c a).1 (cBool c .Or (b :: r)).1, fun g => ev_or ((f c a).2 g) ((cBool c .Or (b :: r)).2 g)⟩
def cBoolT (c : SC) (op : BoolOp) : (es : List Expr) → CW c op es
  | [] => gW
  | [a] => ⟨(t c a).1, fun g => ew_one ((t c a).2 g)⟩
  | a :: b :: r => match op with
    | .And => ⟨.and (t c a).1 (cBoolT c .And (b :: r)).1, fun g => ew_and ((t c a).2 g) ((cBoolT c .And (b :: r)).2 g)⟩
    | .Or => ⟨.or (t c a).1 (cBoolT c .Or (b :: r)).1, fun g => ew_or ((t c a).2 g) ((cBoolT c .Or (b :: r)).2 g)⟩
def cTg (c : SC) (x : Str) (pos : Pos) : CG c (.Name x pos) :=
  if h : c.N[ixOf c.N x]? = some x ∧ (c.sc.names.lookup x = some .local ∨ c.sc.names.lookup x = some .cell) ∧ (c.fnB x = true ∨ c.sc.names.lookup x = some .local) then
    ⟨.nm (ixOf c.N x), fun g => eg_name g.g.nd (by rw [g.N]; exact h.1) (by unfold L2.Loc; rw [g.sc]; exact h.2.1) (h.2.2.imp (g.fn x) fun z => by rw [g.sc]; exact z)⟩
  else gG
theorem asg_one (h : notStar a = true) (env : Env) : assignEach (a :: es) env = (false, assign a env) :: assignEach es env := by
  cases a <;> first | rfl | cases h
def cTgs (c : SC) (h : ∀ e, CG c e) : (es : List Expr) → Option (CGs c es)
  | [] => some ⟨.nil, fun _ => ⟨egs_nil, rfl, rfl⟩⟩
  | a :: es => if hs : notStar a = true then match cTgs c h es with
      | some r => some ⟨.cons (h a).1 r.1, fun {Φ X k} g => by
          obtain ⟨h1, h2, h3⟩ := r.2 g
          refine ⟨egs_cons ((h a).2 g) h1 (by rw [asg_one hs]; rfl), by rw [asg_one hs, List.length_cons, h2]; rfl, ?_⟩
          rw [asg_one hs, List.findIdx?_cons, h3]
          rfl⟩
      | none => none
    else none
def cTarget (c : SC) : Nat → (e : Expr) → CG c e
  | 0, _ => gG
  | n + 1, e => match e with
    | .Name x p => cTg c x p
    | .Tuple es kk p => match cTgs c (cTarget c n) es with
      | some r => ⟨.tp r.1, fun {Φ X k} g => by
          obtain ⟨h1, h2, h3⟩ := r.2 g
          exact eg_tup g.g.calm h1 h2 rfl h3⟩
      | none => gG
    | _ => gG

/-! ### what is walked -/
theorem starL1 (h : notStar a = true) (env : Env) : starEach [a] env = [(false, eval a env)] := star_one h env
theorem starL2 (h : notStar a = true) (h' : notStar b = true) (env : Env) : starEach [a, b] env = [(false, eval a env), (false, eval b env)] := by rw [star_one h, star_one h']; rfl
def gl (c : SC) (x : Str) : Bool := match c.sc.names.lookup x with
  | some .globalImplicit => true
  | _ => false
theorem gl_ok {c : SC} {Φ : Nat → Fn} {X : Cx} {k : Nat} {x : Str} (g : GC c Φ X k) (h : gl c x = true) : Gl X x := by
  show X.env.scope.names.lookup x = _
  rw [g.sc]
  unfold gl at h
  split at h
  · assumption
  · cases h
def cItD (c : SC) (tg : Expr) (it : Expr) : CI c tg it := ⟨(f c it).1, fun g => ⟨ei_val ((f c it).2 g), .inl ((f c it).2 g)⟩⟩
def cIter (c : SC) (tg : Expr) (it : Expr) : CI c tg it := match it with
  | .Call (.Name x p) [a] [] pos =>
    if h : x = "range" ∧ gl c x = true ∧ notStar a = true then ⟨.rng (.acons (f c a).1 .anil), fun {Φ X k} g => by
      obtain ⟨rfl, h2, h3⟩ := h
      exact ⟨ei_rng1 (ta := .gone) g.g (gl_ok g h2) ((f c a).2 g) (starL1 h3 _), .inr fun i z => by cases z⟩⟩
    else match tg with
      | .Tuple elts kk tp =>
        if h : x = "enumerate" ∧ gl c x = true ∧ notStar a = true then ⟨.enm (f c a).1, fun {Φ X k} g => by
          obtain ⟨rfl, h2, h3⟩ := h
          exact ⟨ei_enum g.g (gl_ok g h2) ((f c a).2 g) (starL1 h3 _), .inr fun i z => by cases z⟩⟩
        else cItD f c _ _
      | _ => cItD f c _ _
  | .Call (.Name x p) [a, b] [] pos =>
    if h : x = "range" ∧ gl c x = true ∧ notStar a = true ∧ notStar b = true then ⟨.rng (.acons (f c a).1 (.acons (f c b).1 .anil)), fun {Φ X k} g => by
      obtain ⟨rfl, h2, h3, h4⟩ := h
      exact ⟨ei_rng2 g.g (gl_ok g h2) ((f c a).2 g) ((f c b).2 g) (starL2 h3 h4 _) (starL1 h4 _), .inr fun i z => by cases z⟩⟩
    else match tg with
      | .Tuple elts kk tp =>
        if h : x = "zip" ∧ gl c x = true ∧ notStar a = true ∧ notStar b = true then ⟨.zip (f c a).1 (f c b).1, fun {Φ X k} g => by
          obtain ⟨rfl, h2, h3, h4⟩ := h
          exact ⟨ei_zip g.g (gl_ok g h2) ((f c a).2 g) ((f c b).2 g) (star_one h3 _) (star_one h4 _) (star_none _ _ (by simp [noStars, h4])), .inr fun i z => by cases z⟩⟩
        else cItD f c _ _
      | _ => cItD f c _ _
  | _ => cItD f c _ _

/-! ### comprehensions -/
def ownOf (N : List Str) (scope : Scope) : List (Str × Nat) := scope.names.filterMap fun y => match y.2 with
  | .local => if N.contains y.1 then some (y.1, ixOf N y.1) else none
  | .cell => if N.contains y.1 then some (y.1, ixOf N y.1) else none
  | _ => none
def SC.inner (c : SC) (scope : Scope) : SC := { c with sc := relS scope c.sc, fnB := fun x => scope.names.lookup x == some .cell }
theorem GC.inner {c : SC} {Φ : Nat → Fn} {X : Cx} {k : Nat} (g : GC c Φ X k) (scope : Scope) (s : Shared) (H : Hp) (C : Addr) (cl : List (Str × Addr)) (fp : List Addr) : GC (c.inner scope) Φ (X.blk s H scope (compEnvC scope cl C X.env) fp) k where
  g := ⟨g.g.calm, g.g.nd, g.g.room, g.g.gd, g.g.blt, g.g.fns⟩
  sc := by
    show relabel scope X.env = relS scope c.sc
    rw [← g.sc]
    rfl
  N := g.N
  fn := fun x h => h
  cst := g.cst
structure LcOk (c : SC) (scope : Scope) (et : T) (iter : Expr) : Prop where
  blk : blkC c.N c.sc scope (ownOf c.N scope) = true
  tgs : et.slots.all (fun j => ((ownOf c.N scope).map (·.2)).contains j) = true
  set : notSet iter = true
def lcOk (c : SC) (scope : Scope) (et : T) (iter : Expr) : Bool := blkC c.N c.sc scope (ownOf c.N scope) && et.slots.all (fun j => ((ownOf c.N scope).map (·.2)).contains j) && notSet iter
theorem lcOk_ok {c : SC} {scope : Scope} {et : T} {iter : Expr} (h : lcOk c scope et iter = true) : LcOk c scope et iter := by
  simp only [lcOk, Bool.and_eq_true] at h
  exact ⟨h.1.1, h.1.2, h.2⟩
theorem LcOk.blkOk {c : SC} {Φ : Nat → Fn} {X : Cx} {k : Nat} {scope : Scope} {et : T} {iter : Expr} (h : LcOk c scope et iter) (g : GC c Φ X k) : BlkOk X.N X.env.scope scope (ownOf c.N scope) := by
  rw [g.N, g.sc]
  exact blkOk_by h.blk
theorem LcOk.slots {c : SC} {scope : Scope} {et : T} {iter : Expr} (h : LcOk c scope et iter) : ∀ j ∈ et.slots, j ∈ (ownOf c.N scope).map (·.2) := fun j hj => by
  have := List.all_eq_true.mp h.tgs j hj
  exact List.contains_iff_mem.mp this
def cLc (c : SC) (elt : Expr) (tg iter : Expr) (ifs : List Expr) (scope : Scope) (pos : Pos) : CE c (.ListComp elt [⟨tg, iter, ifs, 0⟩] scope pos) :=
  let ri := cIter f c tg iter
  let rt := cTarget (c.inner scope) 4 tg
  let rc := cIfs t (c.inner scope) ifs
  let re := f (c.inner scope) elt
  if h : lcOk c scope rt.1 iter = true then ⟨.lc ((ownOf c.N scope).map (·.2)) rt.1 ri.1 rc.1 re.1, fun {Φ X k} g => by
    have L := lcOk_ok h
    obtain ⟨h1, h2⟩ := ri.2 g
    rcases h2 with h2 | h2
    · exact ev_lc g.g h1 h2 (L.blkOk g) L.slots (fun s H C cl fp => rt.2 (g.inner scope s H C cl fp)) (fun s H C cl fp => rc.2 (g.inner scope s H C cl fp)) (fun s H C cl fp => re.2 (g.inner scope s H C cl fp)) (folded L.set _)
    · exact ev_lc1 g.g h1 h2 (L.blkOk g) L.slots (fun s H C cl fp => rt.2 (g.inner scope s H C cl fp)) (fun s H C cl fp => rc.2 (g.inner scope s H C cl fp)) (fun s H C cl fp => re.2 (g.inner scope s H C cl fp)) (folded L.set _)⟩
  else gE

/-! ### calls -/
def biOf : List BI := [.len, .sum, .all, .any, .int, .abs, .list, .tuple, .sorted, .repr]
theorem biOf_nisi {b : BI} (h : b ∈ biOf) : ∀ t, b ≠ .isi t := fun t z => by subst z; simp [biOf] at h
def isNames : List String := ["int", "bool", "str", "tuple", "list"]
theorem boot_ty : ∀ s ∈ isNames, bootBuiltins (Str.ofString s) = some (.type s) ∧ Str.ofString s ≠ "__name__" ∧ (Str.ofString s == ("__debug__" : Str)) = false ∧ Str.ofString s ∈ (["len", "sum", "all", "any", "int", "abs", "list", "tuple", "sorted", "max", "min", "repr", "isinstance", "range", "enumerate", "zip", "bool", "str", "dict"] : List Str) := by decide +kernel
def cBi (c : SC) (b : BI) (hn : ∀ t, b ≠ .isi t) (x : Str) (p : Pos) (a : Expr) (es : List Expr) (pos : Pos) : CE c (.Call (.Name x p) (a :: es) [] pos) :=
  if h : x = b.name ∧ gl c x = true ∧ notStar a = true ∧ noStars es = true then ⟨.bi b (cArgs f c (a :: es)).1, fun {Φ X k} g => by
    obtain ⟨rfl, h2, h3, h4⟩ := h
    exact ev_bi b g.g hn (gl_ok g h2) ((cArgs f c (a :: es)).2 g) (star_one h3 _) (star_none _ _ h4)⟩
  else gE
def findBi (x : Str) : List BI → Option BI
  | [] => none
  | b :: bs => if b.name = x then some b else findBi x bs
theorem findBi_mem {x : Str} {b : BI} : ∀ {l : List BI}, findBi x l = some b → b ∈ l
  | b' :: bs, h => by
    unfold findBi at h
    split at h
    · cases h; exact List.mem_cons_self
    · exact List.mem_cons_of_mem _ (findBi_mem h)
def findTy (x : Str) : List String → Option String
  | [] => none
  | b :: bs => if Str.ofString b = x then some b else findTy x bs
theorem findTy_mem {x : Str} {b : String} : ∀ {l : List String}, findTy x l = some b → b ∈ l ∧ Str.ofString b = x
  | b' :: bs, h => by
    unfold findTy at h
    split at h
    · rename_i e; cases h; exact ⟨List.mem_cons_self, e⟩
    · exact ⟨List.mem_cons_of_mem _ (findTy_mem h).1, (findTy_mem h).2⟩
/-- a def's call -/
def cDef (c : SC) (x : Str) (p : Pos) (es : List Expr) (pos : Pos) : CE c (.Call (.Name x p) es [] pos) :=
  if h : c.nms[ixOf c.nms x]? = some x ∧ gl c x = true ∧ (x == ("__debug__" : Str)) = false ∧ noStars es = true then match es with
    | [] => ⟨.call (ixOf c.nms x) .anil, fun g => ev_call0 (ees := .gone) g.g h.1 (gl_ok g h.2.1) h.2.2.1⟩
    | a :: r => ⟨.call (ixOf c.nms x) (cArgs f c (a :: r)).1, fun {Φ X k} g => by
        have hs := h.2.2.2
        simp only [noStars, List.all_cons, Bool.and_eq_true] at hs
        exact ev_call g.g h.1 (gl_ok g h.2.1) ((cArgs f c (a :: r)).2 g) h.2.2.1 (star_one hs.1 _) (star_none _ _ hs.2)⟩
  else gE
def cKws (c : SC) : (es : List Keyword) → {ee : E // ∀ {Φ : Nat → Fn} {X : Cx} {k : Nat}, GC c Φ X k → PK X es (tA X.K Φ ee)}
  | [] => ⟨.anil, fun _ => vk_nil⟩
  | ⟨nm, a, kpos⟩ :: es => ⟨.acons (f c a).1 (cKws c es).1, fun g => vk_cons ((f c a).2 g) ((cKws c es).2 g)⟩
theorem kw_all (pos : Pos) (env : Env) : ∀ {kws : List Keyword}, kws.all (·.arg.isSome) = true → (backToKw pos (keywordEach kws env)).all (·.1.isSome) = true ∧ (backToKw pos (keywordEach kws env)).any (·.1.isNone) = false ∧ (backToKw pos (keywordEach kws env)).filterMap (·.1) = kws.filterMap (·.arg)
  | [], _ => ⟨rfl, rfl, rfl⟩
  | ⟨nm, a, kpos⟩ :: kws, h => by
    simp only [List.all_cons, Bool.and_eq_true] at h
    obtain ⟨h1, h2, h3⟩ := kw_all pos env h.2
    cases nm with
    | none => cases h.1
    | some x =>
      unfold backToKw at *
      simp only [keywordEach, List.map_cons, List.all_cons, List.any_cons, List.filterMap_cons, h1, h2, h3] at *
      exact ⟨rfl, rfl, trivial⟩
def kNames (kws : List Keyword) : List Str := kws.filterMap (·.arg)
def kFind (ks : List Str) : List (List Str × List Nat) → Option (List Nat)
  | [] => none
  | (k, pm) :: r => if k = ks then some pm else kFind ks r
theorem kFind_mem {ks : List Str} {pm : List Nat} : ∀ {l : List (List Str × List Nat)}, kFind ks l = some pm → (ks, pm) ∈ l
  | (k, q) :: r, h => by
    unfold kFind at h
    split at h
    · rename_i e; cases h; subst e; exact List.mem_cons_self
    · exact List.mem_cons_of_mem _ (kFind_mem h)
theorem cKws_len {kws : List Keyword} {K : PySem.W.Frag} {σ : L2.St} {H : Hp} {Q : List V → Hp → Prop} (h : tA K Φ (cKws f c kws).1 σ H Q) : tA K Φ (cKws f c kws).1 σ H fun vs H' => vs.length = kws.length ∧ Q vs H' := by
  have len : ∀ {kws : List Keyword} {env env' : En} {ps : List P}, evA Φ (cKws f c kws).1 env = some (ps, env') → ps.length = kws.length := by
    intro kws
    induction kws with
    | nil => intro env env' ps h; cases h; rfl
    | cons q kws ih =>
      obtain ⟨nm, a, kpos⟩ := q
      intro env env' ps h
      have h : evA Φ (.acons (f c a).1 (cKws f c kws).1) env = some (ps, env') := h
      unfold evA at h
      split at h
      · split at h
        · rename_i h2
          cases h
          rw [List.length_cons, ih h2, List.length_cons]
        · cases h
      · cases h
  obtain ⟨B, env, ps, env', R, h1, kk⟩ := h
  exact ⟨B, env, ps, env', R, h1, fun vs H' B' c1 r1 => ⟨by rw [paired_len r1.all, len h1], kk vs H' B' c1 r1⟩⟩
/-- a def called by keywords alone -/
def cKw (c : SC) (x : Str) (p : Pos) (kws : List Keyword) (pos : Pos) : CE c (.Call (.Name x p) [] kws pos) :=
  match hp : kFind (kNames kws) (KwTab.tab x) with
  | some pm => if h : c.nms[ixOf c.nms x]? = some x ∧ gl c x = true ∧ (x == ("__debug__" : Str)) = false ∧ kws.all (·.arg.isSome) = true ∧ (kNames kws).length = kws.length then
      ⟨.callk (ixOf c.nms x) pm (cKws f c kws).1, fun {Φ X k} g => by
        obtain ⟨h1, h2, h3⟩ := kw_all pos X.env h.2.2.2.1
        exact ev_callk g.g h.1 (gl_ok g h.2.1) ((cKws f c kws).2 g) h.2.2.1 (kFind_mem hp) h1 h3 (fun {σ H Q} z => by rw [h.2.2.2.2]; exact cKws_len f z) (by rw [h2]; rfl)⟩
    else gE
  | none => gE
def cMax (c : SC) (x : Str) (p : Pos) (a b : Expr) (pos : Pos) : CE c (.Call (.Name x p) [a, b] [] pos) :=
  if x = "max" then cBi f c .max2 (fun t z => by cases z) x p a [b] pos else if x = "min" then cBi f c .min2 (fun t z => by cases z) x p a [b] pos else cDef f c x p [a, b] pos
def cMax1 (c : SC) (x : Str) (p : Pos) (a : Expr) (pos : Pos) : CE c (.Call (.Name x p) [a] [] pos) :=
  if x = "max" then cBi f c .max1 (fun t z => by cases z) x p a [] pos else if x = "min" then cBi f c .min1 (fun t z => by cases z) x p a [] pos else cDef f c x p [a] pos
def cCall (c : SC) (x : Str) (p : Pos) (es : List Expr) (pos : Pos) : CE c (.Call (.Name x p) es [] pos) := match es with
  | [] => cDef f c x p [] pos
  | [a] => match hb : findBi x biOf with
    | some .list => match a with
      | .Call (.Name y p1) [a1] [] p2 => if h : x = "list" ∧ y = "range" ∧ gl c x = true ∧ gl c y = true ∧ notStar a1 = true then ⟨.lrng (.acons (f c a1).1 .anil), fun {Φ X k} g => by
            obtain ⟨rfl, rfl, h3, h4, h5⟩ := h
            exact ev_lrng1 g.g (gl_ok g h3) (gl_ok g h4) ((f c a1).2 g) (star_one h5 _) rfl⟩
          else cBi f c .list (fun t z => by cases z) x p _ [] pos
      | .Call (.Name y p1) [a1, a2] [] p2 => if h : x = "list" ∧ y = "range" ∧ gl c x = true ∧ gl c y = true ∧ notStar a1 = true ∧ notStar a2 = true then ⟨.lrng (.acons (f c a1).1 (.acons (f c a2).1 .anil)), fun {Φ X k} g => by
            obtain ⟨rfl, rfl, h3, h4, h5, h6⟩ := h
            exact ev_lrng2 g.g (gl_ok g h3) (gl_ok g h4) ((f c a1).2 g) ((f c a2).2 g) (star_one h5 _) (star_one h6 _) (star_none _ _ (by simp [noStars, h6])) rfl⟩
          else cBi f c .list (fun t z => by cases z) x p _ [] pos
      | a => cBi f c .list (fun t z => by cases z) x p a [] pos
    | some b => cBi f c b (biOf_nisi (findBi_mem hb)) x p a [] pos
    | none => cMax1 f c x p a pos
  | [a, b] => match b with
    | .Name y py => if x = "isinstance" then match ht : findTy y isNames with
        | some s => if h : x = "isinstance" ∧ gl c x = true ∧ gl c (Str.ofString s) = true ∧ notStar a = true then ⟨.bi (.isi s) (.acons (f c a).1 .anil), fun {Φ X k} g => by
              obtain ⟨rfl, h2, h3, h4⟩ := h
              obtain ⟨hm, rfl⟩ := findTy_mem ht
              obtain ⟨b1, b2, b3, b4⟩ := boot_ty s hm
              exact ev_isi s g.g (gl_ok g h2) (gl_ok g h3) (g.g.blt _ b4) b1 b2 b3 ((f c a).2 g) (star_one h4 _)⟩
            else gE
        | none => gE
      else cMax f c x p a (.Name y py) pos
    | .List [] p2 => if h : x = "sum" ∧ gl c x = true ∧ notStar a = true then ⟨.sumL (f c a).1, fun {Φ X k} g => by
          obtain ⟨rfl, h2, h3⟩ := h
          exact ev_sumL g.g (gl_ok g h2) ((f c a).2 g) (star_one h3 _)⟩
        else cMax f c x p a (.List [] p2) pos
    | b => cMax f c x p a b pos
  | a :: b :: d :: r => cDef f c x p (a :: b :: d :: r) pos
theorem m2_get {o a b : Expr} {apos cpos : Pos} {X : Cx} (ho : isName o = true) (ha : notStar a = true) (hb : notStar b = true) (hl : (apos.endLine == cpos.line) = true) : M2 X o "get" apos a b cpos := by
  refine ⟨base_name ho _ _ _, ?_, hl, ?_⟩
  · rw [star_one ha, star_one hb]; rfl
  · rw [star_one ha, star_one hb]; rfl
def cMeth (c : SC) (o : Expr) (m : Str) (apos : Pos) (es : List Expr) (pos : Pos) : CE c (.Call (.Attribute o m apos) es [] pos) :=
  if hl : (apos.endLine == pos.line) = true ∧ isName o = true then match es with
    | [] => if hm : m = "pop" then ⟨.mth .pop (f c o).1 .anil, fun {Φ X k} g => by
          subst hm
          exact ev_pop ((f c o).2 g) (base_name hl.2 _ _ _) hl.1⟩ else gE
    | [a] => if hs : notStar a = true then
        if hm : m = "append" then ⟨.mth .append (f c o).1 (cArgs f c [a]).1, fun {Φ X k} g => by
          subst hm
          exact ev_append ((f c o).2 g) ((cArgs f c [a]).2 g) (base_name hl.2 _ _ _) (few_one hs _) hl.1 (star_one hs _)⟩
        else if hm : m = "extend" then ⟨.mth .extend (f c o).1 (cArgs f c [a]).1, fun {Φ X k} g => by
          subst hm
          exact ev_extend ((f c o).2 g) ((cArgs f c [a]).2 g) (base_name hl.2 _ _ _) (few_one hs _) hl.1 (star_one hs _)⟩
        else if hm : m = "pop" then ⟨.mth .popAt (f c o).1 (cArgs f c [a]).1, fun {Φ X k} g => by
          subst hm
          exact ev_popAt ((f c o).2 g) ((cArgs f c [a]).2 g) (base_name hl.2 _ _ _) (few_one hs _) hl.1 (star_one hs _)⟩
        else if hm : m = "count" then ⟨.mq false (f c o).1 (f c a).1, fun {Φ X k} g => by
          subst hm
          exact ev_cnt g.g.hu ((f c o).2 g) ((f c a).2 g) (base_name hl.2 _ _ _) (few_one hs _) hl.1 (star_one hs _)⟩
        else if hm : m = "index" then ⟨.mq true (f c o).1 (f c a).1, fun {Φ X k} g => by
          subst hm
          exact ev_idx g.g.hu ((f c o).2 g) ((f c a).2 g) (base_name hl.2 _ _ _) (few_one hs _) hl.1 (star_one hs _)⟩
        else gE
      else gE
    | [a, b] => if hm : m = "get" ∧ notStar a = true ∧ notStar b = true then ⟨.dget (f c o).1 (f c a).1 (f c b).1, fun {Φ X k} g => by
          obtain ⟨rfl, h2, h3⟩ := hm
          exact ev_dget g.g.hu ((f c o).2 g) ((f c a).2 g) ((f c b).2 g) (m2_get hl.2 h2 h3 hl.1)⟩ else gE
    | _ => gE
  else gE

/-! ### one step -/
def stepE (c : SC) : (e : Expr) → CE c e
  | .Name x p => cName c x p
  | .Constant v j p => cConst c v j p
  | .BinOp a op b p => cBin p op (f c a) (f c b)
  | .UnaryOp .USub a p => ⟨.neg (f c a).1, fun g => ev_neg ((f c a).2 g)⟩
  | .UnaryOp .Not a p => ⟨.not (f c a).1, fun g => ev_not ((f c a).2 g)⟩
  | .BoolOp op es p => ⟨(cBool f c op es).1, fun g => (cBool f c op es).2 g⟩
  | .IfExp q a b p => ⟨.ite (t c q).1 (f c a).1 (f c b).1, fun g => ev_ite ((t c q).2 g) ((f c a).2 g) ((f c b).2 g)⟩
  | .Compare a [op] [b] p => if h : behindInMarks op b = false then ⟨.cmp (coOf op).1 (f c a).1 (f c b).1, fun {Φ X k} g => by
        have e := (coOf op).2
        have r := ev_cmp (pos := p) (coOf op).1 g.g.hu ((f c a).2 g) ((f c b).2 g) (by rw [e]; exact h)
        rw [e] at r
        exact r⟩
      else gE
  | .Compare a [op, op'] [b, d] p => if h : lastMarks [op, op'] [b, d] = false then ⟨.chn (coOf op).1 (coOf op').1 (f c a).1 (f c b).1 (f c d).1, fun {Φ X k} g => by
        have e := (coOf op).2
        have e' := (coOf op').2
        have r := ev_chn (pos := p) (coOf op).1 (coOf op').1 g.g.hu ((f c a).2 g) ((f c b).2 g) ((f c d).2 g) (by rw [e, e']; exact h)
        rw [e, e'] at r
        exact r⟩
      else gE
  | .Tuple es kk p => ⟨.tup (cArgs f c es).1, fun g => ev_tup ((cArgs f c es).2 g)⟩
  | .List es p => ⟨.lst (cArgs f c es).1, fun g => ev_lst ((cArgs f c es).2 g)⟩
  | .Dict [] [] p => if c.dt p then ⟨.dnew true, fun _ => ev_dnewT⟩ else ⟨.dnew false, fun _ => ev_dnewK⟩
  | .Subscript a (.Slice lo hi none p2) p => ⟨.slc (f c a).1 (cOpt f c lo).1 (cOpt f c hi).1, fun g => ev_slc ((f c a).2 g) ((cOpt f c lo).2 g) ((cOpt f c hi).2 g)⟩
  | .Subscript a b p => if h : notSl b = true then ⟨.ix (f c a).1 (f c b).1, fun g => ev_ix g.g.hu ((f c a).2 g) ((f c b).2 g) (plain_ix h) (no_sl h)⟩ else gE
  | .ListComp elt [⟨tg, iter, ifs, 0⟩] scope p => cLc f t c elt tg iter ifs scope p
  | .Call (.Name x p0) es [] p => cCall f c x p0 es p
  | .Call (.Name x p0) [] kws p => cKw f c x p0 kws p
  | .Call (.Attribute o m ap) es [] p => cMeth f c o m ap es p
  | _ => gE
def stepT (c : SC) : (e : Expr) → CT c e
  | .UnaryOp .Not a p => ⟨.not (t c a).1, fun g => et_not ((t c a).2 g)⟩
  | .BoolOp op es p => ⟨(cBoolT t c op es).1, fun g => ((cBoolT t c op es).2 g).pt⟩
  | .Compare a [op] [b] p => if h : behindInMarks op b = false then ⟨.cmp (coOf op).1 (f c a).1 (f c b).1, fun {Φ X k} g => by
        have e := (coOf op).2
        have r := et_cmp (pos := p) (coOf op).1 g.g.hu ((f c a).2 g) ((f c b).2 g) (by rw [e]; exact h)
        rw [e] at r
        exact r⟩
      else gT
  | .Compare a [op, op'] [b, d] p => if h : lastMarks [op, op'] [b, d] = false then ⟨.chn (coOf op).1 (coOf op').1 (f c a).1 (f c b).1 (f c d).1, fun {Φ X k} g => by
        have e := (coOf op).2
        have e' := (coOf op').2
        have r := et_chn (pos := p) (coOf op).1 (coOf op').1 g.g.hu ((f c a).2 g) ((f c b).2 g) ((f c d).2 g) (by rw [e, e']; exact h)
        rw [e, e'] at r
        exact r⟩
      else gT
  | e => if h : plainT e = true then ⟨(f c e).1, fun g => et_val ((f c e).2 g) (true_plain h _)⟩ else gT
end
def cET [KwTab] : Nat → (∀ (c : SC) (e : Expr), CE c e) × (∀ (c : SC) (e : Expr), CT c e)
  | 0 => (fun _ _ => gE, fun _ _ => gT)
  | n + 1 => (fun c e => stepE (cET n).1 (cET n).2 c e, fun c e => stepT (cET n).1 (cET n).2 c e)
end Mi

/-! Mi17: statements from the text's tree. -/
namespace Mi
open PySem PySem.Spec PyProof.Rows L2

abbrev HP (X : Cx) : Prop := PassesOwn (model X.prog X.w) X.A X.env X.xe
section
variable [KwTab]
abbrev CS (c : SC) (st : Stmt) := {s : S // ∀ {Φ : Nat → Fn} {X : Cx} {k : Nat}, GC c Φ X k → HP X → PS X st (tS X.K Φ s)}
abbrev CSs (c : SC) (sts : List Stmt) := {s : S // ∀ {Φ : Nat → Fn} {X : Cx} {k : Nat}, GC c Φ X k → HP X → PSs X sts (tS X.K Φ s)}
end
section
variable [KwTab] {c : SC} {Φ : Nat → Fn} {X : Cx} {k : Nat} {e a b d v : Expr} {es ts : List Expr} {pos p0 : Pos} {st : Stmt} {sts : List Stmt}
def gS : CS c st := ⟨.never, fun _ _ => es_never⟩
def gSs : CSs c sts := ⟨.never, fun _ _ => es_nevers⟩
def notComp : Expr → Bool
  | .ListComp _ _ _ _ => false
  | .SetComp _ _ _ _ => false
  | .DictComp _ _ _ _ _ => false
  | _ => true
theorem sw_not (h : notComp v = true) (o : Option Expr) (l : Nat) (env : Env) : swapsWith v o l env = pure false := by
  cases v <;> first | rfl | cases h
theorem sw_cell {elt : Expr} {gs : List Comprehension} {scope : Scope} {pos py : Pos} {y : Str} {l : Nat} {env : Env} (hy : env.scope.names.lookup y = some .cell) : swapsWith (.ListComp elt gs scope pos) (some (.Name y py)) l env = pure false := by
  have ky : env.kindOf y = some .cell := hy
  unfold swapsWith
  simp [ky, show (NameKind.cell == NameKind.local) = false from rfl]
theorem sole_not (h : notComp v = true) (tg : Expr) (l : Nat) (env : Env) : swapsWithSole [tg] v l env = pure false := sw_not h _ _ _
def notTup : Expr → Bool
  | .Tuple _ _ _ => false
  | _ => true
theorem st_noT {kt : Nat} {pt : Pos} (h : notTup v = true) (env : Env) : swappedStores [.Tuple ts kt pt] v env = pure none := by
  cases v <;> first | rfl | cases h
theorem st_sub {o i : Expr} {p : Pos} (env : Env) : swappedStores [.Subscript o i p] v env = pure none := by
  unfold swappedStores
  cases v <;> rfl
theorem bk_fun {env : Env} (hk : env.scope.kind = .function) : env.blockKind = .function := by unfold Env.blockKind; rw [hk]; rfl
theorem starF : (a : Expr) → (match a with | .Starred _ _ => true | _ => false) = true → notStar a = false := by
  intro a h
  cases a <;> first | rfl | cases h
theorem line_eq {p q : Pos} (h : (p.line == q.line) = true) : p.line = q.line := by simpa using h
theorem st_two {x y : Str} {px py pt pt2 : Pos} {kt k2 : Nat} {env : Env} (hk : env.scope.kind = .function) (hx : env.scope.names.lookup x = some .local) (hy : env.scope.names.lookup y = some .local) (hl : (py.line == px.line) = true) (hne : x ≠ y) (ha : notStar a = true) (hb : notStar b = true)
    (hf : (foldedForSure 8 a && foldedForSure 8 b) = false) (hc : (constantsAlone 8 a && constantsAlone 8 b) = false) : swappedStores [.Tuple [.Name x px, .Name y py] kt pt] (.Tuple [a, b] k2 pt2) env = pure (some [x, y]) := by
  have kx : env.kindOf x = some .local := hx
  have ky : env.kindOf y = some .local := hy
  have hf2 : ¬ (foldedForSure 8 a = true ∧ foldedForSure 8 b = true) := fun z => by rw [z.1, z.2] at hf; cases hf
  have hc2 : ¬ (constantsAlone 8 a = true ∧ constantsAlone 8 b = true) := fun z => by rw [z.1, z.2] at hc; cases hc
  unfold swappedStores
  simp [bk_fun hk, kx, ky, Expr.pos, line_eq hl, List.filterMap_cons, List.eraseDups_cons, hne, Ne.symm hne, hf2, hc2]
  intro h
  rcases h with h | h
  · exact absurd (ha.symm.trans (starF _ h)) (by decide)
  · exact absurd (hb.symm.trans (starF _ h)) (by decide)
theorem st_three {x y z : Str} {px py pz pt pt2 : Pos} {kt k2 : Nat} {env : Env} (hk : env.scope.kind = .function) (hx : env.scope.names.lookup x = some .local) (hy : env.scope.names.lookup y = some .local) (hz : env.scope.names.lookup z = some .local) (hl : (py.line == px.line) = true) (hl2 : (pz.line == px.line) = true)
    (hxy : x ≠ y) (hxz : x ≠ z) (hyz : y ≠ z) (ha : notStar a = true) (hb : notStar b = true) (hd : notStar d = true)
    (hf : (foldedForSure 8 a && foldedForSure 8 b && foldedForSure 8 d) = false) (hc : (constantsAlone 8 a && constantsAlone 8 b && constantsAlone 8 d) = false) : swappedStores [.Tuple [.Name x px, .Name y py, .Name z pz] kt pt] (.Tuple [a, b, d] k2 pt2) env = pure (some [x, y, z]) := by
  have kx : env.kindOf x = some .local := hx
  have ky : env.kindOf y = some .local := hy
  have kz : env.kindOf z = some .local := hz
  have hf2 : ¬ (foldedForSure 8 a = true ∧ foldedForSure 8 b = true ∧ foldedForSure 8 d = true) := fun z => by rw [z.1, z.2.1, z.2.2] at hf; cases hf
  have hc2 : ¬ (constantsAlone 8 a = true ∧ constantsAlone 8 b = true ∧ constantsAlone 8 d = true) := fun z => by rw [z.1, z.2.1, z.2.2] at hc; cases hc
  unfold swappedStores
  simp [bk_fun hk, kx, ky, kz, Expr.pos, line_eq hl, line_eq hl2, List.filterMap_cons, List.eraseDups_cons, hxy, hxz, hyz, Ne.symm hxy, Ne.symm hxz, Ne.symm hyz, hf2, hc2]
  intro h
  rcases h with h | h | h
  · exact absurd (ha.symm.trans (starF _ h)) (by decide)
  · exact absurd (hb.symm.trans (starF _ h)) (by decide)
  · exact absurd (hd.symm.trans (starF _ h)) (by decide)
/-- stored through the tuple -/
theorem st_two0 {x y : Str} {px py pt pt2 : Pos} {kt k2 : Nat} {env : Env} (h : env.scope.names.lookup x ≠ some .local ∨ env.scope.names.lookup y ≠ some .local ∨ (foldedForSure 8 a && foldedForSure 8 b) = true) : swappedStores [.Tuple [.Name x px, .Name y py] kt pt] (.Tuple [a, b] k2 pt2) env = pure none := by
  have hx : ∀ z, env.scope.names.lookup z ≠ some .local → (env.kindOf z == some .local) = false := fun z hz => by
    unfold Env.kindOf
    cases e : env.scope.names.lookup z with
    | none => rfl
    | some q =>
      rw [e] at hz
      cases q <;> first | rfl | exact absurd rfl hz
  have hlen : (env.kindOf x == some .local) = false ∨ (env.kindOf y == some .local) = false → ∀ l, ([Expr.Name x px, Expr.Name y py].filterMap fun e => match e with
      | .Name id pos => if env.kindOf id == some .local && pos.line == l then some id else none
      | _ => none).length ≠ 2 := by
    intro h l
    rcases h with h | h
    · simp only [List.filterMap_cons, h, Bool.false_and, List.filterMap_nil, Bool.false_eq_true, if_false]
      split <;> simp
    · simp only [List.filterMap_cons, h, Bool.false_and, List.filterMap_nil, Bool.false_eq_true, if_false]
      split <;> simp
  have hno : (env.kindOf x == some .local) = false ∨ (env.kindOf y == some .local) = false ∨ ([a, b].all (foldedForSure 8)) = true := by
    rcases h with h | h | h
    · exact .inl (hx _ h)
    · exact .inr (.inl (hx _ h))
    · exact .inr (.inr (by simpa using h))
  unfold swappedStores
  dsimp only
  split
  · rfl
  · split
    · rfl
    · split
      · rfl
      · rename_i hn
        rcases hno with h | h | h
        · refine absurd ?_ hn
          rw [Bool.or_eq_true]
          exact .inl (bne_iff_ne.mpr (hlen (.inl h) _))
        · refine absurd ?_ hn
          rw [Bool.or_eq_true]
          exact .inl (bne_iff_ne.mpr (hlen (.inr h) _))
        · rw [if_pos h]
theorem st_many {kt k2 : Nat} {pt pt2 : Pos} {env : Env} (h : (ts.length == 2 || ts.length == 3) = false) : swappedStores [.Tuple ts kt pt] (.Tuple es k2 pt2) env = pure none := by
  unfold swappedStores
  dsimp only
  rw [if_pos (by rw [h]; rfl)]

/-! ### the pieces -/
def isFun (c : SC) : Bool := match c.sc.kind with
  | .function => true
  | _ => false
theorem isFun_ok {c : SC} {Φ : Nat → Fn} {X : Cx} {k : Nat} (g : GC c Φ X k) (h : isFun c = true) : X.env.scope.kind = .function := by
  rw [g.sc]
  unfold isFun at h
  split at h
  · assumption
  · cases h
abbrev locX (c : SC) (x : Str) : Prop := c.N[ixOf c.N x]? = some x ∧ c.sc.names.lookup x = some .local
variable (f : ∀ (c : SC) (e : Expr), CE c e) (t : ∀ (c : SC) (e : Expr), CT c e)
def cSet (c : SC) (x : Str) (p' : Pos) (v : Expr) (pos : Pos) : CS c (.Assign [.Name x p'] v pos) :=
  if h : c.N[ixOf c.N x]? = some x ∧ (c.sc.names.lookup x = some .local ∨ c.sc.names.lookup x = some .cell) ∧ (c.fnB x = true ∨ c.sc.names.lookup x = some .local) ∧ (notComp v = true ∨ ((match v with | .ListComp _ _ _ _ => true | _ => false) = true ∧ c.sc.names.lookup x = some .cell)) then
    ⟨.asg (.nm (ixOf c.N x)) (f c v).1, fun {Φ X k} g _ => es_set g.g.nd (by rw [g.N]; exact h.1) (by unfold L2.Loc; rw [g.sc]; exact h.2.1) ((f c v).2 g) (by
      rcases h.2.2.2 with z | ⟨z, w⟩
      · exact sw_not z _ _ _
      · cases v <;> first | exact sw_cell (by rw [g.sc]; exact w) | cases z) (h.2.2.1.imp (g.fn x) fun z => by rw [g.sc]; exact z)⟩
  else gS
structure SwOk (c : SC) (y : Str) (py pos : Pos) (scope : Scope) : Prop where
  fn : isFun c = true
  loc : locX c y
  line : (py.line == pos.line) = true
  nown : (scope.names.any fun (n, k) => n == y && (k == .local || k == .cell)) = false
def cSetLc (c : SC) (y : Str) (py : Pos) (elt tg iter : Expr) (ifs : List Expr) (scope : Scope) (pos spos : Pos) : CS c (.Assign [.Name y py] (.ListComp elt [⟨tg, iter, ifs, 0⟩] scope pos) spos) :=
  let ri := cIter f c tg iter
  let rt := cTarget (c.inner scope) 4 tg
  let rc := cIfs t (c.inner scope) ifs
  let re := f (c.inner scope) elt
  if h : lcOk c scope rt.1 iter = true ∧ isFun c = true ∧ locX c y ∧ (py.line == pos.line) = true ∧ (scope.names.any fun (n, k) => n == y && (k == .local || k == .cell)) = false then
    ⟨.asg (.nm (ixOf c.N y)) (.lc ((ownOf c.N scope).map (·.2)) rt.1 ri.1 rc.1 re.1), fun {Φ X k} g _ => by
      obtain ⟨h0, h1, h2, h3, h4⟩ := h
      have L := lcOk_ok h0
      obtain ⟨i1, i2⟩ := ri.2 g
      have hl : X.env.scope.names.lookup y = some .local := by rw [g.sc]; exact h2.2
      exact es_setLc g.g (by rw [g.N]; exact h2.1) hl (sw_true (isFun_ok g h1) hl h3 h4) i1 i2 (L.blkOk g) L.slots (fun s H C cl fp => rt.2 (g.inner scope s H C cl fp)) (fun s H C cl fp => rc.2 (g.inner scope s H C cl fp)) (fun s H C cl fp => re.2 (g.inner scope s H C cl fp)) (folded L.set _)⟩
  else cSet f c y py _ spos
/-- a, b = x, y -/
def gnames (c : SC) : (ts : List Expr) → Option {is : List Nat // ∀ {Φ : Nat → Fn} {X : Cx} {k : Nat}, GC c Φ X k → PGs X ts (gNames is) ∧ (assignEach ts X.env).length = is.length ∧ (assignEach ts X.env).findIdx? (·.1) = none}
  | [] => some ⟨[], fun _ => ⟨pgs_nil, rfl, rfl⟩⟩
  | .Name x p :: ts => if h : c.N[ixOf c.N x]? = some x ∧ (c.sc.names.lookup x = some .local ∨ c.sc.names.lookup x = some .cell) ∧ (c.fnB x = true ∨ c.sc.names.lookup x = some .local) then match gnames c ts with
      | some r => some ⟨ixOf c.N x :: r.1, fun {Φ X k} g => by
          obtain ⟨h1, h2, h3⟩ := r.2 g
          refine ⟨pgs_cons (pg_name g.g.nd (by rw [g.N]; exact h.1) (by unfold L2.Loc; rw [g.sc]; exact h.2.1) (h.2.2.imp (g.fn x) fun z => by rw [g.sc]; exact z)) h1 rfl, ?_, ?_⟩
          · show (assignEach ts X.env).length + 1 = _
            rw [h2]; rfl
          · show List.findIdx? _ ((false, assign (.Name x p) X.env) :: assignEach ts X.env) = none
            rw [List.findIdx?_cons, h3]; rfl⟩
      | none => none
    else none
  | _ => none
def cParG (c : SC) (ts : List Expr) (kt : Nat) (pt : Pos) (es : List Expr) (k2 : Nat) (pt2 pos : Pos) (hs : ∀ {Φ : Nat → Fn} {X : Cx} {k : Nat}, GC c Φ X k → swappedStores [.Tuple ts kt pt] (.Tuple es k2 pt2) X.env = pure none) : CS c (.Assign [.Tuple ts kt pt] (.Tuple es k2 pt2) pos) :=
  match gnames c ts with
  | some r => if h : r.1.length ≤ lim then ⟨.par r.1 (cArgs f c es).1, fun {Φ X k} g _ => by
      obtain ⟨h1, h2, h3⟩ := r.2 g
      exact es_parG g.g.calm ((cArgs f c es).2 g) h1 h2 h3 h rfl (hs g) rfl⟩ else gS
  | none => gS
def cPar2 (c : SC) (x y : Str) (px py : Pos) (kt : Nat) (pt : Pos) (a b : Expr) (k2 : Nat) (pt2 pos : Pos) : CS c (.Assign [.Tuple [.Name x px, .Name y py] kt pt] (.Tuple [a, b] k2 pt2) pos) :=
  if h : c.sc.names.lookup x ≠ some .local ∨ c.sc.names.lookup y ≠ some .local ∨ (foldedForSure 8 a && foldedForSure 8 b) = true then cParG f c _ kt pt _ k2 pt2 pos (fun {Φ X k} g => st_two0 (by rw [g.sc]; exact h))
  else if h2 : isFun c = true ∧ c.N[ixOf c.N x]? = some x ∧ c.N[ixOf c.N y]? = some y ∧ (py.line == px.line) = true ∧ x ≠ y ∧ notStar a = true ∧ notStar b = true ∧ (constantsAlone 8 a && constantsAlone 8 b) = false then
    ⟨.par [ixOf c.N x, ixOf c.N y] (cArgs f c [a, b]).1, fun {Φ X k} g _ => by
      obtain ⟨e1, e2⟩ := not_or.mp h
      obtain ⟨e2, e3⟩ := not_or.mp e2
      obtain ⟨h1, h2, h3, h4, h5, h6, h7, h8⟩ := h2
      have lx : X.env.scope.names.lookup x = some .local := by rw [g.sc]; exact Decidable.not_not.mp e1
      have ly : X.env.scope.names.lookup y = some .local := by rw [g.sc]; exact Decidable.not_not.mp e2
      have e3 := eq_false_of_ne_true e3
      exact es_par2 g.g.calm g.g.nd (by rw [g.N]; exact h2) (by rw [g.N]; exact h3) (fun z => h5 (by rw [z, h3] at h2; exact (Option.some.inj h2).symm)) lx ly ((cArgs f c [a, b]).2 g) (st_two (isFun_ok g h1) lx ly h4 h5 h6 h7 e3 h8) rfl⟩
  else gS
def cPar3 (c : SC) (x y z : Str) (px py pz : Pos) (kt : Nat) (pt : Pos) (a b d : Expr) (k2 : Nat) (pt2 pos : Pos) : CS c (.Assign [.Tuple [.Name x px, .Name y py, .Name z pz] kt pt] (.Tuple [a, b, d] k2 pt2) pos) :=
  if h2 : isFun c = true ∧ locX c x ∧ locX c y ∧ locX c z ∧ (py.line == px.line) = true ∧ (pz.line == px.line) = true ∧ x ≠ y ∧ x ≠ z ∧ y ≠ z ∧ notStar a = true ∧ notStar b = true ∧ notStar d = true ∧ (foldedForSure 8 a && foldedForSure 8 b && foldedForSure 8 d) = false ∧ (constantsAlone 8 a && constantsAlone 8 b && constantsAlone 8 d) = false then
    ⟨.par [ixOf c.N x, ixOf c.N y, ixOf c.N z] (cArgs f c [a, b, d]).1, fun {Φ X k} g _ => by
      obtain ⟨h1, h2, h3, h4, h5, h6, h7, h8, h9, h10, h11, h12, h13, h14⟩ := h2
      have lx : X.env.scope.names.lookup x = some .local := by rw [g.sc]; exact h2.2
      have ly : X.env.scope.names.lookup y = some .local := by rw [g.sc]; exact h3.2
      have lz : X.env.scope.names.lookup z = some .local := by rw [g.sc]; exact h4.2
      exact es_par3 g.g.calm g.g.nd (by rw [g.N]; exact h2.1) (by rw [g.N]; exact h3.1) (by rw [g.N]; exact h4.1) (fun w => h7 (by have q := h2.1; rw [w, h3.1] at q; exact (Option.some.inj q).symm))
        (fun w => h8 (by have q := h2.1; rw [w, h4.1] at q; exact (Option.some.inj q).symm)) (fun w => h9 (by have q := h3.1; rw [w, h4.1] at q; exact (Option.some.inj q).symm)) lx ly lz ((cArgs f c [a, b, d]).2 g)
        (st_three (isFun_ok g h1) lx ly lz h5 h6 h7 h8 h9 h10 h11 h12 h13 h14) rfl⟩
  else gS
def cAsgT (c : SC) (ts : List Expr) (kt : Nat) (pt : Pos) (v : Expr) (pos : Pos) : CS c (.Assign [.Tuple ts kt pt] v pos) :=
  match cTgs c (cTarget c 3) ts with
  | some r => if h : notComp v = true ∧ notTup v = true then ⟨.asg (.tp r.1) (f c v).1, fun {Φ X k} g _ => by
      obtain ⟨h1, h2, h3⟩ := r.2 g
      exact es_asgT ((f c v).2 g) (eg_tup g.g.calm h1 h2 rfl h3) (sole_not h.1 _ _ _) (st_noT h.2 _) rfl⟩ else gS
  | none => gS
def cAsg (c : SC) (tg v : Expr) (pos : Pos) : CS c (.Assign [tg] v pos) := match tg with
  | .Name x p' => match v with
    | .ListComp elt [⟨tg, iter, ifs, 0⟩] scope p2 => cSetLc f t c x p' elt tg iter ifs scope p2 pos
    | v => cSet f c x p' v pos
  | .Tuple ts kt pt => match v with
    | .Tuple es k2 pt2 => match ts, es with
      | [.Name x px, .Name y py], [a, b] => cPar2 f c x y px py kt pt a b k2 pt2 pos
      | [.Name x px, .Name y py, .Name z pz], [a, b, d] => cPar3 f c x y z px py pz kt pt a b d k2 pt2 pos
      | ts, es => if h : (ts.length == 2 || ts.length == 3) = false then cParG f c ts kt pt es k2 pt2 pos (fun _ => st_many h) else gS
    | v => cAsgT f c ts kt pt v pos
  | .Subscript o i p' => if h : notComp v = true ∧ notSl i = true then ⟨.put (f c o).1 (f c i).1 (f c v).1, fun {Φ X k} g _ =>
      es_put g.g.hu ((f c o).2 g) ((f c i).2 g) ((f c v).2 g) (fun w => by cases i <;> first | rfl | (cases h.2)) (sole_not h.1 _ _ _) (st_sub _) rfl (sw_not h.1 _ _ _)⟩ else gS
  | _ => gS
def cBlock (h : ∀ st, CS c st) : (sts : List Stmt) → CSs c sts
  | [] => ⟨.nop, fun _ _ => es_nil⟩
  | st :: sts => ⟨.seq (h st).1 (cBlock h sts).1, fun g p => es_seq ((h st).2 g p) ((cBlock h sts).2 g p)⟩
def stepS (h : ∀ sts, CSs c sts) : (st : Stmt) → CS c st
  | .Expr (.Constant (.str x) j p) p' => ⟨.nop, fun _ _ => es_doc⟩
  | .Expr e pos => if hn : notComp e = true then ⟨.exp (f c e).1, fun g _ => es_exp ((f c e).2 g) (sw_not hn _ _ _)⟩ else gS
  | .Assign [tg] v pos => cAsg f t c tg v pos
  | .Return (some e) pos => ⟨.ret (f c e).1, fun g _ => es_ret ((f c e).2 g)⟩
  | .Return none pos => ⟨.retN, fun _ _ => es_retN⟩
  | .If q a b pos => ⟨.ite (t c q).1 (h a).1 (h b).1, fun g p => es_ite ((t c q).2 g) ((h a).2 g p) ((h b).2 g p)⟩
  | .While q a [] pos => ⟨wp (.whl c.fuel (t c q).1 (wp (h a).1 (c.wp pos))) (c.wp pos), fun g p => (es_whl c.fuel p ((t c q).2 g) (((h a).2 g p).imp fun _ _ _ z => ts_wp z)).imp fun _ _ _ z => ts_wp z⟩
  | .For tg iter a [] pos => if hs : notSet iter = true then ⟨wp (.for_ (cTarget c 4 tg).1 (cIter f c tg iter).1 (wp (h a).1 (c.wp pos))) (c.wp pos), fun {Φ X k} g p => by
      obtain ⟨i1, i2⟩ := (cIter f c tg iter).2 g
      exact (es_for p g.g.calm i1 i2 ((cTarget c 4 tg).2 g) (((h a).2 g p).imp fun _ _ _ z => ts_wp z) (folded hs _)).imp fun _ _ _ z => ts_wp z⟩ else gS
  | .Pass p => ⟨.nop, fun _ _ => es_pass⟩
  | .Break p => ⟨.brk, fun _ _ => es_brk⟩
  | .Continue p => ⟨.cnt, fun _ _ => es_cnt⟩
  | _ => gS
end
def cSs [KwTab] (n : Nat) (c : SC) : Nat → (sts : List Stmt) → CSs c sts
  | 0, _ => gSs
  | m + 1, sts => cBlock (stepS (cET n).1 (cET n).2 (cSs n c m)) sts
end Mi

/-! Mi18: a def by its body; the law's end. -/
namespace Mi
open PySem PySem.Spec PyProof.Rows L2

/-- what a module gives: its defs so far, its constants -/
structure MF [KwTab] (nms : List Str) (cst : List (Str × D)) (Φ : Nat → Fn) (P : Program) (w : World) (K : PySem.W.Frag) (mg : Str → Option Value) (base : Heap) (k : Nat) : Prop where
  blt : ∀ x : Str, x ∈ (["len", "sum", "all", "any", "int", "abs", "list", "tuple", "sorted", "max", "min", "repr", "isinstance", "range", "enumerate", "zip", "bool", "str", "dict"] : List Str) → mg x = none
  fns : ∀ (i : Nat) (x : Str) (as : List Arg) (r : Ret × List MO), nms[i]? = some x → Φ i as = some r → ∃ f fd ps, mg x = some (.ref f) ∧ PySem.W.keepIn K (.ref f) = true ∧ (Binds K fd ps [] ∧ KwA K x fd ps) ∧ FnG P w K mg base k f fd ps (Φ i)
  cst : ∀ x d, cst.lookup x = some d → ∃ u v, mg x = some u ∧ RelV v u ∧ ∀ B, Rp K B v d

section
variable {K : PySem.W.Frag} {σ σ0 : L2.St} {H B H0 B0 : Hp} {env : En} {fs : List Addr}
theorem outs_ok (s : SI K H0 B0 fs σ0 σ H B env) : ∀ {as : List Arg} {vs : List V} {n : Nat} {ms : List MO}, Paired (ArgOk K B0 H0) vs as → (∀ (j : Nat) (v : V), vs[j]? = some v → σ0[n + j]? = some (some v)) → outsOf as (env.drop n) = some ms → Paired (OutOk K H B) (ownA vs as) ms
  | [], _, n, ms, .nil, _, h => by
    cases e : env.drop n <;> (rw [e] at h; cases h; exact .nil)
  | a :: as, _, n, ms, .cons (a := v) (l₁ := vs) r t, hσ, h => by
    cases e : env.drop n with
    | nil => rw [e] at h; cases a <;> cases h
    | cons t0 rest =>
      rw [e] at h
      have er : env.drop (n + 1) = rest := by rw [← List.drop_drop, e]; rfl
      have e0 : env[n]? = some t0 := by
        have := congrArg List.head? e
        rw [List.head?_drop] at this
        exact this
      have hσ' : ∀ (j : Nat) (v : V), vs[j]? = some v → σ0[n + 1 + j]? = some (some v) := fun j v hj => by
        have := hσ (j + 1) v (by simpa using hj)
        rw [show n + 1 + j = n + (j + 1) by omega]
        exact this
      cases a with
      | dat d =>
        have h : outsOf as rest = some ms := h
        rw [← er] at h
        have ih := outs_ok s t hσ' h
        cases v <;> exact ih
      | own m =>
        obtain ⟨p, o, rfl, _⟩ := r
        unfold outsOf at h
        split at h
        · rename_i e2; cases e2
        · rename_i e2 _; cases e2
        · rename_i as' m' rest' e2 e3
          cases e2
          cases e3
          split at h
          · rename_i ms' h2
            cases h
            rw [← er] at h2
            have ih := outs_ok s t hσ' h2
            refine .cons ?_ ih
            obtain ⟨q, ob, pq, nb, hq, mo⟩ := s.re.own e0
            have hp := s.pk e0 rfl rfl
            have h0 := hσ 0 _ rfl
            rw [Nat.add_zero] at h0
            rw [At, hp, h0] at pq
            cases pq
            exact ⟨nb, ob, hq, mo⟩
          · cases h
        · cases h
end

section
variable {K : PySem.W.Frag} {H B : Hp}
theorem start_get {N : List Str} {vs : List V} {j : Nat} {v : V} (h : vs[j]? = some v) : (start N vs)[j]? = some (some v) := by
  have lt := get_lt h
  unfold L2.start
  rw [List.getElem?_append_left (by rw [List.length_map]; exact lt), List.getElem?_map, h]
  rfl
theorem own_mem : ∀ {vs : List V} {as : List Arg} {j : Nat} {a : Addr} {m : MO}, vs[j]? = some (.ref a) → as[j]? = some (.own m) → a ∈ ownA vs as
  | v :: vs, q :: as, 0, a, m, h1, h2 => by
    simp at h1 h2
    subst h1 h2
    exact List.mem_cons_self
  | v :: vs, q :: as, j + 1, a, m, h1, h2 => by
    have ih := own_mem (vs := vs) (as := as) (j := j) (by simpa using h1) (by simpa using h2)
    cases v <;> cases q <;> first | exact ih | exact List.mem_cons_of_mem _ ih
  | [], _, _, _, _, h, _ => by simp at h
  | _ :: _, [], _, _, _, _, h => by simp at h
theorem own_inj : ∀ {vs : List V} {as : List Arg} {i j : Nat} {a : Addr} {m m' : MO}, (ownA vs as).Nodup → vs[i]? = some (.ref a) → as[i]? = some (.own m) → vs[j]? = some (.ref a) → as[j]? = some (.own m') → i = j
  | v :: vs, q :: as, 0, 0, _, _, _, _, _, _, _, _ => rfl
  | v :: vs, q :: as, 0, j + 1, a, m, m', nd, h1, h2, h3, h4 => by
    simp at h1 h2
    subst h1 h2
    exact absurd (own_mem (by simpa using h3) (by simpa using h4)) (List.nodup_cons.mp nd).1
  | v :: vs, q :: as, i + 1, 0, a, m, m', nd, h1, h2, h3, h4 => by
    simp at h3 h4
    subst h3 h4
    exact absurd (own_mem (by simpa using h1) (by simpa using h2)) (List.nodup_cons.mp nd).1
  | v :: vs, q :: as, i + 1, j + 1, a, m, m', nd, h1, h2, h3, h4 => by
    have nd' : (ownA vs as).Nodup := by
      cases v <;> cases q <;> first | exact nd | exact (List.nodup_cons.mp nd).2
    have h1 : vs[i]? = some (.ref a) := by simpa using h1
    have h2 : as[i]? = some (.own m) := by simpa using h2
    have h3 : vs[j]? = some (.ref a) := by simpa using h3
    have h4 : as[j]? = some (.own m') := by simpa using h4
    have e : i = j := own_inj nd' h1 h2 h3 h4
    rw [e]
  | [], _, _, _, _, _, _, _, h, _, _, _ => by simp at h
  | _ :: _, [], _, _, _, _, _, _, _, h, _, _ => by simp at h
theorem args_at : ∀ {vs : List V} {as : List Arg} {j : Nat} {q : Arg}, Paired (ArgOk K B H) vs as → as[j]? = some q → ∃ v, vs[j]? = some v ∧ ArgOk K B H v q := fun h e => paired_at h e
/-- the slots at the call -/
theorem start_env {as : List Arg} {m j : Nat} {t : Slot} (h : (as.map Arg.slot ++ List.replicate m Slot.un)[j]? = some t) : t = .un ∨ ∃ q, as[j]? = some q ∧ t = q.slot := by
  rcases Nat.lt_or_ge j as.length with lt | ge
  · rw [List.getElem?_append_left (by rw [List.length_map]; exact lt), List.getElem?_map] at h
    cases e : as[j]? with
    | none => rw [e] at h; cases h
    | some q => rw [e] at h; cases h; exact .inr ⟨q, rfl, rfl⟩
  · rw [List.getElem?_append_right (by rw [List.length_map]; exact ge)] at h
    exact .inl (List.eq_of_mem_replicate (List.mem_of_getElem? h))
theorem start_si {N : List Str} {vs : List V} {as : List Arg} (sb : Sub B H) (pa : Paired (ArgOk K B H) vs as) (nd : (ownA vs as).Nodup) (hl : as.length ≤ N.length) : SI K H B (ownA vs as) (start N vs) (start N vs) H B (as.map Arg.slot ++ List.replicate (N.length - as.length) Slot.un) := by
  have lv := paired_len pa
  have ow : ∀ {j : Nat} {t : Slot}, (as.map Arg.slot ++ List.replicate (N.length - as.length) Slot.un)[j]? = some t → t.mut = true → ∃ m a o, as[j]? = some (.own m) ∧ t = .own false m ∧ vs[j]? = some (.ref a) ∧ B a = none ∧ H a = some o ∧ MOk K B o m := fun {j t} h m => by
    rcases start_env h with rfl | ⟨q, hq, rfl⟩
    · cases m
    · cases q with
      | dat d => cases m
      | own m' =>
        obtain ⟨v, hv, r⟩ := args_at pa hq
        obtain ⟨a, o, rfl, x, y, z⟩ := r
        exact ⟨m', a, o, hq, rfl, hv, x, y, z⟩
  have at_eq : ∀ {j : Nat} {a p : Addr}, vs[j]? = some (.ref a) → At (start N vs) j p → a = p := fun {j a p} h x => by
    rw [At, start_get h] at x
    cases x; rfl
  refine ⟨⟨sb, ?_, fun {j d} h => ?_, fun {j f m} h => ?_, fun {j f m} h => ?_, fun {i j s t p} h1 h2 m1 m2 x1 x2 => ?_⟩, Sub.refl _, fun h => h, fun h _ => h, fun h => .inl ⟨_, h⟩, fun {i s a} h m x => ?_, fun _ _ _ => rfl⟩
  · rw [List.length_append, List.length_map, List.length_replicate]
    unfold L2.start
    rw [List.length_append, List.length_map, List.length_replicate, lv]
  · rcases start_env h with e | ⟨q, hq, e⟩
    · cases e
    · cases q with
      | own m => cases e
      | dat d' =>
        cases e
        obtain ⟨v, hv, r⟩ := args_at pa hq
        exact ⟨v, start_get hv, r⟩
  · obtain ⟨m', a, o, h1, h2, h3, h4⟩ := ow h rfl
    cases h2
    exact ⟨a, o, start_get h3, h4⟩
  · rcases start_env h with e | ⟨q, hq, e⟩
    · cases e
    · cases q <;> cases e
  · obtain ⟨m', a, o, g1, g2, g3, g4⟩ := ow h1 m1
    obtain ⟨m'', b, o', f1, f2, f3, f4⟩ := ow h2 m2
    cases at_eq g3 x1
    cases at_eq f3 x2
    exact own_inj nd g3 g1 f3 f1
  · obtain ⟨m', b, o, g1, rfl, g3, g4⟩ := ow h m
    cases at_eq g3 x
    exact .inr ⟨rfl, own_mem g3 g1⟩
end

/-- a def by its body -/
theorem fn_G [KwTab] {nms : List Str} {cst : List (Str × D)} {Φ : Nat → Fn} {P : Program} {w : World} {K : PySem.W.Frag} {mg : Str → Option Value} {base : Heap} {k : Nat} {f : Addr} {fd : FuncData} {st : Stmt} {x qual : Str} {N ps : List Str} {s : S} {dt : Pos → Bool} {fuel : Nat} {wpf : Pos → List Nat}
    (M : MF nms cst Φ P w K mg base k) (Fu : Fun K x qual st f fd) (Sc : FnScope N ps (defScope st))
    (hb : ∀ {Φ : Nat → Fn} {X : Cx} {k : Nat}, GC ⟨defScope st, N, fun _ => true, cst, nms, dt, fuel, wpf⟩ Φ X k → HP X → PSs X (defBody st) (tS X.K Φ s)) : FnG P w K mg base (k + 1) f fd ps (semF Φ ps.length N.length s) := by
  have hpl : ps.length ≤ N.length := by
    have := congrArg List.length Sc.pre
    rw [List.length_take] at this
    omega
  constructor
  · intro as r h
    unfold semF at h
    split at h
    · assumption
    · cases h
  intro A outer s0 H args us vs Q hr hg e0 hbd r hsp
  obtain ⟨oc, od, kV, doc, pm, an, cdv, ct, osl, rfl, lk, hcd⟩ := Fu.ex
  obtain ⟨B, as, rt, ms, sb, pa, nd, hF, kk⟩ := hsp
  unfold semF at hF
  split at hF
  case isFalse => cases hF
  rename_i hlen
  have lv := paired_len pa
  have hl : vs.length = ps.length := by rw [lv]; exact hlen
  have keep := fun b o e => (e0.bs b o e).1
  have KX : K.In s0.heap := e0.mod.kin.keeps keep
  have nl : s0.heap.NoLimit := e0.mod.nolimit.keeps keep
  refine codeAny_call_function hr.depth (KX _ _ lk) rfl Sc.co Sc.gen rfl (PySem.W.codeRec_of KX hcd) (hbd _ _ _ _ ?_)
  refine wpAny_newFunctionEnv_cells Sc.kind (fun y hy => (Sc.par y.1 (List.of_mem_zip hy).1).imp id fun q => ⟨q, PySem.W.cellsFrom_some _ _ _ (.inl q)⟩) fun env he s1 x1 => ?_
  subst he
  refine ⟨nl.keeps x1.toInCall.keep, codeAny_func ?_⟩
  have I := inv_start (CX := CX0) (E := E0) (cd := cdv) (f := f) (qual := qual) Sc hr.hd e0 hl r x1
  have gc : GC ⟨defScope st, N, fun _ => true, cst, nms, dt, fuel, wpf⟩ Φ (cxOf CX0 P w K mg base N qual (defScope st) f cdv A outer s0 H E0).nox k :=
    ⟨⟨rfl, Sc.nd, hr.deeper _, hg, M.blt, M.fns⟩, rfl, rfl, fun _ _ => rfl, M.cst⟩
  have body := (hb gc (PassesOwn.never)).nox
  have ss := start_si (N := N) sb pa nd (by rw [hlen]; exact hpl)
  rw [hlen] at ss
  have fin : ∀ {σ' : L2.St} {H' B' : Hp} {e : En} {v : V} {q : Ret}, SI K H B (ownA vs as) (start N vs) σ' H' B' e → RetOk K H H' B' v q → outsOf as e = some ms → q = rt → Q v H' := fun {σ' H' B' e v q} s' rr ho eq => by
    subst eq
    exact kk v H' B' ⟨s'.bb, s'.re.sub, s'.th, s'.fr, s'.fre⟩ rr (outs_ok (n := 0) s' pa (fun j v hj => by rw [Nat.zero_add]; exact start_get hj) (by rw [List.drop_zero]; exact ho))
  have hq : tS K Φ s { nx := fun _ H' => Q .non H', rt := Q } (start N vs) H := by
    split at hF
    · rename_i r1 e1 he
      split at hF
      · rename_i ms1 ho
        cases hF
        exact ⟨H, B, _, _, B, _, _, ss, he, fun v σ' H' B' s' _ rr => fin s' rr ho rfl⟩
      · cases hF
    · rename_i e1 he
      split at hF
      · rename_i ms1 ho
        cases hF
        exact ⟨H, B, _, _, B, _, _, ss, he, fun σ' H' B' s' _ => fin s' (show RetOk K H H' B' V.non (.val .non) from .non) ho rfl⟩
      · cases hF
    · cases hF
  refine wpAny_mono (body.run [] s1 (start N vs) H _ I hq) (fun fl s' hs => ?_) fun e s' hs => hs
  have out : ∀ {σ' : L2.St} {H' : Hp} {v : V} {u : Value}, Inv (cxOf CX0 P w K mg base N qual (defScope st) f cdv A outer s0 H E0) [] σ' H' s' → RelV v u → Q v H' → L2.CE outer P w H s0 Q u s' := fun {σ' H' v u} J rv q => ⟨v, H', J.os, J.bare, J.base, J.hok, rv, q⟩
  cases fl with
  | next => obtain ⟨σ', H', J, q⟩ := hs; exact out (v := V.non) (u := Value.none) J rfl q
  | ret u => obtain ⟨v, σ', H', J, rv, q⟩ := hs; exact out J rv q
  | brk => obtain ⟨_, _, _, q⟩ := hs; cases q
  | cont => obtain ⟨_, _, _, q⟩ := hs; cases q
end Mi

/-! Mi19: the law's end. -/
namespace Mi
open PySem PySem.Spec PyProof.Rows L2

/-- the law's call, from its promise -/
theorem law_go {P : Program} {w : World} {K : PySem.W.Frag} {mg mb : Str → Option Value} {k : Nat} {fa sa : Addr} {fd : FuncData} {x : Str} {F : Fn} {t : Shared} {us : List Value} {ns : List Int}
    (kin : K.In t.heap) (nsg : t.heap.Ns mainGlobals mg) (nsb : t.heap.Ns builtinsNs mb) (bb : ∀ y : Str, y ≠ "__name__" → mb y = bootBuiltins y) (nl : t.heap.NoLimit) (g0 : t.gens = #[])
    (hs : t.heap.get? sa = some { cls := .type "list", data := .seq us.toArray }) (hi : IntsAre us ns) (hz : ns.length ≤ sizeLine) (hr : Room k callerA)
    (G : ∀ base : Heap, K.In base → base.Ns mainGlobals mg → FnG P w K mg base k fa fd [x] F) (bd : ∀ (s : Shared) (u : Value), BindsTo s fd ⟨[u], []⟩ [(x, u)]) (ht : F [.dat (.scr ns)] = some (.val (.bl true), [])) :
    codeAny (model P w) callerA (.call (.ref fa) ⟨[.ref sa], []⟩) (fun r s' => r = .ok (.ret (.bool true)) ∧ OldK t.heap s'.heap ∧ s'.os = t.os ∧ AllBare s'.gens) t := by
  -- H tracks the script at most
  suffices main : ∀ H : Hp, (∀ b u, H b = some u → b = sa ∧ K.lookup sa = none ∧ u = .frz { cls := .type "list", data := .seq us.toArray } (.lst (ns.map V.int))) → SqL K H sa (ns.map V.int) → HOk P w H t.heap →
      codeAny (model P w) callerA (.call (.ref fa) ⟨[.ref sa], []⟩) (fun r s' => r = .ok (.ret (.bool true)) ∧ OldK t.heap s'.heap ∧ s'.os = t.os ∧ AllBare s'.gens) t by
    have rv := vals_ints hi
    have hlen := hi.length
    cases hk : K.lookup sa with
    | some ob =>
      have e := kin sa ob hk
      rw [hs] at e
      cases e
      exact main (fun _ => none) (fun b u z => by cases z) (.inr ⟨_, us.toArray, _, hk, rfl, rfl, rfl, (by rw [List.size_toArray, hlen]; exact hz), by simpa using rv⟩) fun b u z => by cases z
    | none =>
      let O : HO := .frz { cls := .type "list", data := .seq us.toArray } (.lst (ns.map V.int))
      have at_ : ∀ b u, L2.upd (fun _ => none) sa O b = some u → b = sa ∧ u = O := fun b u z => by
        by_cases e : b = sa
        · subst e
          rw [upd_same] at z
          cases z
          exact ⟨rfl, rfl⟩
        · rw [upd_ne e] at z
          cases z
      refine main (L2.upd (fun _ => none) sa O) (fun b u z => ?_) (.inl (.inr ⟨_, upd_same⟩)) fun b u z => ?_
      · obtain ⟨e1, e2⟩ := at_ b u z
        exact ⟨e1, hk, e2⟩
      · obtain ⟨rfl, rfl⟩ := at_ b u z
        exact ⟨hs, (by rw [List.length_map]; exact hz), us, _, rv, hs⟩
  intro H only sq hok
  have free : ∀ {b : Addr} {o : Obj}, t.heap.get? b = some o → b ≠ sa ∨ K.lookup sa ≠ none → H b = none := fun {b o} e h => by
    cases q : H b with
    | none => rfl
    | some u =>
      obtain ⟨rfl, kn, _⟩ := only b u q
      rcases h with h | h
      · exact absurd rfl h
      · exact absurd kn h
  have ns' : ∀ {b : Addr} {m : Str → Option Value}, t.heap.Ns b m → (hidT t.heap H).Ns b m := fun {b m} ⟨o, es, ep, e, d, r⟩ =>
    ⟨o, es, ep, hidT_get e (free e (.inl fun z => by
      subst z
      rw [hs] at e
      cases e
      have d' : Data.seq us.toArray _ = Data.dict es ep := d
      cases d')), d, r⟩
  have kin' : K.In (hidT t.heap H) := fun b o e => by
    refine hidT_get (kin b o e) ?_
    cases q : H b with
    | none => rfl
    | some u =>
      obtain ⟨rfl, kn, _⟩ := only b u q
      rw [kn] at e
      cases e
  obtain ⟨mc, l1, l2⟩ := nl
  have mod : Mod K mg (hidT t.heap H) := ⟨kin', ns' nsg, ⟨mb, ns' nsb, bb⟩, ⟨mc, ns' l1, l2⟩⟩
  have none' : ∀ b : Addr, b ∉ frs ([] : List Env) := fun b z => by cases z
  have en : Env0 P w K mg (hidT t.heap H) callerA [] t H := ⟨rfl, mod, fun b o e => of_hidT e, Nat.le_of_eq (hidT_size _ _), trivial, fun b z => absurd z (none' b), hok, .of_eq g0⟩
  have sp : spF K F [.ref sa] H fun v _ => v = .bl true := ⟨H, [.dat (.scr ns)], .val (.bl true), [], Sub.refl H, .cons (show Rp K H (.ref sa) (.scr ns) from .scr sq) .nil, List.nodup_nil, ht, fun v H' B' _ r _ => by
    have r' : Rp K B' v (.bl true) := r
    cases r'
    exact rfl⟩
  refine codeAny_mono ((G _ kin' (ns' nsg)).run callerA [] t H ⟨[.ref sa], []⟩ [.ref sa] [.ref sa] _ hr rfl en (bd t _) (.cons rfl .nil) sp) fun r s' h => ?_
  cases r with
  | error e => cases h
  | ok fl => cases fl with
    | next => cases h
    | brk => cases h
    | cont => cases h
    | ret u =>
      obtain ⟨v, H', os, bare, un, ok', rv, q⟩ := h
      have q : v = .bl true := q
      subst q
      have rv : u = Value.bool true := rv
      subst rv
      refine ⟨rfl, OldK.of_keep fun b o e => ?_, os, bare⟩
      cases z : H b with
      | none => exact un.keep b o e z (none' b) (by simp)
      | some u =>
        obtain ⟨_, _, rfl⟩ := only b u z
        obtain ⟨e1, _⟩ := hok b _ z
        obtain ⟨e2, _⟩ := ok' b _ (un.frzs b _ _ z)
        rw [e] at e1
        cases e1
        exact e2
/-- the goal that the head leaves -/
theorem walk_G {l : PySem.W.OpenLaw} {n k : Nat} {q : Program} {loose : List Str} {XP : (Str → Option Value) → Heap → Prop} {YP : World → Heap → Prop} {d : DefRec} {K : Params → PySem.W.Frag} {x : Str} {F : Fn}
    (hn : l.most = some n) (hz : n ≤ sizeLine) (hd : d.params.defaults = []) (hr : Room k callerA) (hY : ∀ (w : World) (h : Heap), YP w h → (K w.params).In h)
    (G : ∀ (w : World) (mg : Str → Option Value) (fa : Addr) (h : Heap), (K w.params).In h → h.Ns mainGlobals mg → mg d.name = some (.ref fa) →
      ∃ fd : FuncData, (∀ (s : Shared) (u : Value), BindsTo s fd ⟨[u], []⟩ [(x, u)]) ∧ ∀ base : Heap, (K w.params).In base → base.Ns mainGlobals mg → FnG l.prog w (K w.params) mg base k fa fd [x] F)
    (ht : ∀ ns : List Int, ns.length ≤ n → (∀ z ∈ ns, Builtin.Int.intBits z ≤ 1048576) → F [.dat (.scr ns)] = some (.val (.bl true), [])) :
    PySem.W.WalkO q loose XP YP l.row.toRowW d [] (fun f vs => PySem.call f vs) :=
  Att.attach_callB hn hd fun w s₀ t mg mb fa o pm cd doc sa us ns Gr Y _ _ _ hm hs hi hl hb g0 => by
    have kin := hY w _ Y
    obtain ⟨fd, bd, hG⟩ := G w mg fa _ kin Gr.T.g hm
    exact law_go kin Gr.T.g Gr.T.b Gr.T.builtins Gr.T.nolimit g0 hs hi (Nat.le_trans hl hz) hr hG bd (ht ns hl hb)
end Mi

/-! Mi20: the table of defs. -/
namespace Mi
open PySem PySem.Spec PyProof.Rows L2

structure DF where
  np : Nat
  n : Nat
  body : S
/-- the defs so far, the latest first -/
def PhiR : List DF → Nat → Fn
  | [] => fun _ _ => none
  | d :: ds => fun j => if j = ds.length then semF (PhiR ds) d.np d.n d.body else PhiR ds j
theorem PhiR_top (d : DF) (ds : List DF) : PhiR (d :: ds) ds.length = semF (PhiR ds) d.np d.n d.body := if_pos rfl
theorem PhiR_lt (d : DF) (ds : List DF) {j : Nat} (h : j ≠ ds.length) : PhiR (d :: ds) j = PhiR ds j := if_neg h
section
variable [KwTab] {nms : List Str} {cst : List (Str × D)} {P : Program} {w : World} {K : PySem.W.Frag} {mg : Str → Option Value} {base : Heap} {k : Nat} {ds : List DF} {h : Heap}
def CstOk (K : PySem.W.Frag) (mg : Str → Option Value) (l : List (Str × D)) : Prop := ∀ x d, l.lookup x = some d → ∃ u v, mg x = some u ∧ RelV v u ∧ ∀ B, Rp K B v d
theorem cst_nil : CstOk K mg [] := fun x d h => by cases h
theorem cst_cons {x : Str} {d : D} {l : List (Str × D)} (h : ∃ u v, mg x = some u ∧ RelV v u ∧ ∀ B, Rp K B v d) (r : CstOk K mg l) : CstOk K mg ((x, d) :: l) := fun y e hy => by
  rw [List.lookup_cons] at hy
  by_cases z : y = x
  · subst z
    simp at hy
    subst hy
    exact h
  · have : (y == x) = false := by simpa using z
    rw [this] at hy
    exact r y e hy
theorem cst_str {x s : Str} {t : Tok} (X : K.In h) (G : h.Ns mainGlobals mg) (e : PySem.W.nsIn K mainGlobals x = some (some (.str s t))) : ∃ u v, mg x = some u ∧ RelV v u ∧ ∀ B, Rp K B v (.str s) :=
  ⟨_, .str s, PySem.W.mg_of X G e, ⟨t, rfl⟩, fun _ => .str s⟩
theorem cst_int {x : Str} {i : Int} {t : Tok} (X : K.In h) (G : h.Ns mainGlobals mg) (e : PySem.W.nsIn K mainGlobals x = some (some (.int i t))) : ∃ u v, mg x = some u ∧ RelV v u ∧ ∀ B, Rp K B v (.int i) :=
  ⟨_, .int i, PySem.W.mg_of X G e, ⟨t, rfl⟩, fun _ => .int i⟩
def bltNames : List Str := ["len", "sum", "all", "any", "int", "abs", "list", "tuple", "sorted", "max", "min", "repr", "isinstance", "range", "enumerate", "zip", "bool", "str", "dict"]
def BltOk (K : PySem.W.Frag) (l : List Str) : Prop := ∀ x, x ∈ l → PySem.W.nsIn K mainGlobals x = some none
theorem blt_nil : BltOk K [] := fun x h => by cases h
theorem blt_cons {x : Str} {l : List Str} (e : PySem.W.nsIn K mainGlobals x = some none) (r : BltOk K l) : BltOk K (x :: l) := fun y hy => by
  rcases List.mem_cons.mp hy with rfl | hy
  · exact e
  · exact r y hy
/-- a def as the top leaves it -/
structure DfK (K : PySem.W.Frag) (x : Str) (st : Stmt) (f : Addr) (fd : FuncData) : Prop where
  ns : PySem.W.nsIn K mainGlobals x = some (some (.ref f))
  fn : Fun K x x st f fd
theorem df_mk {x : Str} {st : Stmt} {f : Addr} {oc : Value} {od an : Option Addr} {osl : Array (Option Value)} {kV doc pm cdv ct : Value} (a : PySem.W.nsIn K mainGlobals x = some (some (.ref f)))
    (l : K.lookup f = some ⟨oc, od, .func (PySem.W.fnOf x x (defArgs st) (defBody st) (defScope st) .none kV doc pm an cdv ct), osl⟩) (c : PySem.W.codeIn K cdv x = true) (k : PySem.W.keepIn K (.ref f) = true) :
    ∃ f fd, DfK K x st f fd := ⟨f, _, a, fun_mk l c k⟩
/-- its arguments -/
def Bd (x : Str) (st : Stmt) (ps : List Str) : Prop := ∀ (kV doc pm : Value) (an : Option Addr) (cdv ct : Value) (us : List Value), us.length = ps.length → bindArgs (PySem.W.fnOf x x (defArgs st) (defBody st) (defScope st) .none kV doc pm an cdv ct) ⟨us, []⟩ = pure (ps.zip us)
/-- .. by keywords alone -/
def Kw (x : Str) (st : Stmt) (ps : List Str) : Prop := ∀ ks pm, (ks, pm) ∈ KwTab.tab x → ∀ (kV doc pm' : Value) (an : Option Addr) (cdv ct : Value) (ws : List Value), ws.length = ks.length → bindArgs (PySem.W.fnOf x x (defArgs st) (defBody st) (defScope st) .none kV doc pm' an cdv ct) ⟨[], ks.zip ws⟩ = pure (ps.zip (permL pm ws))
theorem kw_of {x : Str} {st : Stmt} {ps : List Str} {f : Addr} {fd : FuncData} (h : Kw x st ps) (F : Fun K x x st f fd) : KwA K x fd ps := fun ks pm hm s ws _ hl => by
  obtain ⟨oc, od, kV, doc, pm', an, cdv, ct, osl, rfl, _, _⟩ := F.ex
  exact .of_eq (h ks pm hm kV doc pm' an cdv ct ws hl)
theorem kw_none {x : Str} {st : Stmt} {ps : List Str} (h : KwTab.tab x = []) : Kw x st ps := fun ks pm hm => by rw [h] at hm; cases hm
theorem MF.zero (X : K.In h) (G : h.Ns mainGlobals mg) (b : BltOk K bltNames) (c : CstOk K mg cst) : MF nms cst (PhiR []) P w K mg base 0 :=
  ⟨fun x hx => PySem.W.mg_none_of X G (b x hx), fun i x as r _ z => (by cases z), c⟩
theorem MF.step {x : Str} {st : Stmt} {N ps : List Str} {dt : Pos → Bool} {fuel ne ns : Nat} {wpf : Pos → List Nat} {d : DF} (X : K.In h) (G : h.Ns mainGlobals mg) (M : MF nms cst (PhiR ds) P w K mg base k) (hx : nms[ds.length]? = some x) (Df : ∃ f fd, DfK K x st f fd) (Sc : FnScope N ps (defScope st)) (bd : Bd x st ps) (kw : Kw x st ps)
    (hb : (cSs ne ⟨defScope st, N, fun _ => true, cst, nms, dt, fuel, wpf⟩ ns (defBody st)).1 = d.body) (hp : d.np = ps.length) (hn : d.n = N.length) : MF nms cst (PhiR (d :: ds)) P w K mg base (k + 1) := by
  obtain ⟨f, fd, D⟩ := Df
  have G1 := fn_G M D.fn Sc (cSs ne ⟨defScope st, N, fun _ => true, cst, nms, dt, fuel, wpf⟩ ns (defBody st)).2
  rw [hb] at G1
  refine ⟨M.blt, fun i y as r hi hr => ?_, M.cst⟩
  by_cases e : i = ds.length
  · subst e
    rw [hx] at hi
    cases hi
    rw [PhiR_top] at hr ⊢
    rw [hp, hn]
    exact ⟨f, fd, ps, PySem.W.mg_of X G D.ns, D.fn.kp, ⟨D.fn.binds bd, kw_of kw D.fn⟩, G1⟩
  · rw [PhiR_lt d ds e] at hr ⊢
    obtain ⟨f, fd, ps, h1, h2, h3, h4⟩ := M.fns i y as r hi hr
    exact ⟨f, fd, ps, h1, h2, h3, h4.mono (Nat.le_succ k)⟩
/-- the law's own def, the last -/
theorem MF.law {x : Str} {st : Stmt} {N : List Str} {p : Str} {dt : Pos → Bool} {fuel ne ns : Nat} {wpf : Pos → List Nat} {b : S} {fa : Addr} (X : K.In h) (G : h.Ns mainGlobals mg) (hfa : mg x = some (.ref fa)) (Df : ∃ f fd, DfK K x st f fd) (Sc : FnScope N [p] (defScope st)) (bd : Bd x st [p])
    (hb : (cSs ne ⟨defScope st, N, fun _ => true, cst, nms, dt, fuel, wpf⟩ ns (defBody st)).1 = b)
    (M : ∀ base : Heap, K.In base → base.Ns mainGlobals mg → MF nms cst (PhiR ds) P w K mg base k) :
    ∃ fd : FuncData, (∀ (s : Shared) (u : Value), BindsTo s fd ⟨[u], []⟩ [(p, u)]) ∧ ∀ base : Heap, K.In base → base.Ns mainGlobals mg → FnG P w K mg base (k + 1) fa fd [p] (semF (PhiR ds) 1 N.length b) := by
  obtain ⟨f, fd, D⟩ := Df
  have e := hfa.symm.trans (PySem.W.mg_of X G D.ns)
  cases e
  refine ⟨fd, fun s u => ?_, fun base X2 G2 => ?_⟩
  · obtain ⟨oc, od, kV, doc, pm, an, cdv, ct, osl, rfl, _, _⟩ := D.fn.ex
    exact .of_eq (bd kV doc pm an cdv ct [u] rfl)
  · have G1 := fn_G (M base X2 G2) D.fn Sc (cSs ne ⟨defScope st, N, fun _ => true, cst, nms, dt, fuel, wpf⟩ ns (defBody st)).2
    rw [hb] at G1
    exact G1
end
end Mi

/-! bodies of defs, callees as parameters (written by gen.py) -/
namespace Mi
open PySem PySem.Spec PyProof.Rows L2
/-- q_cells
 -/
def B_q_cells  : S := (.seq (.ret (.lrng (.acons (.bi .max2 (.acons (.cst (.int 1)) (.acons (.bi .min2 (.acons (.var 1) (.acons (.bi .len (.acons (.var 0) .anil)) .anil))) .anil))) .anil))) .nop)
/-- q_pot
 -/
def B_q_pot  : S := (.seq (.asg (.nm 2) (.ite (.cmp .lt (.var 1) (.bi .len (.acons (.var 0) .anil))) (.ix (.var 0) (.var 1)) (.bin .add (.bin .add (.bin .mod (.bi .int (.acons (.bi .sum (.acons (.slc (.var 0) .gone (.acons (.cst (.int 1)) .anil)) .anil)) .anil)) (.cst (.int 1000003))) (.bin .mul (.cst (.int 2792)) (.var 1))) (.cst (.int 6182))))) (.seq (.asg (.nm 3) (.bin .mul (.bin .mod (.bi .int (.acons (.bi .abs (.acons (.var 2) .anil)) .anil)) (.bin .pow (.bin .pow (.cst (.int 10)) (.cst (.int 60))) (.cst (.int 5)))) (.bi .int (.acons (.cmp .ge (.bi .abs (.acons (.var 2) .anil)) (.bin .pow (.cst (.int 10)) (.cst (.int 18)))) .anil)))) (.seq (.asg (.nm 4) (.bin .mod (.bi .int (.acons (.var 2) .anil)) (.cst (.int 2305843009213693951)))) (.seq (.ret (.lst (.acons (.var 3) (.acons (.bin .mod (.bi .int (.acons (.bin .add (.bin .add (.bin .mul (.var 4) (.cst (.int 86199))) (.bin .mul (.bin .mul (.cst (.int 12193)) (.var 1)) (.var 1))) (.cst (.int 2192))) .anil)) (.cst (.int 2305843009213693921))) (.acons (.cst (.int 0)) .anil))))) .nop))))
/-- is_ascending
 -/
def B_is_ascending_e1  : E := (.lc [1, 2] (.tp (.cons (.nm 1) (.cons (.nm 2) .nil))) (.zip (.var 0) (.slc (.var 0) (.acons (.cst (.int 1)) .anil) .gone)) .anil (.cmp .lt (.var 1) (.var 2)))
def B_is_ascending  : S := (.seq (.ret (.bi .all (.acons B_is_ascending_e1 .anil))) .nop)
/-- is_integer
 -/
def B_is_integer  : S := (.seq (.ret (.and (.bi (.isi "int") (.acons (.var 0) .anil)) (.not (.bi (.isi "bool") (.acons (.var 0) .anil))))) .nop)
/-- is_between
 -/
def B_is_between (f_is_integer : Nat) : S := (.seq (.ret (.and (.call f_is_integer (.acons (.var 0) .anil)) (.chn .le .le (.var 1) (.var 0) (.var 2)))) .nop)
/-- are_between
 -/
def B_are_between_e1 (f_is_between : Nat) : E := (.lc [3] (.nm 3) (.var 0) .anil (.call f_is_between (.acons (.var 3) (.acons (.var 1) (.acons (.var 2) .anil)))))
def B_are_between (f_is_between : Nat) : S := (.seq (.ret (.and (.bi (.isi "tuple") (.acons (.var 0) .anil)) (.bi .all (.acons (B_are_between_e1 f_is_between) .anil)))) .nop)
/-- is_door
 -/
def B_is_door (f_are_between : Nat) : S := (.seq (.ret (.and (.call f_are_between (.acons (.var 1) (.acons (.cst (.int 0)) (.acons (.bin .sub (.var 0) (.cst (.int 1))) .anil)))) (.and (.cmp .eq (.bi .len (.acons (.var 1) .anil)) (.cst (.int 2))) (.cmp .lt (.ix (.var 1) (.cst (.int 0))) (.ix (.var 1) (.cst (.int 1))))))) .nop)
/-- is_web
 -/
def B_is_web_e1 (f_is_door : Nat) : E := (.lc [1] (.nm 1) (.ix (.var 0) (.cst (.int 1))) .anil (.call f_is_door (.acons (.ix (.var 0) (.cst (.int 0))) (.acons (.var 1) .anil))))
def B_is_web (f_is_ascending : Nat) (f_is_between : Nat) (f_is_door : Nat) : S := (.seq (.ite (.or (.not (.bi (.isi "tuple") (.acons (.var 0) .anil))) (.or (.cmp .ne (.bi .len (.acons (.var 0) .anil)) (.cst (.int 2))) (.not (.call f_is_between (.acons (.ix (.var 0) (.cst (.int 0))) (.acons (.cst (.int 1)) (.acons (.cst (.int 16)) .anil))))))) (.seq (.ret (.cst (.bl false))) .nop) .nop) (.seq (.ite (.or (.not (.bi (.isi "tuple") (.acons (.ix (.var 0) (.cst (.int 1))) .anil))) (.not (.bi .all (.acons (B_is_web_e1 f_is_door) .anil)))) (.seq (.ret (.cst (.bl false))) .nop) .nop) (.seq (.ret (.call f_is_ascending (.acons (.ix (.var 0) (.cst (.int 1))) .anil))) .nop)))
/-- check_web
 -/
def B_check_web (f_is_web : Nat) : S := (.seq (.ite (.not (.call f_is_web (.acons (.var 0) .anil))) (.seq .never .nop) .nop) .nop)
/-- check_kind
 -/
def B_check_kind (f_check_web : Nat) : S := (.seq (.exp (.call f_check_web (.acons (.var 0) .anil))) (.seq (.ite (.or (.not (.bi (.isi "str") (.acons (.var 1) .anil))) (.cmp .nin (.var 1) (.tup (.acons (.cst (.str (Str.ofString "own"))) (.acons (.cst (.str (Str.ofString "shut"))) .anil))))) (.seq .never .nop) .nop) .nop))
/-- near_of
 -/
def B_near_of_e1  : E := (.lc [2, 3] (.tp (.cons (.nm 2) (.cons (.nm 3) .nil))) (.ix (.var 0) (.cst (.int 1))) (.acons (.cmp .in_ (.var 1) (.tup (.acons (.var 2) (.acons (.var 3) .anil)))) .anil) (.bin .sub (.bin .add (.var 2) (.var 3)) (.var 1)))
def B_near_of  : S := (.seq (.ret (.bi .sorted (.acons B_near_of_e1 .anil))) .nop)
/-- reach_of
 -/
def B_reach_of (f_near_of : Nat) : S := (.seq (.ret (.ite (.cmp .eq (.var 1) (.cst (.str (Str.ofString "own")))) (.bi .sorted (.acons (.lst (.acons (.var 2) (.astar (.call f_near_of (.acons (.var 0) (.acons (.var 2) .anil))) .anil))) .anil)) (.call f_near_of (.acons (.var 0) (.acons (.var 2) .anil))))) .nop)
/-- table
 -/
def B_table_e1 (f_reach_of : Nat) : E := (.lc [3] (.nm 3) (.rng (.acons (.ix (.var 0) (.cst (.int 0))) .anil)) .anil (.call f_reach_of (.acons (.var 0) (.acons (.var 1) (.acons (.var 3) .anil)))))
def B_table_e2  : E := (.lc [3] (.nm 3) (.rng (.acons (.ix (.var 0) (.cst (.int 0))) .anil)) .anil (.ite (.cmp .in_ (.var 3) (.var 4)) (.cst (.int 1)) (.cst (.int 0))))
def B_table_e3  : E := (.lc [4] (.nm 4) (.var 2) .anil (.bi .tuple (.acons B_table_e2 .anil)))
def B_table (f_check_kind : Nat) (f_reach_of : Nat) : S := (.seq (.exp (.call f_check_kind (.acons (.var 0) (.acons (.var 1) .anil)))) (.seq (.asg (.nm 2) (B_table_e1 f_reach_of)) (.seq (.ret (.bi .tuple (.acons B_table_e3 .anil))) .nop)))
/-- q_take
 -/
def B_q_take_t1  : S := (.ite (.cmp .gt (.ix (.var 0) (.cst (.int 0))) (.cst (.int 0))) (.seq (.asg (.nm 4) (.bin .mod (.bi .int (.acons (.ix (.var 0) (.cst (.int 0))) .anil)) (.var 1))) (.seq (.put (.var 0) (.cst (.int 0)) (.bin .fdiv (.ix (.var 0) (.cst (.int 0))) (.var 1))) (.seq (.ret (.var 4)) .nop))) .nop)
def B_q_take_t2  : S := (.put (.var 0) (.cst (.int 2)) (.bin .add (.ix (.var 0) (.cst (.int 2))) (.cst (.int 1))))
def B_q_take_t3  : S := (.asg (.nm 2) (.ix (.lst (.acons (.cst (.int 2147483647)) (.acons (.cst (.int 2147483629)) (.acons (.cst (.int 2147483587)) (.acons (.cst (.int 2147483579)) .anil))))) (.bin .mod (.bi .int (.acons (.ix (.var 0) (.cst (.int 2))) .anil)) (.cst (.int 4)))))
def B_q_take_t4  : S := (.asg (.nm 3) (.bin .mod (.bi .int (.acons (.bin .pow (.bi .int (.acons (.bin .add (.bin .add (.ix (.var 0) (.cst (.int 1))) (.bin .mul (.bin .mul (.cst (.int 120829)) (.ix (.var 0) (.cst (.int 2)))) (.ix (.var 0) (.cst (.int 2))))) (.cst (.int 2892))) .anil)) (.cst (.int 3))) .anil)) (.var 2)))
def B_q_take_t5  : S := (.ret (.bin .mod (.bi .int (.acons (.bin .fdiv (.bin .mul (.var 3) (.bin .add (.bin .mod (.bi .int (.acons (.var 3) .anil)) (.cst (.int 10007))) (.bin .mul (.cst (.int 2094)) (.ix (.var 0) (.cst (.int 2)))))) (.cst (.int 307))) .anil)) (.var 1)))
def B_q_take  : S := (.seq B_q_take_t1 (.seq B_q_take_t2 (.seq B_q_take_t3 (.seq B_q_take_t4 (.seq B_q_take_t5 .nop)))))
/-- q_of
 -/
def B_q_of (f_q_take : Nat) : S := (.seq (.ret (.ix (.var 1) (.call f_q_take (.acons (.var 0) (.acons (.bi .len (.acons (.var 1) .anil)) .anil))))) .nop)
/-- q_sum
 -/
def B_q_sum_s1  : S := (.seq (.seq (.put (.var 1) (.var 3) (.bin .add (.dget (.var 1) (.var 3) (.cst (.int 0))) (.cst (.int 1)))) .nop) (.wipe [3]))
def B_q_sum_s2  : S := (.seq (.seq (.seq (.for_ (.nm 3) (.var 2) B_q_sum_s1) (.wipe [3])) .nop) (.wipe [2, 3]))
def B_q_sum_e1  : E := (.lc [3] (.nm 3) (.var 1) (.acons (.cmp .eq (.bin .mod (.ix (.var 1) (.var 3)) (.cst (.int 2))) (.cst (.int 1))) .anil) (.bi .int (.acons (.var 3) .anil)))
def B_q_sum  : S := (.seq (.asg (.nm 1) (.dnew false)) (.seq (.seq (.for_ (.nm 2) (.var 0) B_q_sum_s2) (.wipe [2, 3])) (.seq (.ret (.bi .tuple (.acons (.bi .sorted (.acons B_q_sum_e1 .anil)) .anil))) .nop)))
/-- q_reach
 -/
def B_q_reach_e1  : E := (.lc [4] (.nm 4) (.rng (.acons (.ix (.var 0) (.cst (.int 0))) .anil)) (.acons (.cmp .in_ (.tup (.acons (.bi .min2 (.acons (.var 2) (.acons (.var 4) .anil))) (.acons (.bi .max2 (.acons (.var 2) (.acons (.var 4) .anil))) .anil))) (.ix (.var 0) (.cst (.int 1)))) .anil) (.var 4))
def B_q_reach  : S := (.seq (.asg (.nm 3) B_q_reach_e1) (.seq (.ret (.ite (.cmp .eq (.var 1) (.cst (.str (Str.ofString "own")))) (.bi .sorted (.acons (.bin .add (.var 3) (.lst (.acons (.var 2) .anil))) .anil)) (.var 3))) .nop))
/-- q_changed
 -/
def B_q_changed_e1 (f_q_reach : Nat) : E := (.lc [3] (.nm 3) (.var 2) .anil (.call f_q_reach (.acons (.var 0) (.acons (.var 1) (.acons (.var 3) .anil)))))
def B_q_changed (f_q_sum : Nat) (f_q_reach : Nat) : S := (.seq (.ret (.call f_q_sum (.acons (B_q_changed_e1 f_q_reach) .anil))) .nop)
/-- q_some
 -/
def B_q_some_s1 (f_q_take : Nat) : S := (.seq (.seq (.exp (.mth .append (.var 5) (.acons (.mth .popAt (.var 4) (.acons (.call f_q_take (.acons (.var 0) (.acons (.bi .len (.acons (.var 4) .anil)) .anil))) .anil)) .anil))) .nop) (.wipe [3]))
def B_q_some (f_q_take : Nat) : S := (.seq (.par [4, 5] (.acons (.bi .list (.acons (.var 1) .anil)) (.acons (.lst .anil) .anil))) (.seq (.seq (.for_ (.nm 3) (.rng (.acons (.var 2) .anil)) (B_q_some_s1 f_q_take)) (.wipe [3])) (.seq (.ret (.var 5)) .nop)))
/-- q_web
 -/
def B_q_web_e1  : E := (.lc [7] (.nm 7) (.rng (.acons (.bin .add (.var 3) (.cst (.int 1))) (.acons (.var 1) .anil))) .anil (.tup (.acons (.bi .int (.acons (.var 3) .anil)) (.acons (.bi .int (.acons (.var 7) .anil)) .anil))))
def B_q_web_s1  : S := (.seq (.seq (.exp (.mth .extend (.var 5) (.acons B_q_web_e1 .anil))) .nop) (.wipe [3]))
def B_q_web_e2  : E := (.lc [3, 7] (.tp (.cons (.nm 3) (.cons (.nm 7) .nil))) (.var 5) (.acons (.cmp .eq (.var 7) (.bin .add (.var 3) (.cst (.int 1)))) .anil) (.tup (.acons (.var 3) (.acons (.var 7) .anil))))
def B_q_web_t1 (f_q_take : Nat) : S := (.par [5, 6] (.acons (.lst .anil) (.acons (.call f_q_take (.acons (.var 0) (.acons (.cst (.int 5)) .anil))) .anil)))
def B_q_web_t2  : S := (.seq (.for_ (.nm 3) (.rng (.acons (.var 1) .anil)) B_q_web_s1) (.wipe [3]))
def B_q_web_t3  : S := (.ite (.cmp .eq (.var 6) (.cst (.int 0))) (.seq (.asg (.nm 5) B_q_web_e2) .nop) .nop)
def B_q_web_t4 (f_q_take : Nat) (f_q_some : Nat) : S := (.asg (.nm 4) (.ite (.cmp .lt (.var 6) (.cst (.int 2))) (.var 5) (.call f_q_some (.acons (.var 0) (.acons (.var 5) (.acons (.bi .min2 (.acons (.bi .len (.acons (.var 5) .anil)) (.acons (.call f_q_take (.acons (.var 0) (.acons (.bin .add (.var 2) (.cst (.int 1))) .anil))) .anil))) .anil))))))
def B_q_web_t5  : S := (.ret (.tup (.acons (.bi .int (.acons (.var 1) .anil)) (.acons (.bi .tuple (.acons (.bi .sorted (.acons (.var 4) .anil)) .anil)) .anil))))
def B_q_web (f_q_take : Nat) (f_q_some : Nat) : S := (.seq (B_q_web_t1 f_q_take) (.seq B_q_web_t2 (.seq B_q_web_t3 (.seq (B_q_web_t4 f_q_take f_q_some) (.seq B_q_web_t5 .nop)))))
/-- q_lots
 -/
def B_q_lots_e1  : E := (.lc [3] (.nm 3) (.var 1) .anil (.bin .add (.var 3) (.tup (.acons (.bi .int (.acons (.var 2) .anil)) .anil))))
def B_q_lots_s1  : S := (.seq (.seq (.asg (.nm 1) (.bin .add (.var 1) B_q_lots_e1)) .nop) (.wipe [2]))
def B_q_lots  : S := (.seq (.asg (.nm 1) (.lst (.acons (.tup .anil) .anil))) (.seq (.seq (.for_ (.nm 2) (.rng (.acons (.var 0) .anil)) B_q_lots_s1) (.wipe [2])) (.seq (.ret (.var 1)) .nop)))
/-- check_presses
 -/
def B_check_presses (f_are_between : Nat) : S := (.seq (.ite (.or (.not (.call f_are_between (.acons (.var 1) (.acons (.cst (.int 0)) (.acons (.bin .sub (.ix (.var 0) (.cst (.int 0))) (.cst (.int 1))) .anil))))) (.cmp .gt (.bi .len (.acons (.var 1) .anil)) (.cst (.int 100)))) (.seq .never .nop) .nop) .nop)
/-- sum_by
 -/
def B_sum_by_s1  : S := (.seq (.seq (.put (.var 1) (.var 3) (.bin .add (.dget (.var 1) (.var 3) (.cst (.int 0))) (.cst (.int 1)))) .nop) (.wipe [3]))
def B_sum_by_s2  : S := (.seq (.seq (.seq (.for_ (.nm 3) (.var 2) B_sum_by_s1) (.wipe [3])) .nop) (.wipe [2, 3]))
def B_sum_by_e1  : E := (.lc [3] (.nm 3) (.var 1) (.acons (.cmp .eq (.bin .mod (.ix (.var 1) (.var 3)) (.cst (.int 2))) (.cst (.int 1))) .anil) (.var 3))
def B_sum_by  : S := (.seq (.asg (.nm 1) (.dnew false)) (.seq (.seq (.for_ (.nm 2) (.var 0) B_sum_by_s2) (.wipe [2, 3])) (.seq (.ret (.bi .tuple (.acons (.bi .sorted (.acons B_sum_by_e1 .anil)) .anil))) .nop)))
/-- changed_by
 -/
def B_changed_by_e1 (f_reach_of : Nat) : E := (.lc [3] (.nm 3) (.var 2) .anil (.call f_reach_of (.acons (.var 0) (.acons (.var 1) (.acons (.var 3) .anil)))))
def B_changed_by (f_sum_by : Nat) (f_reach_of : Nat) : S := (.seq (.ret (.call f_sum_by (.acons (B_changed_by_e1 f_reach_of) .anil))) .nop)
/-- changed
 -/
def B_changed (f_check_kind : Nat) (f_check_presses : Nat) (f_changed_by : Nat) : S := (.seq (.exp (.call f_check_kind (.acons (.var 0) (.acons (.var 1) .anil)))) (.seq (.exp (.call f_check_presses (.acons (.var 0) (.acons (.var 2) .anil)))) (.seq (.ret (.call f_changed_by (.acons (.var 0) (.acons (.var 1) (.acons (.var 2) .anil))))) .nop)))
/-- is_lot_of
 -/
def B_is_lot_of (f_are_between : Nat) (f_is_ascending : Nat) : S := (.seq (.ret (.and (.call f_are_between (.acons (.var 1) (.acons (.cst (.int 0)) (.acons (.bin .sub (.ix (.var 0) (.cst (.int 0))) (.cst (.int 1))) .anil)))) (.call f_is_ascending (.acons (.var 1) .anil)))) .nop)
/-- check_lot
 -/
def B_check_lot (f_is_lot_of : Nat) : S := (.seq (.ite (.not (.call f_is_lot_of (.acons (.var 0) (.acons (.var 1) .anil)))) (.seq .never .nop) .nop) .nop)
/-- check_ahead
 -/
def B_check_ahead (f_check_kind : Nat) (f_check_lot : Nat) (f_check_presses : Nat) : S := (.seq (.exp (.call f_check_kind (.acons (.var 0) (.acons (.var 1) .anil)))) (.seq (.exp (.call f_check_lot (.acons (.var 0) (.acons (.var 2) .anil)))) (.seq (.exp (.call f_check_presses (.acons (.var 0) (.acons (.var 3) .anil)))) .nop)))
/-- steps
 -/
def B_steps_s1 (f_sum_by : Nat) (f_reach_of : Nat) : S := (.seq (.seq (.exp (.mth .append (.var 4) (.acons (.call f_sum_by (.acons (.lst (.acons (.ix (.var 4) (.neg (.cst (.int 1)))) (.acons (.call f_reach_of (.acons (.var 0) (.acons (.var 1) (.acons (.var 5) .anil)))) .anil))) .anil)) .anil))) .nop) (.wipe [5]))
def B_steps (f_check_ahead : Nat) (f_sum_by : Nat) (f_reach_of : Nat) : S := (.seq (.exp (.call f_check_ahead (.acons (.var 0) (.acons (.var 1) (.acons (.var 2) (.acons (.var 3) .anil)))))) (.seq (.asg (.nm 4) (.lst (.acons (.var 2) .anil))) (.seq (.seq (.for_ (.nm 5) (.var 3) (B_steps_s1 f_sum_by f_reach_of)) (.wipe [5])) (.seq (.ret (.bi .tuple (.acons (.var 4) .anil))) .nop))))
/-- sum_of
 -/
def B_sum_of_e1 (f_is_lot_of : Nat) : E := (.lc [2] (.nm 2) (.var 1) .anil (.call f_is_lot_of (.acons (.var 0) (.acons (.var 2) .anil))))
def B_sum_of (f_check_web : Nat) (f_sum_by : Nat) (f_is_lot_of : Nat) : S := (.seq (.exp (.call f_check_web (.acons (.var 0) .anil))) (.seq (.ite (.or (.not (.bi (.isi "tuple") (.acons (.var 1) .anil))) (.or (.cmp .gt (.bi .len (.acons (.var 1) .anil)) (.cst (.int 100))) (.not (.bi .all (.acons (B_sum_of_e1 f_is_lot_of) .anil))))) (.seq .never .nop) .nop) (.seq (.ret (.call f_sum_by (.acons (.var 1) .anil))) .nop)))
/-- check_room
 -/
def B_check_room (f_is_between : Nat) : S := (.seq (.ite (.not (.call f_is_between (.acons (.var 1) (.acons (.cst (.int 0)) (.acons (.bin .sub (.ix (.var 0) (.cst (.int 0))) (.cst (.int 1))) .anil))))) (.seq .never .nop) .nop) .nop)
/-- near
 -/
def B_near (f_check_web : Nat) (f_check_room : Nat) (f_near_of : Nat) : S := (.seq (.exp (.call f_check_web (.acons (.var 0) .anil))) (.seq (.exp (.call f_check_room (.acons (.var 0) (.acons (.var 1) .anil)))) (.seq (.ret (.bi .tuple (.acons (.call f_near_of (.acons (.var 0) (.acons (.var 1) .anil))) .anil))) .nop)))
/-- reach
 -/
def B_reach (f_check_kind : Nat) (f_check_room : Nat) (f_reach_of : Nat) : S := (.seq (.exp (.call f_check_kind (.acons (.var 0) (.acons (.var 1) .anil)))) (.seq (.exp (.call f_check_room (.acons (.var 0) (.acons (.var 2) .anil)))) (.seq (.ret (.bi .tuple (.acons (.call f_reach_of (.acons (.var 0) (.acons (.var 1) (.acons (.var 2) .anil)))) .anil))) .nop)))
/-- behind
 -/
def B_behind (f_check_ahead : Nat) (f_sum_by : Nat) (f_changed_by : Nat) : S := (.seq (.exp (.call f_check_ahead (.acons (.var 0) (.acons (.var 1) (.acons (.var 2) (.acons (.var 3) .anil)))))) (.seq (.ret (.call f_sum_by (.acons (.lst (.acons (.var 2) (.acons (.call f_changed_by (.acons (.var 0) (.acons (.var 1) (.acons (.var 3) .anil)))) .anil))) .anil))) .nop))
/-- is_quiet
 -/
def B_is_quiet (f_check_kind : Nat) (f_check_lot : Nat) (f_changed_by : Nat) : S := (.seq (.exp (.call f_check_kind (.acons (.var 0) (.acons (.var 1) .anil)))) (.seq (.exp (.call f_check_lot (.acons (.var 0) (.acons (.var 2) .anil)))) (.seq (.ret (.cmp .eq (.call f_changed_by (.acons (.var 0) (.acons (.var 1) (.acons (.var 2) .anil)))) (.tup .anil))) .nop)))
/-- q_right
 -/
def B_q_right_e1 (f_q_reach : Nat) : E := (.lc [17] (.nm 17) (.call f_q_reach (.acons (.var 12) (.acons (.cst (.str (Str.ofString "shut"))) (.acons (.var 2) .anil)))) .anil (.bi .int (.acons (.var 17) .anil)))
def B_q_right_e2 (f_q_reach : Nat) : E := (.lc [17] (.nm 17) (.call f_q_reach (.acons (.var 12) (.acons (.var 13) (.acons (.var 2) .anil)))) .anil (.bi .int (.acons (.var 17) .anil)))
def B_q_right_s1 (f_near : Nat) (f_reach : Nat) (f_q_reach : Nat) : S := (.seq (.seq (.ite (.cmp .ne (.bi .repr (.acons (.callk f_near [1, 0] (.acons (.bi .int (.acons (.var 2) .anil)) (.acons (.var 12) .anil))) .anil)) (.bi .repr (.acons (.bi .tuple (.acons (B_q_right_e1 f_q_reach) .anil)) .anil))) (.seq (.ret (.cst (.bl false))) .nop) .nop) (.seq (.ite (.cmp .ne (.bi .repr (.acons (.callk f_reach [2, 1, 0] (.acons (.bi .int (.acons (.var 2) .anil)) (.acons (.var 13) (.acons (.var 12) .anil)))) .anil)) (.bi .repr (.acons (.bi .tuple (.acons (B_q_right_e2 f_q_reach) .anil)) .anil))) (.seq (.ret (.cst (.bl false))) .nop) .nop) .nop)) (.wipe [2]))
def B_q_right_e3 (f_q_reach : Nat) : E := (.lc [9] (.nm 9) (.rng (.acons (.var 1) .anil)) .anil (.ite (.cmp .in_ (.var 9) (.call f_q_reach (.acons (.var 12) (.acons (.var 13) (.acons (.var 2) .anil))))) (.cst (.int 1)) (.cst (.int 0))))
def B_q_right_e4 (f_q_reach : Nat) : E := (.lc [2] (.nm 2) (.rng (.acons (.var 1) .anil)) .anil (.bi .tuple (.acons (B_q_right_e3 f_q_reach) .anil)))
def B_q_right_e5  : E := (.lc [18] (.nm 18) (.var 3) .anil (.ix (.var 18) (.var 2)))
def B_q_right_e6  : E := (.lc [2] (.nm 2) (.rng (.acons (.var 1) .anil)) .anil (.cmp .eq (.bi .tuple (.acons B_q_right_e5 .anil)) (.ix (.var 3) (.var 2))))
def B_q_right_e7 (f_q_take : Nat) : E := (.lc [14] (.nm 14) (.rng (.acons (.call f_q_take (.acons (.var 0) (.acons (.cst (.int 13)) .anil))) .anil)) .anil (.bi .int (.acons (.call f_q_take (.acons (.var 0) (.acons (.var 1) .anil))) .anil)))
def B_q_right_s2 (f_q_sum : Nat) (f_q_reach : Nat) : S := (.seq (.seq (.exp (.mth .append (.var 7) (.acons (.call f_q_sum (.acons (.lst (.acons (.ix (.var 7) (.neg (.cst (.int 1)))) (.acons (.call f_q_reach (.acons (.var 12) (.acons (.var 13) (.acons (.var 2) .anil)))) .anil))) .anil)) .anil))) .nop) (.wipe [2]))
def B_q_right_e8  : E := (.lc [2] (.nm 2) (.rng (.acons (.var 1) .anil)) (.acons (.cmp .eq (.bin .mod (.mq false (.var 4) (.var 2)) (.cst (.int 2))) (.cst (.int 1))) .anil) (.bi .int (.acons (.var 2) .anil)))
def B_q_right_e9 (f_q_of : Nat) (f_q_lots : Nat) (f_q_take : Nat) : E := (.lc [14] (.nm 14) (.rng (.acons (.call f_q_take (.acons (.var 0) (.acons (.cst (.int 5)) .anil))) .anil)) .anil (.call f_q_of (.acons (.var 0) (.acons (.call f_q_lots (.acons (.var 1) .anil)) .anil))))
def B_q_right_e10 (f_q_changed : Nat) : E := (.lc [16] (.nm 16) (.var 10) .anil (.call f_q_changed (.acons (.var 12) (.acons (.var 13) (.acons (.var 16) .anil)))))
def B_q_right_e11 (f_is_web : Nat) : E := (.lc [15] (.nm 15) (.var 11) .anil (.call f_is_web (.acons (.var 15) .anil)))
def B_q_right_t1 (f_q_of : Nat) (f_q_web : Nat) (f_q_take : Nat) : S := (.par [12, 13] (.acons (.call f_q_web (.acons (.var 0) (.acons (.bin .add (.cst (.int 1)) (.call f_q_take (.acons (.var 0) (.acons (.cst (.int 7)) .anil)))) (.acons (.cst (.int 12)) .anil)))) (.acons (.call f_q_of (.acons (.var 0) (.acons (.lst (.acons (.cst (.str (Str.ofString "own"))) (.acons (.cst (.str (Str.ofString "own"))) (.acons (.cst (.str (Str.ofString "shut"))) .anil)))) .anil))) .anil)))
def B_q_right_t2  : S := (.asg (.nm 1) (.ix (.var 12) (.cst (.int 0))))
def B_q_right_t3 (f_near : Nat) (f_reach : Nat) (f_q_reach : Nat) : S := (.seq (.for_ (.nm 2) (.rng (.acons (.var 1) .anil)) (B_q_right_s1 f_near f_reach f_q_reach)) (.wipe [2]))
def B_q_right_t4 (f_table : Nat) : S := (.asg (.nm 3) (.callk f_table [1, 0] (.acons (.var 13) (.acons (.var 12) .anil))))
def B_q_right_t5 (f_q_reach : Nat) : S := (.ite (.cmp .ne (.bi .repr (.acons (.var 3) .anil)) (.bi .repr (.acons (.bi .tuple (.acons (B_q_right_e4 f_q_reach) .anil)) .anil))) (.seq (.ret (.cst (.bl false))) .nop) .nop)
def B_q_right_t6  : S := (.ite (.not (.bi .all (.acons B_q_right_e6 .anil))) (.seq (.ret (.cst (.bl false))) .nop) .nop)
def B_q_right_t7 (f_q_take : Nat) : S := (.asg (.nm 4) (.bi .tuple (.acons (B_q_right_e7 f_q_take) .anil)))
def B_q_right_t8 (f_q_of : Nat) (f_q_lots : Nat) : S := (.asg (.nm 5) (.call f_q_of (.acons (.var 0) (.acons (.call f_q_lots (.acons (.var 1) .anil)) .anil))))
def B_q_right_t9 (f_q_changed : Nat) : S := (.asg (.nm 6) (.call f_q_changed (.acons (.var 12) (.acons (.var 13) (.acons (.var 4) .anil)))))
def B_q_right_t10 (f_changed : Nat) (f_q_sum : Nat) (f_behind : Nat) : S := (.ite (.or (.cmp .ne (.bi .repr (.acons (.callk f_changed [2, 1, 0] (.acons (.var 4) (.acons (.var 13) (.acons (.var 12) .anil)))) .anil)) (.bi .repr (.acons (.var 6) .anil))) (.cmp .ne (.bi .repr (.acons (.callk f_behind [3, 2, 1, 0] (.acons (.var 4) (.acons (.var 5) (.acons (.var 13) (.acons (.var 12) .anil))))) .anil)) (.bi .repr (.acons (.call f_q_sum (.acons (.lst (.acons (.var 5) (.acons (.var 6) .anil))) .anil)) .anil)))) (.seq (.ret (.cst (.bl false))) .nop) .nop)
def B_q_right_t11  : S := (.asg (.nm 7) (.lst (.acons (.var 5) .anil)))
def B_q_right_t12 (f_q_sum : Nat) (f_q_reach : Nat) : S := (.seq (.for_ (.nm 2) (.var 4) (B_q_right_s2 f_q_sum f_q_reach)) (.wipe [2]))
def B_q_right_t13 (f_steps : Nat) : S := (.ite (.cmp .ne (.bi .repr (.acons (.callk f_steps [3, 2, 1, 0] (.acons (.var 4) (.acons (.var 5) (.acons (.var 13) (.acons (.var 12) .anil))))) .anil)) (.bi .repr (.acons (.bi .tuple (.acons (.var 7) .anil)) .anil))) (.seq (.ret (.cst (.bl false))) .nop) .nop)
def B_q_right_t14  : S := (.asg (.nm 8) (.bi .tuple (.acons B_q_right_e8 .anil)))
def B_q_right_t15 (f_q_some : Nat) : S := (.asg (.nm 9) (.bi .tuple (.acons (.call f_q_some (.acons (.var 0) (.acons (.bi .list (.acons (.var 4) .anil)) (.acons (.bi .len (.acons (.var 4) .anil)) .anil)))) .anil)))
def B_q_right_t16 (f_changed : Nat) (f_is_quiet : Nat) : S := (.ite (.or (.cmp .ne (.call f_changed (.acons (.var 12) (.acons (.var 13) (.acons (.var 9) .anil)))) (.var 6)) (.or (.cmp .ne (.call f_changed (.acons (.var 12) (.acons (.var 13) (.acons (.var 8) .anil)))) (.var 6)) (.cmp .ne (.bi .repr (.acons (.callk f_is_quiet [2, 1, 0] (.acons (.var 8) (.acons (.var 13) (.acons (.var 12) .anil)))) .anil)) (.bi .repr (.acons (.cmp .eq (.var 6) (.tup .anil)) .anil))))) (.seq (.ret (.cst (.bl false))) .nop) .nop)
def B_q_right_t17 (f_q_of : Nat) (f_q_lots : Nat) (f_q_take : Nat) : S := (.asg (.nm 10) (.bi .tuple (.acons (B_q_right_e9 f_q_of f_q_lots f_q_take) .anil)))
def B_q_right_t18 (f_q_sum : Nat) (f_sum_of : Nat) : S := (.ite (.cmp .ne (.bi .repr (.acons (.callk f_sum_of [1, 0] (.acons (.var 10) (.acons (.var 12) .anil))) .anil)) (.bi .repr (.acons (.call f_q_sum (.acons (.var 10) .anil)) .anil))) (.seq (.ret (.cst (.bl false))) .nop) .nop)
def B_q_right_t19 (f_q_changed : Nat) (f_changed : Nat) (f_q_sum : Nat) (f_sum_of : Nat) : S := (.ite (.cmp .ne (.call f_changed (.acons (.var 12) (.acons (.var 13) (.acons (.call f_sum_of (.acons (.var 12) (.acons (.var 10) .anil))) .anil)))) (.call f_q_sum (.acons (B_q_right_e10 f_q_changed) .anil))) (.seq (.ret (.cst (.bl false))) .nop) .nop)
def B_q_right_t20  : S := (.asg (.nm 11) (.lst (.acons (.var 12) (.acons (.bi .list (.acons (.var 12) .anil)) (.acons (.tup (.acons (.var 1) .anil)) (.acons (.tup (.acons (.var 1) (.acons (.bi .list (.acons (.ix (.var 12) (.cst (.int 1))) .anil)) .anil))) (.acons (.tup (.acons (.cst (.int 0)) (.acons (.tup .anil) .anil))) (.acons (.tup (.acons (.cst (.int 17)) (.acons (.tup .anil) .anil))) (.acons (.tup (.acons (.var 1) (.acons (.tup (.acons (.tup (.acons (.cst (.int 0)) (.acons (.cst (.int 0)) .anil))) .anil)) .anil))) (.acons (.tup (.acons (.var 1) (.acons (.tup (.acons (.tup (.acons (.cst (.int 1)) (.acons (.cst (.int 0)) .anil))) .anil)) .anil))) (.acons (.tup (.acons (.var 1) (.acons (.tup (.acons (.tup (.acons (.cst (.int 0)) (.acons (.var 1) .anil))) .anil)) .anil))) (.acons (.tup (.acons (.cst (.bl true)) (.acons (.tup .anil) .anil))) (.acons (.cst .non) (.acons (.tup (.acons (.cst (.int 16)) (.acons (.tup (.acons (.tup (.acons (.cst (.int 0)) (.acons (.cst (.int 2)) .anil))) (.acons (.tup (.acons (.cst (.int 0)) (.acons (.cst (.int 1)) .anil))) .anil))) .anil))) .anil))))))))))))))
def B_q_right_t21 (f_is_web : Nat) : S := (.ret (.cmp .eq (B_q_right_e11 f_is_web) (.bin .add (.lst (.acons (.cst (.bl true)) .anil)) (.bin .mul (.lst (.acons (.cst (.bl false)) .anil)) (.cst (.int 11))))))
def B_q_right (f_table : Nat) (f_q_of : Nat) (f_q_changed : Nat) (f_q_web : Nat) (f_q_lots : Nat) (f_q_some : Nat) (f_changed : Nat) (f_q_sum : Nat) (f_steps : Nat) (f_sum_of : Nat) (f_is_web : Nat) (f_q_take : Nat) (f_near : Nat) (f_reach : Nat) (f_behind : Nat) (f_is_quiet : Nat) (f_q_reach : Nat) : S := (.seq (B_q_right_t1 f_q_of f_q_web f_q_take) (.seq B_q_right_t2 (.seq (B_q_right_t3 f_near f_reach f_q_reach) (.seq (B_q_right_t4 f_table) (.seq (B_q_right_t5 f_q_reach) (.seq B_q_right_t6 (.seq (B_q_right_t7 f_q_take) (.seq (B_q_right_t8 f_q_of f_q_lots) (.seq (B_q_right_t9 f_q_changed) (.seq (B_q_right_t10 f_changed f_q_sum f_behind) (.seq B_q_right_t11 (.seq (B_q_right_t12 f_q_sum f_q_reach) (.seq (B_q_right_t13 f_steps) (.seq B_q_right_t14 (.seq (B_q_right_t15 f_q_some) (.seq (B_q_right_t16 f_changed f_is_quiet) (.seq (B_q_right_t17 f_q_of f_q_lots f_q_take) (.seq (B_q_right_t18 f_q_sum f_sum_of) (.seq (B_q_right_t19 f_q_changed f_changed f_q_sum f_sum_of) (.seq B_q_right_t20 (.seq (B_q_right_t21 f_is_web) .nop)))))))))))))))))))))
/-- law
 -/
def B_law_e1 (f_q_right : Nat) : E := (.lc [3] (.nm 3) (.rng (.acons (.cst (.int 4)) .anil)) .anil (.call f_q_right (.acons (.var 2) .anil)))
def B_law_s1 (f_q_pot : Nat) (f_q_right : Nat) : S := (.seq (.seq (.asg (.nm 2) (.call f_q_pot (.acons (.var 0) (.acons (.var 1) .anil)))) (.seq (.ite (.not (.bi .all (.acons (B_law_e1 f_q_right) .anil))) (.seq (.ret (.cst (.bl false))) .nop) .nop) .nop)) (.wipe [1, 2]))
def B_law (f_q_cells : Nat) (f_q_pot : Nat) (f_q_right : Nat) : S := (.seq (.seq (.for_ (.nm 1) (.call f_q_cells (.acons (.var 0) (.acons (.cst (.int 3)) .anil))) (B_law_s1 f_q_pot f_q_right)) (.wipe [1, 2])) (.seq (.ret (.cst (.bl true))) .nop))
end Mi

namespace G
open PySem PySem.Spec PyProof.Rows L2 Mi
def top (i : Nat) : Stmt := PySem.Challenge.pw_whicheverlit_k05_whole_presses_and_lamps.main.body.getD i (.Pass ⟨0, 0, 0, 0⟩)
def nms : List Str := [(Str.ofString "_law_cells"), (Str.ofString "_law_pot"), (Str.ofString "is_ascending"), (Str.ofString "is_integer"), (Str.ofString "is_between"), (Str.ofString "are_between"), (Str.ofString "is_door"), (Str.ofString "is_web"), (Str.ofString "check_web"), (Str.ofString "check_kind"), (Str.ofString "near_of"), (Str.ofString "reach_of"), (Str.ofString "table"), (Str.ofString "_law_take"), (Str.ofString "_law_of"), (Str.ofString "_law_sum"), (Str.ofString "_law_reach"), (Str.ofString "_law_changed"), (Str.ofString "_law_some"), (Str.ofString "_law_web"), (Str.ofString "_law_lots"), (Str.ofString "check_presses"), (Str.ofString "sum_by"), (Str.ofString "changed_by"), (Str.ofString "changed"), (Str.ofString "is_lot_of"), (Str.ofString "check_lot"), (Str.ofString "check_ahead"), (Str.ofString "steps"), (Str.ofString "sum_of"), (Str.ofString "check_room"), (Str.ofString "near"), (Str.ofString "reach"), (Str.ofString "behind"), (Str.ofString "is_quiet"), (Str.ofString "_law_right"), (Str.ofString "law")]
def cst : List (Str × D) := [((Str.ofString "MOST_ROOMS"), (.int (16))), ((Str.ofString "OWN"), (.str (Str.ofString "own"))), ((Str.ofString "SHUT"), (.str (Str.ofString "shut"))), ((Str.ofString "MOST_PRESSES"), (.int (100)))]
abbrev s0 : Stmt := top 44
def n0 : List Str := [(Str.ofString "script"), (Str.ofString "limit")]
def p0 : List Str := [(Str.ofString "script"), (Str.ofString "limit")]
abbrev s1 : Stmt := top 41
def n1 : List Str := [(Str.ofString "script"), (Str.ofString "place"), (Str.ofString "cell"), (Str.ofString "own"), (Str.ofString "small")]
def p1 : List Str := [(Str.ofString "script"), (Str.ofString "place")]
abbrev s2 : Stmt := top 12
def n2 : List Str := [(Str.ofString "items"), (Str.ofString "one"), (Str.ofString "other")]
def p2 : List Str := [(Str.ofString "items")]
abbrev s3 : Stmt := top 9
def n3 : List Str := [(Str.ofString "value")]
def p3 : List Str := [(Str.ofString "value")]
abbrev s4 : Stmt := top 10
def n4 : List Str := [(Str.ofString "value"), (Str.ofString "low"), (Str.ofString "high")]
def p4 : List Str := [(Str.ofString "value"), (Str.ofString "low"), (Str.ofString "high")]
abbrev s5 : Stmt := top 11
def n5 : List Str := [(Str.ofString "value"), (Str.ofString "low"), (Str.ofString "high"), (Str.ofString "one")]
def p5 : List Str := [(Str.ofString "value"), (Str.ofString "low"), (Str.ofString "high")]
abbrev s6 : Stmt := top 15
def n6 : List Str := [(Str.ofString "many"), (Str.ofString "value")]
def p6 : List Str := [(Str.ofString "many"), (Str.ofString "value")]
abbrev s7 : Stmt := top 16
def n7 : List Str := [(Str.ofString "value"), (Str.ofString "door")]
def p7 : List Str := [(Str.ofString "value")]
abbrev s8 : Stmt := top 17
def n8 : List Str := [(Str.ofString "value")]
def p8 : List Str := [(Str.ofString "value")]
abbrev s9 : Stmt := top 27
def n9 : List Str := [(Str.ofString "web"), (Str.ofString "kind")]
def p9 : List Str := [(Str.ofString "web"), (Str.ofString "kind")]
abbrev s10 : Stmt := top 21
def n10 : List Str := [(Str.ofString "web"), (Str.ofString "room"), (Str.ofString "one"), (Str.ofString "other")]
def p10 : List Str := [(Str.ofString "web"), (Str.ofString "room")]
abbrev s11 : Stmt := top 29
def n11 : List Str := [(Str.ofString "web"), (Str.ofString "kind"), (Str.ofString "room")]
def p11 : List Str := [(Str.ofString "web"), (Str.ofString "kind"), (Str.ofString "room")]
abbrev s12 : Stmt := top 39
def n12 : List Str := [(Str.ofString "web"), (Str.ofString "kind"), (Str.ofString "rows"), (Str.ofString "room"), (Str.ofString "row")]
def p12 : List Str := [(Str.ofString "web"), (Str.ofString "kind")]
abbrev s13 : Stmt := top 42
def n13 : List Str := [(Str.ofString "pot"), (Str.ofString "upto"), (Str.ofString "prime"), (Str.ofString "blend"), (Str.ofString "digit")]
def p13 : List Str := [(Str.ofString "pot"), (Str.ofString "upto")]
abbrev s14 : Stmt := top 43
def n14 : List Str := [(Str.ofString "pot"), (Str.ofString "some")]
def p14 : List Str := [(Str.ofString "pot"), (Str.ofString "some")]
abbrev s15 : Stmt := top 48
def n15 : List Str := [(Str.ofString "lots"), (Str.ofString "count"), (Str.ofString "lot"), (Str.ofString "room")]
def p15 : List Str := [(Str.ofString "lots")]
abbrev s16 : Stmt := top 47
def n16 : List Str := [(Str.ofString "web"), (Str.ofString "kind"), (Str.ofString "room"), (Str.ofString "others"), (Str.ofString "other")]
def p16 : List Str := [(Str.ofString "web"), (Str.ofString "kind"), (Str.ofString "room")]
abbrev s17 : Stmt := top 49
def n17 : List Str := [(Str.ofString "web"), (Str.ofString "kind"), (Str.ofString "presses"), (Str.ofString "room")]
def p17 : List Str := [(Str.ofString "web"), (Str.ofString "kind"), (Str.ofString "presses")]
abbrev s18 : Stmt := top 45
def n18 : List Str := [(Str.ofString "pot"), (Str.ofString "pool"), (Str.ofString "many"), (Str.ofString "lap"), (Str.ofString "left"), (Str.ofString "found")]
def p18 : List Str := [(Str.ofString "pot"), (Str.ofString "pool"), (Str.ofString "many")]
abbrev s19 : Stmt := top 46
def n19 : List Str := [(Str.ofString "pot"), (Str.ofString "many"), (Str.ofString "most"), (Str.ofString "one"), (Str.ofString "doors"), (Str.ofString "pairs"), (Str.ofString "way"), (Str.ofString "other")]
def p19 : List Str := [(Str.ofString "pot"), (Str.ofString "many"), (Str.ofString "most")]
abbrev s20 : Stmt := top 50
def n20 : List Str := [(Str.ofString "many"), (Str.ofString "rows"), (Str.ofString "room"), (Str.ofString "row")]
def p20 : List Str := [(Str.ofString "many")]
abbrev s21 : Stmt := top 28
def n21 : List Str := [(Str.ofString "web"), (Str.ofString "presses")]
def p21 : List Str := [(Str.ofString "web"), (Str.ofString "presses")]
abbrev s22 : Stmt := top 31
def n22 : List Str := [(Str.ofString "lots"), (Str.ofString "count"), (Str.ofString "lot"), (Str.ofString "room")]
def p22 : List Str := [(Str.ofString "lots")]
abbrev s23 : Stmt := top 32
def n23 : List Str := [(Str.ofString "web"), (Str.ofString "kind"), (Str.ofString "presses"), (Str.ofString "room")]
def p23 : List Str := [(Str.ofString "web"), (Str.ofString "kind"), (Str.ofString "presses")]
abbrev s24 : Stmt := top 33
def n24 : List Str := [(Str.ofString "web"), (Str.ofString "kind"), (Str.ofString "presses")]
def p24 : List Str := [(Str.ofString "web"), (Str.ofString "kind"), (Str.ofString "presses")]
abbrev s25 : Stmt := top 18
def n25 : List Str := [(Str.ofString "web"), (Str.ofString "value")]
def p25 : List Str := [(Str.ofString "web"), (Str.ofString "value")]
abbrev s26 : Stmt := top 19
def n26 : List Str := [(Str.ofString "web"), (Str.ofString "lot")]
def p26 : List Str := [(Str.ofString "web"), (Str.ofString "lot")]
abbrev s27 : Stmt := top 34
def n27 : List Str := [(Str.ofString "web"), (Str.ofString "kind"), (Str.ofString "lit"), (Str.ofString "presses")]
def p27 : List Str := [(Str.ofString "web"), (Str.ofString "kind"), (Str.ofString "lit"), (Str.ofString "presses")]
abbrev s28 : Stmt := top 36
def n28 : List Str := [(Str.ofString "web"), (Str.ofString "kind"), (Str.ofString "lit"), (Str.ofString "presses"), (Str.ofString "found"), (Str.ofString "room")]
def p28 : List Str := [(Str.ofString "web"), (Str.ofString "kind"), (Str.ofString "lit"), (Str.ofString "presses")]
abbrev s29 : Stmt := top 37
def n29 : List Str := [(Str.ofString "web"), (Str.ofString "lots"), (Str.ofString "lot")]
def p29 : List Str := [(Str.ofString "web"), (Str.ofString "lots")]
abbrev s30 : Stmt := top 20
def n30 : List Str := [(Str.ofString "web"), (Str.ofString "room")]
def p30 : List Str := [(Str.ofString "web"), (Str.ofString "room")]
abbrev s31 : Stmt := top 22
def n31 : List Str := [(Str.ofString "web"), (Str.ofString "room")]
def p31 : List Str := [(Str.ofString "web"), (Str.ofString "room")]
abbrev s32 : Stmt := top 30
def n32 : List Str := [(Str.ofString "web"), (Str.ofString "kind"), (Str.ofString "room")]
def p32 : List Str := [(Str.ofString "web"), (Str.ofString "kind"), (Str.ofString "room")]
abbrev s33 : Stmt := top 35
def n33 : List Str := [(Str.ofString "web"), (Str.ofString "kind"), (Str.ofString "lit"), (Str.ofString "presses")]
def p33 : List Str := [(Str.ofString "web"), (Str.ofString "kind"), (Str.ofString "lit"), (Str.ofString "presses")]
abbrev s34 : Stmt := top 38
def n34 : List Str := [(Str.ofString "web"), (Str.ofString "kind"), (Str.ofString "lot")]
def p34 : List Str := [(Str.ofString "web"), (Str.ofString "kind"), (Str.ofString "lot")]
abbrev s35 : Stmt := top 51
def n35 : List Str := [(Str.ofString "pot"), (Str.ofString "many"), (Str.ofString "room"), (Str.ofString "rows"), (Str.ofString "presses"), (Str.ofString "lit"), (Str.ofString "due"), (Str.ofString "each"), (Str.ofString "once"), (Str.ofString "other"), (Str.ofString "lots"), (Str.ofString "some"), (Str.ofString "web"), (Str.ofString "kind"), (Str.ofString "lap"), (Str.ofString "value"), (Str.ofString "lot"), (Str.ofString "one"), (Str.ofString "row")]
def p35 : List Str := [(Str.ofString "pot")]
abbrev s36 : Stmt := top 52
def n36 : List Str := [(Str.ofString "script"), (Str.ofString "place"), (Str.ofString "pot"), (Str.ofString "lap")]
def p36 : List Str := [(Str.ofString "script")]
def dt : Pos → Bool := fun _ => false
def wpf : Pos → List Nat := fun p => if p.line = 193 ∧ p.col = 4 then [1, 2] else if p.line = 177 ∧ p.col = 4 then [2] else if p.line = 161 ∧ p.col = 4 then [2] else if p.line = 94 ∧ p.col = 4 then [5] else if p.line = 75 ∧ p.col = 8 then [3] else if p.line = 74 ∧ p.col = 4 then [2, 3] else if p.line = 155 ∧ p.col = 4 then [2] else if p.line = 136 ∧ p.col = 4 then [3] else if p.line = 131 ∧ p.col = 4 then [3] else if p.line = 148 ∧ p.col = 8 then [3] else if p.line = 147 ∧ p.col = 4 then [2, 3] else []
def kwl : List (Str × List (List Str × List Nat)) := [((Str.ofString "table"), [([(Str.ofString "kind"), (Str.ofString "web")], [1, 0])]), ((Str.ofString "steps"), [([(Str.ofString "presses"), (Str.ofString "lit"), (Str.ofString "kind"), (Str.ofString "web")], [3, 2, 1, 0])]), ((Str.ofString "sum_of"), [([(Str.ofString "lots"), (Str.ofString "web")], [1, 0])]), ((Str.ofString "near"), [([(Str.ofString "room"), (Str.ofString "web")], [1, 0])]), ((Str.ofString "reach"), [([(Str.ofString "room"), (Str.ofString "kind"), (Str.ofString "web")], [2, 1, 0])]), ((Str.ofString "changed"), [([(Str.ofString "presses"), (Str.ofString "kind"), (Str.ofString "web")], [2, 1, 0])]), ((Str.ofString "behind"), [([(Str.ofString "presses"), (Str.ofString "lit"), (Str.ofString "kind"), (Str.ofString "web")], [3, 2, 1, 0])]), ((Str.ofString "is_quiet"), [([(Str.ofString "lot"), (Str.ofString "kind"), (Str.ofString "web")], [2, 1, 0])])]
instance : KwTab := ⟨fun x => (kwl.lookup x).getD []⟩
def b0 : S := B_q_cells 
def b1 : S := B_q_pot 
def b2 : S := B_is_ascending 
def b3 : S := B_is_integer 
def b4 : S := B_is_between 3
def b5 : S := B_are_between 4
def b6 : S := B_is_door 5
def b7 : S := B_is_web 2 4 6
def b8 : S := B_check_web 7
def b9 : S := B_check_kind 8
def b10 : S := B_near_of 
def b11 : S := B_reach_of 10
def b12 : S := B_table 9 11
def b13 : S := B_q_take 
def b14 : S := B_q_of 13
def b15 : S := B_q_sum 
def b16 : S := B_q_reach 
def b17 : S := B_q_changed 15 16
def b18 : S := B_q_some 13
def b19 : S := B_q_web 13 18
def b20 : S := B_q_lots 
def b21 : S := B_check_presses 5
def b22 : S := B_sum_by 
def b23 : S := B_changed_by 22 11
def b24 : S := B_changed 9 21 23
def b25 : S := B_is_lot_of 5 2
def b26 : S := B_check_lot 25
def b27 : S := B_check_ahead 9 26 21
def b28 : S := B_steps 27 22 11
def b29 : S := B_sum_of 8 22 25
def b30 : S := B_check_room 4
def b31 : S := B_near 8 30 10
def b32 : S := B_reach 9 30 11
def b33 : S := B_behind 27 22 23
def b34 : S := B_is_quiet 9 26 23
def b35 : S := B_q_right 12 14 17 19 20 18 24 15 28 29 7 13 31 32 33 34 16
def b36 : S := B_law 0 1 35
theorem c0 : (cSs 40 ⟨defScope s0, n0, fun _ => true, cst, nms, dt, 1000000, wpf⟩ 12 (defBody s0)).1 = b0 := by kernel_rfl
theorem f0 : FnScope n0 p0 (defScope s0) := ⟨rfl, rfl, rfl, by decide +kernel, by decide +kernel, by decide +kernel, by decide +kernel⟩
theorem c1 : (cSs 40 ⟨defScope s1, n1, fun _ => true, cst, nms, dt, 1000000, wpf⟩ 12 (defBody s1)).1 = b1 := by kernel_rfl
theorem f1 : FnScope n1 p1 (defScope s1) := ⟨rfl, rfl, rfl, by decide +kernel, by decide +kernel, by decide +kernel, by decide +kernel⟩
theorem c2 : (cSs 40 ⟨defScope s2, n2, fun _ => true, cst, nms, dt, 1000000, wpf⟩ 12 (defBody s2)).1 = b2 := by kernel_rfl
theorem f2 : FnScope n2 p2 (defScope s2) := ⟨rfl, rfl, rfl, by decide +kernel, by decide +kernel, by decide +kernel, by decide +kernel⟩
theorem c3 : (cSs 40 ⟨defScope s3, n3, fun _ => true, cst, nms, dt, 1000000, wpf⟩ 12 (defBody s3)).1 = b3 := by kernel_rfl
theorem f3 : FnScope n3 p3 (defScope s3) := ⟨rfl, rfl, rfl, by decide +kernel, by decide +kernel, by decide +kernel, by decide +kernel⟩
theorem c4 : (cSs 40 ⟨defScope s4, n4, fun _ => true, cst, nms, dt, 1000000, wpf⟩ 12 (defBody s4)).1 = b4 := by kernel_rfl
theorem f4 : FnScope n4 p4 (defScope s4) := ⟨rfl, rfl, rfl, by decide +kernel, by decide +kernel, by decide +kernel, by decide +kernel⟩
theorem c5 : (cSs 40 ⟨defScope s5, n5, fun _ => true, cst, nms, dt, 1000000, wpf⟩ 12 (defBody s5)).1 = b5 := by kernel_rfl
theorem f5 : FnScope n5 p5 (defScope s5) := ⟨rfl, rfl, rfl, by decide +kernel, by decide +kernel, by decide +kernel, by decide +kernel⟩
theorem c6 : (cSs 40 ⟨defScope s6, n6, fun _ => true, cst, nms, dt, 1000000, wpf⟩ 12 (defBody s6)).1 = b6 := by kernel_rfl
theorem f6 : FnScope n6 p6 (defScope s6) := ⟨rfl, rfl, rfl, by decide +kernel, by decide +kernel, by decide +kernel, by decide +kernel⟩
theorem c7 : (cSs 40 ⟨defScope s7, n7, fun _ => true, cst, nms, dt, 1000000, wpf⟩ 12 (defBody s7)).1 = b7 := by kernel_rfl
theorem f7 : FnScope n7 p7 (defScope s7) := ⟨rfl, rfl, rfl, by decide +kernel, by decide +kernel, by decide +kernel, by decide +kernel⟩
theorem c8 : (cSs 40 ⟨defScope s8, n8, fun _ => true, cst, nms, dt, 1000000, wpf⟩ 12 (defBody s8)).1 = b8 := by kernel_rfl
theorem f8 : FnScope n8 p8 (defScope s8) := ⟨rfl, rfl, rfl, by decide +kernel, by decide +kernel, by decide +kernel, by decide +kernel⟩
theorem c9 : (cSs 40 ⟨defScope s9, n9, fun _ => true, cst, nms, dt, 1000000, wpf⟩ 12 (defBody s9)).1 = b9 := by kernel_rfl
theorem f9 : FnScope n9 p9 (defScope s9) := ⟨rfl, rfl, rfl, by decide +kernel, by decide +kernel, by decide +kernel, by decide +kernel⟩
theorem c10 : (cSs 40 ⟨defScope s10, n10, fun _ => true, cst, nms, dt, 1000000, wpf⟩ 12 (defBody s10)).1 = b10 := by kernel_rfl
theorem f10 : FnScope n10 p10 (defScope s10) := ⟨rfl, rfl, rfl, by decide +kernel, by decide +kernel, by decide +kernel, by decide +kernel⟩
theorem c11 : (cSs 40 ⟨defScope s11, n11, fun _ => true, cst, nms, dt, 1000000, wpf⟩ 12 (defBody s11)).1 = b11 := by kernel_rfl
theorem f11 : FnScope n11 p11 (defScope s11) := ⟨rfl, rfl, rfl, by decide +kernel, by decide +kernel, by decide +kernel, by decide +kernel⟩
theorem c12 : (cSs 40 ⟨defScope s12, n12, fun _ => true, cst, nms, dt, 1000000, wpf⟩ 12 (defBody s12)).1 = b12 := by kernel_rfl
theorem f12 : FnScope n12 p12 (defScope s12) := ⟨rfl, rfl, rfl, by decide +kernel, by decide +kernel, by decide +kernel, by decide +kernel⟩
theorem c13 : (cSs 40 ⟨defScope s13, n13, fun _ => true, cst, nms, dt, 1000000, wpf⟩ 12 (defBody s13)).1 = b13 := by kernel_rfl
theorem f13 : FnScope n13 p13 (defScope s13) := ⟨rfl, rfl, rfl, by decide +kernel, by decide +kernel, by decide +kernel, by decide +kernel⟩
theorem c14 : (cSs 40 ⟨defScope s14, n14, fun _ => true, cst, nms, dt, 1000000, wpf⟩ 12 (defBody s14)).1 = b14 := by kernel_rfl
theorem f14 : FnScope n14 p14 (defScope s14) := ⟨rfl, rfl, rfl, by decide +kernel, by decide +kernel, by decide +kernel, by decide +kernel⟩
theorem c15 : (cSs 40 ⟨defScope s15, n15, fun _ => true, cst, nms, dt, 1000000, wpf⟩ 12 (defBody s15)).1 = b15 := by kernel_rfl
theorem f15 : FnScope n15 p15 (defScope s15) := ⟨rfl, rfl, rfl, by decide +kernel, by decide +kernel, by decide +kernel, by decide +kernel⟩
theorem c16 : (cSs 40 ⟨defScope s16, n16, fun _ => true, cst, nms, dt, 1000000, wpf⟩ 12 (defBody s16)).1 = b16 := by kernel_rfl
theorem f16 : FnScope n16 p16 (defScope s16) := ⟨rfl, rfl, rfl, by decide +kernel, by decide +kernel, by decide +kernel, by decide +kernel⟩
theorem c17 : (cSs 40 ⟨defScope s17, n17, fun _ => true, cst, nms, dt, 1000000, wpf⟩ 12 (defBody s17)).1 = b17 := by kernel_rfl
theorem f17 : FnScope n17 p17 (defScope s17) := ⟨rfl, rfl, rfl, by decide +kernel, by decide +kernel, by decide +kernel, by decide +kernel⟩
theorem c18 : (cSs 40 ⟨defScope s18, n18, fun _ => true, cst, nms, dt, 1000000, wpf⟩ 12 (defBody s18)).1 = b18 := by kernel_rfl
theorem f18 : FnScope n18 p18 (defScope s18) := ⟨rfl, rfl, rfl, by decide +kernel, by decide +kernel, by decide +kernel, by decide +kernel⟩
theorem c19 : (cSs 40 ⟨defScope s19, n19, fun _ => true, cst, nms, dt, 1000000, wpf⟩ 12 (defBody s19)).1 = b19 := by kernel_rfl
theorem f19 : FnScope n19 p19 (defScope s19) := ⟨rfl, rfl, rfl, by decide +kernel, by decide +kernel, by decide +kernel, by decide +kernel⟩
theorem c20 : (cSs 40 ⟨defScope s20, n20, fun _ => true, cst, nms, dt, 1000000, wpf⟩ 12 (defBody s20)).1 = b20 := by kernel_rfl
theorem f20 : FnScope n20 p20 (defScope s20) := ⟨rfl, rfl, rfl, by decide +kernel, by decide +kernel, by decide +kernel, by decide +kernel⟩
theorem c21 : (cSs 40 ⟨defScope s21, n21, fun _ => true, cst, nms, dt, 1000000, wpf⟩ 12 (defBody s21)).1 = b21 := by kernel_rfl
theorem f21 : FnScope n21 p21 (defScope s21) := ⟨rfl, rfl, rfl, by decide +kernel, by decide +kernel, by decide +kernel, by decide +kernel⟩
theorem c22 : (cSs 40 ⟨defScope s22, n22, fun _ => true, cst, nms, dt, 1000000, wpf⟩ 12 (defBody s22)).1 = b22 := by kernel_rfl
theorem f22 : FnScope n22 p22 (defScope s22) := ⟨rfl, rfl, rfl, by decide +kernel, by decide +kernel, by decide +kernel, by decide +kernel⟩
theorem c23 : (cSs 40 ⟨defScope s23, n23, fun _ => true, cst, nms, dt, 1000000, wpf⟩ 12 (defBody s23)).1 = b23 := by kernel_rfl
theorem f23 : FnScope n23 p23 (defScope s23) := ⟨rfl, rfl, rfl, by decide +kernel, by decide +kernel, by decide +kernel, by decide +kernel⟩
theorem c24 : (cSs 40 ⟨defScope s24, n24, fun _ => true, cst, nms, dt, 1000000, wpf⟩ 12 (defBody s24)).1 = b24 := by kernel_rfl
theorem f24 : FnScope n24 p24 (defScope s24) := ⟨rfl, rfl, rfl, by decide +kernel, by decide +kernel, by decide +kernel, by decide +kernel⟩
theorem c25 : (cSs 40 ⟨defScope s25, n25, fun _ => true, cst, nms, dt, 1000000, wpf⟩ 12 (defBody s25)).1 = b25 := by kernel_rfl
theorem f25 : FnScope n25 p25 (defScope s25) := ⟨rfl, rfl, rfl, by decide +kernel, by decide +kernel, by decide +kernel, by decide +kernel⟩
theorem c26 : (cSs 40 ⟨defScope s26, n26, fun _ => true, cst, nms, dt, 1000000, wpf⟩ 12 (defBody s26)).1 = b26 := by kernel_rfl
theorem f26 : FnScope n26 p26 (defScope s26) := ⟨rfl, rfl, rfl, by decide +kernel, by decide +kernel, by decide +kernel, by decide +kernel⟩
theorem c27 : (cSs 40 ⟨defScope s27, n27, fun _ => true, cst, nms, dt, 1000000, wpf⟩ 12 (defBody s27)).1 = b27 := by kernel_rfl
theorem f27 : FnScope n27 p27 (defScope s27) := ⟨rfl, rfl, rfl, by decide +kernel, by decide +kernel, by decide +kernel, by decide +kernel⟩
theorem c28 : (cSs 40 ⟨defScope s28, n28, fun _ => true, cst, nms, dt, 1000000, wpf⟩ 12 (defBody s28)).1 = b28 := by kernel_rfl
theorem f28 : FnScope n28 p28 (defScope s28) := ⟨rfl, rfl, rfl, by decide +kernel, by decide +kernel, by decide +kernel, by decide +kernel⟩
theorem c29 : (cSs 40 ⟨defScope s29, n29, fun _ => true, cst, nms, dt, 1000000, wpf⟩ 12 (defBody s29)).1 = b29 := by kernel_rfl
theorem f29 : FnScope n29 p29 (defScope s29) := ⟨rfl, rfl, rfl, by decide +kernel, by decide +kernel, by decide +kernel, by decide +kernel⟩
theorem c30 : (cSs 40 ⟨defScope s30, n30, fun _ => true, cst, nms, dt, 1000000, wpf⟩ 12 (defBody s30)).1 = b30 := by kernel_rfl
theorem f30 : FnScope n30 p30 (defScope s30) := ⟨rfl, rfl, rfl, by decide +kernel, by decide +kernel, by decide +kernel, by decide +kernel⟩
theorem c31 : (cSs 40 ⟨defScope s31, n31, fun _ => true, cst, nms, dt, 1000000, wpf⟩ 12 (defBody s31)).1 = b31 := by kernel_rfl
theorem f31 : FnScope n31 p31 (defScope s31) := ⟨rfl, rfl, rfl, by decide +kernel, by decide +kernel, by decide +kernel, by decide +kernel⟩
theorem c32 : (cSs 40 ⟨defScope s32, n32, fun _ => true, cst, nms, dt, 1000000, wpf⟩ 12 (defBody s32)).1 = b32 := by kernel_rfl
theorem f32 : FnScope n32 p32 (defScope s32) := ⟨rfl, rfl, rfl, by decide +kernel, by decide +kernel, by decide +kernel, by decide +kernel⟩
theorem c33 : (cSs 40 ⟨defScope s33, n33, fun _ => true, cst, nms, dt, 1000000, wpf⟩ 12 (defBody s33)).1 = b33 := by kernel_rfl
theorem f33 : FnScope n33 p33 (defScope s33) := ⟨rfl, rfl, rfl, by decide +kernel, by decide +kernel, by decide +kernel, by decide +kernel⟩
theorem c34 : (cSs 40 ⟨defScope s34, n34, fun _ => true, cst, nms, dt, 1000000, wpf⟩ 12 (defBody s34)).1 = b34 := by kernel_rfl
theorem f34 : FnScope n34 p34 (defScope s34) := ⟨rfl, rfl, rfl, by decide +kernel, by decide +kernel, by decide +kernel, by decide +kernel⟩
theorem c35 : (cSs 40 ⟨defScope s35, n35, fun _ => true, cst, nms, dt, 1000000, wpf⟩ 12 (defBody s35)).1 = b35 := by kernel_rfl
theorem f35 : FnScope n35 p35 (defScope s35) := ⟨rfl, rfl, rfl, by decide +kernel, by decide +kernel, by decide +kernel, by decide +kernel⟩
theorem c36 : (cSs 40 ⟨defScope s36, n36, fun _ => true, cst, nms, dt, 1000000, wpf⟩ 12 (defBody s36)).1 = b36 := by kernel_rfl
theorem f36 : FnScope n36 p36 (defScope s36) := ⟨rfl, rfl, rfl, by decide +kernel, by decide +kernel, by decide +kernel, by decide +kernel⟩
end G

namespace G
open PySem PySem.Spec PyProof.Rows L2 Mi
theorem a0 : Bd (Str.ofString "_law_cells") s0 p0 := fun _ _ _ _ _ _ us hl => match us, hl with | [_, _], _ => rfl
theorem w0 : Kw (Str.ofString "_law_cells") s0 p0 := kw_none (by decide +kernel)
def d0 : DF := ⟨2, 2, b0⟩
theorem a1 : Bd (Str.ofString "_law_pot") s1 p1 := fun _ _ _ _ _ _ us hl => match us, hl with | [_, _], _ => rfl
theorem w1 : Kw (Str.ofString "_law_pot") s1 p1 := kw_none (by decide +kernel)
def d1 : DF := ⟨2, 5, b1⟩
theorem a2 : Bd (Str.ofString "is_ascending") s2 p2 := fun _ _ _ _ _ _ us hl => match us, hl with | [_], _ => rfl
theorem w2 : Kw (Str.ofString "is_ascending") s2 p2 := kw_none (by decide +kernel)
def d2 : DF := ⟨1, 3, b2⟩
theorem a3 : Bd (Str.ofString "is_integer") s3 p3 := fun _ _ _ _ _ _ us hl => match us, hl with | [_], _ => rfl
theorem w3 : Kw (Str.ofString "is_integer") s3 p3 := kw_none (by decide +kernel)
def d3 : DF := ⟨1, 1, b3⟩
theorem a4 : Bd (Str.ofString "is_between") s4 p4 := fun _ _ _ _ _ _ us hl => match us, hl with | [_, _, _], _ => rfl
theorem w4 : Kw (Str.ofString "is_between") s4 p4 := kw_none (by decide +kernel)
def d4 : DF := ⟨3, 3, b4⟩
theorem a5 : Bd (Str.ofString "are_between") s5 p5 := fun _ _ _ _ _ _ us hl => match us, hl with | [_, _, _], _ => rfl
theorem w5 : Kw (Str.ofString "are_between") s5 p5 := kw_none (by decide +kernel)
def d5 : DF := ⟨3, 4, b5⟩
theorem a6 : Bd (Str.ofString "is_door") s6 p6 := fun _ _ _ _ _ _ us hl => match us, hl with | [_, _], _ => rfl
theorem w6 : Kw (Str.ofString "is_door") s6 p6 := kw_none (by decide +kernel)
def d6 : DF := ⟨2, 2, b6⟩
theorem a7 : Bd (Str.ofString "is_web") s7 p7 := fun _ _ _ _ _ _ us hl => match us, hl with | [_], _ => rfl
theorem w7 : Kw (Str.ofString "is_web") s7 p7 := kw_none (by decide +kernel)
def d7 : DF := ⟨1, 2, b7⟩
theorem a8 : Bd (Str.ofString "check_web") s8 p8 := fun _ _ _ _ _ _ us hl => match us, hl with | [_], _ => rfl
theorem w8 : Kw (Str.ofString "check_web") s8 p8 := kw_none (by decide +kernel)
def d8 : DF := ⟨1, 1, b8⟩
theorem a9 : Bd (Str.ofString "check_kind") s9 p9 := fun _ _ _ _ _ _ us hl => match us, hl with | [_, _], _ => rfl
theorem w9 : Kw (Str.ofString "check_kind") s9 p9 := kw_none (by decide +kernel)
def d9 : DF := ⟨2, 2, b9⟩
theorem a10 : Bd (Str.ofString "near_of") s10 p10 := fun _ _ _ _ _ _ us hl => match us, hl with | [_, _], _ => rfl
theorem w10 : Kw (Str.ofString "near_of") s10 p10 := kw_none (by decide +kernel)
def d10 : DF := ⟨2, 4, b10⟩
theorem a11 : Bd (Str.ofString "reach_of") s11 p11 := fun _ _ _ _ _ _ us hl => match us, hl with | [_, _, _], _ => rfl
theorem w11 : Kw (Str.ofString "reach_of") s11 p11 := kw_none (by decide +kernel)
def d11 : DF := ⟨3, 3, b11⟩
theorem a12 : Bd (Str.ofString "table") s12 p12 := fun _ _ _ _ _ _ us hl => match us, hl with | [_, _], _ => rfl
theorem w12 : Kw (Str.ofString "table") s12 p12 := fun ks pm hm => by
  have e : KwTab.tab (Str.ofString "table") = [([(Str.ofString "kind"), (Str.ofString "web")], [1, 0])] := by decide +kernel
  rw [e] at hm
  rcases List.mem_cons.mp hm with hm | hm
  · cases hm; exact fun _ _ _ _ _ _ ws hl => match ws, hl with | [_, _], _ => rfl
  · cases hm
def d12 : DF := ⟨2, 5, b12⟩
theorem a13 : Bd (Str.ofString "_law_take") s13 p13 := fun _ _ _ _ _ _ us hl => match us, hl with | [_, _], _ => rfl
theorem w13 : Kw (Str.ofString "_law_take") s13 p13 := kw_none (by decide +kernel)
def d13 : DF := ⟨2, 5, b13⟩
theorem a14 : Bd (Str.ofString "_law_of") s14 p14 := fun _ _ _ _ _ _ us hl => match us, hl with | [_, _], _ => rfl
theorem w14 : Kw (Str.ofString "_law_of") s14 p14 := kw_none (by decide +kernel)
def d14 : DF := ⟨2, 2, b14⟩
theorem a15 : Bd (Str.ofString "_law_sum") s15 p15 := fun _ _ _ _ _ _ us hl => match us, hl with | [_], _ => rfl
theorem w15 : Kw (Str.ofString "_law_sum") s15 p15 := kw_none (by decide +kernel)
def d15 : DF := ⟨1, 4, b15⟩
theorem a16 : Bd (Str.ofString "_law_reach") s16 p16 := fun _ _ _ _ _ _ us hl => match us, hl with | [_, _, _], _ => rfl
theorem w16 : Kw (Str.ofString "_law_reach") s16 p16 := kw_none (by decide +kernel)
def d16 : DF := ⟨3, 5, b16⟩
theorem a17 : Bd (Str.ofString "_law_changed") s17 p17 := fun _ _ _ _ _ _ us hl => match us, hl with | [_, _, _], _ => rfl
theorem w17 : Kw (Str.ofString "_law_changed") s17 p17 := kw_none (by decide +kernel)
def d17 : DF := ⟨3, 4, b17⟩
theorem a18 : Bd (Str.ofString "_law_some") s18 p18 := fun _ _ _ _ _ _ us hl => match us, hl with | [_, _, _], _ => rfl
theorem w18 : Kw (Str.ofString "_law_some") s18 p18 := kw_none (by decide +kernel)
def d18 : DF := ⟨3, 6, b18⟩
theorem a19 : Bd (Str.ofString "_law_web") s19 p19 := fun _ _ _ _ _ _ us hl => match us, hl with | [_, _, _], _ => rfl
theorem w19 : Kw (Str.ofString "_law_web") s19 p19 := kw_none (by decide +kernel)
def d19 : DF := ⟨3, 8, b19⟩
theorem a20 : Bd (Str.ofString "_law_lots") s20 p20 := fun _ _ _ _ _ _ us hl => match us, hl with | [_], _ => rfl
theorem w20 : Kw (Str.ofString "_law_lots") s20 p20 := kw_none (by decide +kernel)
def d20 : DF := ⟨1, 4, b20⟩
theorem a21 : Bd (Str.ofString "check_presses") s21 p21 := fun _ _ _ _ _ _ us hl => match us, hl with | [_, _], _ => rfl
theorem w21 : Kw (Str.ofString "check_presses") s21 p21 := kw_none (by decide +kernel)
def d21 : DF := ⟨2, 2, b21⟩
theorem a22 : Bd (Str.ofString "sum_by") s22 p22 := fun _ _ _ _ _ _ us hl => match us, hl with | [_], _ => rfl
theorem w22 : Kw (Str.ofString "sum_by") s22 p22 := kw_none (by decide +kernel)
def d22 : DF := ⟨1, 4, b22⟩
theorem a23 : Bd (Str.ofString "changed_by") s23 p23 := fun _ _ _ _ _ _ us hl => match us, hl with | [_, _, _], _ => rfl
theorem w23 : Kw (Str.ofString "changed_by") s23 p23 := kw_none (by decide +kernel)
def d23 : DF := ⟨3, 4, b23⟩
theorem a24 : Bd (Str.ofString "changed") s24 p24 := fun _ _ _ _ _ _ us hl => match us, hl with | [_, _, _], _ => rfl
theorem w24 : Kw (Str.ofString "changed") s24 p24 := fun ks pm hm => by
  have e : KwTab.tab (Str.ofString "changed") = [([(Str.ofString "presses"), (Str.ofString "kind"), (Str.ofString "web")], [2, 1, 0])] := by decide +kernel
  rw [e] at hm
  rcases List.mem_cons.mp hm with hm | hm
  · cases hm; exact fun _ _ _ _ _ _ ws hl => match ws, hl with | [_, _, _], _ => rfl
  · cases hm
def d24 : DF := ⟨3, 3, b24⟩
theorem a25 : Bd (Str.ofString "is_lot_of") s25 p25 := fun _ _ _ _ _ _ us hl => match us, hl with | [_, _], _ => rfl
theorem w25 : Kw (Str.ofString "is_lot_of") s25 p25 := kw_none (by decide +kernel)
def d25 : DF := ⟨2, 2, b25⟩
theorem a26 : Bd (Str.ofString "check_lot") s26 p26 := fun _ _ _ _ _ _ us hl => match us, hl with | [_, _], _ => rfl
theorem w26 : Kw (Str.ofString "check_lot") s26 p26 := kw_none (by decide +kernel)
def d26 : DF := ⟨2, 2, b26⟩
theorem a27 : Bd (Str.ofString "check_ahead") s27 p27 := fun _ _ _ _ _ _ us hl => match us, hl with | [_, _, _, _], _ => rfl
theorem w27 : Kw (Str.ofString "check_ahead") s27 p27 := kw_none (by decide +kernel)
def d27 : DF := ⟨4, 4, b27⟩
theorem a28 : Bd (Str.ofString "steps") s28 p28 := fun _ _ _ _ _ _ us hl => match us, hl with | [_, _, _, _], _ => rfl
theorem w28 : Kw (Str.ofString "steps") s28 p28 := fun ks pm hm => by
  have e : KwTab.tab (Str.ofString "steps") = [([(Str.ofString "presses"), (Str.ofString "lit"), (Str.ofString "kind"), (Str.ofString "web")], [3, 2, 1, 0])] := by decide +kernel
  rw [e] at hm
  rcases List.mem_cons.mp hm with hm | hm
  · cases hm; exact fun _ _ _ _ _ _ ws hl => match ws, hl with | [_, _, _, _], _ => rfl
  · cases hm
def d28 : DF := ⟨4, 6, b28⟩
theorem a29 : Bd (Str.ofString "sum_of") s29 p29 := fun _ _ _ _ _ _ us hl => match us, hl with | [_, _], _ => rfl
theorem w29 : Kw (Str.ofString "sum_of") s29 p29 := fun ks pm hm => by
  have e : KwTab.tab (Str.ofString "sum_of") = [([(Str.ofString "lots"), (Str.ofString "web")], [1, 0])] := by decide +kernel
  rw [e] at hm
  rcases List.mem_cons.mp hm with hm | hm
  · cases hm; exact fun _ _ _ _ _ _ ws hl => match ws, hl with | [_, _], _ => rfl
  · cases hm
def d29 : DF := ⟨2, 3, b29⟩
theorem a30 : Bd (Str.ofString "check_room") s30 p30 := fun _ _ _ _ _ _ us hl => match us, hl with | [_, _], _ => rfl
theorem w30 : Kw (Str.ofString "check_room") s30 p30 := kw_none (by decide +kernel)
def d30 : DF := ⟨2, 2, b30⟩
theorem a31 : Bd (Str.ofString "near") s31 p31 := fun _ _ _ _ _ _ us hl => match us, hl with | [_, _], _ => rfl
theorem w31 : Kw (Str.ofString "near") s31 p31 := fun ks pm hm => by
  have e : KwTab.tab (Str.ofString "near") = [([(Str.ofString "room"), (Str.ofString "web")], [1, 0])] := by decide +kernel
  rw [e] at hm
  rcases List.mem_cons.mp hm with hm | hm
  · cases hm; exact fun _ _ _ _ _ _ ws hl => match ws, hl with | [_, _], _ => rfl
  · cases hm
def d31 : DF := ⟨2, 2, b31⟩
theorem a32 : Bd (Str.ofString "reach") s32 p32 := fun _ _ _ _ _ _ us hl => match us, hl with | [_, _, _], _ => rfl
theorem w32 : Kw (Str.ofString "reach") s32 p32 := fun ks pm hm => by
  have e : KwTab.tab (Str.ofString "reach") = [([(Str.ofString "room"), (Str.ofString "kind"), (Str.ofString "web")], [2, 1, 0])] := by decide +kernel
  rw [e] at hm
  rcases List.mem_cons.mp hm with hm | hm
  · cases hm; exact fun _ _ _ _ _ _ ws hl => match ws, hl with | [_, _, _], _ => rfl
  · cases hm
def d32 : DF := ⟨3, 3, b32⟩
theorem a33 : Bd (Str.ofString "behind") s33 p33 := fun _ _ _ _ _ _ us hl => match us, hl with | [_, _, _, _], _ => rfl
theorem w33 : Kw (Str.ofString "behind") s33 p33 := fun ks pm hm => by
  have e : KwTab.tab (Str.ofString "behind") = [([(Str.ofString "presses"), (Str.ofString "lit"), (Str.ofString "kind"), (Str.ofString "web")], [3, 2, 1, 0])] := by decide +kernel
  rw [e] at hm
  rcases List.mem_cons.mp hm with hm | hm
  · cases hm; exact fun _ _ _ _ _ _ ws hl => match ws, hl with | [_, _, _, _], _ => rfl
  · cases hm
def d33 : DF := ⟨4, 4, b33⟩
theorem a34 : Bd (Str.ofString "is_quiet") s34 p34 := fun _ _ _ _ _ _ us hl => match us, hl with | [_, _, _], _ => rfl
theorem w34 : Kw (Str.ofString "is_quiet") s34 p34 := fun ks pm hm => by
  have e : KwTab.tab (Str.ofString "is_quiet") = [([(Str.ofString "lot"), (Str.ofString "kind"), (Str.ofString "web")], [2, 1, 0])] := by decide +kernel
  rw [e] at hm
  rcases List.mem_cons.mp hm with hm | hm
  · cases hm; exact fun _ _ _ _ _ _ ws hl => match ws, hl with | [_, _, _], _ => rfl
  · cases hm
def d34 : DF := ⟨3, 3, b34⟩
theorem a35 : Bd (Str.ofString "_law_right") s35 p35 := fun _ _ _ _ _ _ us hl => match us, hl with | [_], _ => rfl
theorem w35 : Kw (Str.ofString "_law_right") s35 p35 := kw_none (by decide +kernel)
def d35 : DF := ⟨1, 19, b35⟩
theorem a36 : Bd (Str.ofString "law") s36 p36 := fun _ _ _ _ _ _ us hl => match us, hl with | [_], _ => rfl
theorem w36 : Kw (Str.ofString "law") s36 p36 := kw_none (by decide +kernel)
def d36 : DF := ⟨1, 4, b36⟩
def ds0 : List DF := []
def ds1 : List DF := d0 :: ds0
def ds2 : List DF := d1 :: ds1
def ds3 : List DF := d2 :: ds2
def ds4 : List DF := d3 :: ds3
def ds5 : List DF := d4 :: ds4
def ds6 : List DF := d5 :: ds5
def ds7 : List DF := d6 :: ds6
def ds8 : List DF := d7 :: ds7
def ds9 : List DF := d8 :: ds8
def ds10 : List DF := d9 :: ds9
def ds11 : List DF := d10 :: ds10
def ds12 : List DF := d11 :: ds11
def ds13 : List DF := d12 :: ds12
def ds14 : List DF := d13 :: ds13
def ds15 : List DF := d14 :: ds14
def ds16 : List DF := d15 :: ds15
def ds17 : List DF := d16 :: ds16
def ds18 : List DF := d17 :: ds17
def ds19 : List DF := d18 :: ds18
def ds20 : List DF := d19 :: ds19
def ds21 : List DF := d20 :: ds20
def ds22 : List DF := d21 :: ds21
def ds23 : List DF := d22 :: ds22
def ds24 : List DF := d23 :: ds23
def ds25 : List DF := d24 :: ds24
def ds26 : List DF := d25 :: ds25
def ds27 : List DF := d26 :: ds26
def ds28 : List DF := d27 :: ds27
def ds29 : List DF := d28 :: ds28
def ds30 : List DF := d29 :: ds29
def ds31 : List DF := d30 :: ds30
def ds32 : List DF := d31 :: ds31
def ds33 : List DF := d32 :: ds32
def ds34 : List DF := d33 :: ds33
def ds35 : List DF := d34 :: ds34
def ds36 : List DF := d35 :: ds35
theorem table {P : Program} {w : World} {K : PySem.W.Frag} {mg : Str → Option Value} {base h : Heap} (X : K.In h) (G : h.Ns mainGlobals mg) (bl : BltOk K bltNames) (cs : CstOk K mg cst) (q0 : ∃ f fd, DfK K (Str.ofString "_law_cells") s0 f fd) (q1 : ∃ f fd, DfK K (Str.ofString "_law_pot") s1 f fd) (q2 : ∃ f fd, DfK K (Str.ofString "is_ascending") s2 f fd) (q3 : ∃ f fd, DfK K (Str.ofString "is_integer") s3 f fd) (q4 : ∃ f fd, DfK K (Str.ofString "is_between") s4 f fd) (q5 : ∃ f fd, DfK K (Str.ofString "are_between") s5 f fd) (q6 : ∃ f fd, DfK K (Str.ofString "is_door") s6 f fd) (q7 : ∃ f fd, DfK K (Str.ofString "is_web") s7 f fd) (q8 : ∃ f fd, DfK K (Str.ofString "check_web") s8 f fd) (q9 : ∃ f fd, DfK K (Str.ofString "check_kind") s9 f fd) (q10 : ∃ f fd, DfK K (Str.ofString "near_of") s10 f fd) (q11 : ∃ f fd, DfK K (Str.ofString "reach_of") s11 f fd) (q12 : ∃ f fd, DfK K (Str.ofString "table") s12 f fd) (q13 : ∃ f fd, DfK K (Str.ofString "_law_take") s13 f fd) (q14 : ∃ f fd, DfK K (Str.ofString "_law_of") s14 f fd) (q15 : ∃ f fd, DfK K (Str.ofString "_law_sum") s15 f fd) (q16 : ∃ f fd, DfK K (Str.ofString "_law_reach") s16 f fd) (q17 : ∃ f fd, DfK K (Str.ofString "_law_changed") s17 f fd) (q18 : ∃ f fd, DfK K (Str.ofString "_law_some") s18 f fd) (q19 : ∃ f fd, DfK K (Str.ofString "_law_web") s19 f fd) (q20 : ∃ f fd, DfK K (Str.ofString "_law_lots") s20 f fd) (q21 : ∃ f fd, DfK K (Str.ofString "check_presses") s21 f fd) (q22 : ∃ f fd, DfK K (Str.ofString "sum_by") s22 f fd) (q23 : ∃ f fd, DfK K (Str.ofString "changed_by") s23 f fd) (q24 : ∃ f fd, DfK K (Str.ofString "changed") s24 f fd) (q25 : ∃ f fd, DfK K (Str.ofString "is_lot_of") s25 f fd) (q26 : ∃ f fd, DfK K (Str.ofString "check_lot") s26 f fd) (q27 : ∃ f fd, DfK K (Str.ofString "check_ahead") s27 f fd) (q28 : ∃ f fd, DfK K (Str.ofString "steps") s28 f fd) (q29 : ∃ f fd, DfK K (Str.ofString "sum_of") s29 f fd) (q30 : ∃ f fd, DfK K (Str.ofString "check_room") s30 f fd) (q31 : ∃ f fd, DfK K (Str.ofString "near") s31 f fd) (q32 : ∃ f fd, DfK K (Str.ofString "reach") s32 f fd) (q33 : ∃ f fd, DfK K (Str.ofString "behind") s33 f fd) (q34 : ∃ f fd, DfK K (Str.ofString "is_quiet") s34 f fd) (q35 : ∃ f fd, DfK K (Str.ofString "_law_right") s35 f fd) : MF nms cst (PhiR ds36) P w K mg base 36 := by
  have M0 : MF nms cst (PhiR ds0) P w K mg base 0 := MF.zero X G bl cs
  have M1 : MF nms cst (PhiR ds1) P w K mg base 1 := M0.step X G (nms := nms) (d := d0) rfl q0 f0 a0 w0 c0 rfl rfl
  have M2 : MF nms cst (PhiR ds2) P w K mg base 2 := M1.step X G (nms := nms) (d := d1) rfl q1 f1 a1 w1 c1 rfl rfl
  have M3 : MF nms cst (PhiR ds3) P w K mg base 3 := M2.step X G (nms := nms) (d := d2) rfl q2 f2 a2 w2 c2 rfl rfl
  have M4 : MF nms cst (PhiR ds4) P w K mg base 4 := M3.step X G (nms := nms) (d := d3) rfl q3 f3 a3 w3 c3 rfl rfl
  have M5 : MF nms cst (PhiR ds5) P w K mg base 5 := M4.step X G (nms := nms) (d := d4) rfl q4 f4 a4 w4 c4 rfl rfl
  have M6 : MF nms cst (PhiR ds6) P w K mg base 6 := M5.step X G (nms := nms) (d := d5) rfl q5 f5 a5 w5 c5 rfl rfl
  have M7 : MF nms cst (PhiR ds7) P w K mg base 7 := M6.step X G (nms := nms) (d := d6) rfl q6 f6 a6 w6 c6 rfl rfl
  have M8 : MF nms cst (PhiR ds8) P w K mg base 8 := M7.step X G (nms := nms) (d := d7) rfl q7 f7 a7 w7 c7 rfl rfl
  have M9 : MF nms cst (PhiR ds9) P w K mg base 9 := M8.step X G (nms := nms) (d := d8) rfl q8 f8 a8 w8 c8 rfl rfl
  have M10 : MF nms cst (PhiR ds10) P w K mg base 10 := M9.step X G (nms := nms) (d := d9) rfl q9 f9 a9 w9 c9 rfl rfl
  have M11 : MF nms cst (PhiR ds11) P w K mg base 11 := M10.step X G (nms := nms) (d := d10) rfl q10 f10 a10 w10 c10 rfl rfl
  have M12 : MF nms cst (PhiR ds12) P w K mg base 12 := M11.step X G (nms := nms) (d := d11) rfl q11 f11 a11 w11 c11 rfl rfl
  have M13 : MF nms cst (PhiR ds13) P w K mg base 13 := M12.step X G (nms := nms) (d := d12) rfl q12 f12 a12 w12 c12 rfl rfl
  have M14 : MF nms cst (PhiR ds14) P w K mg base 14 := M13.step X G (nms := nms) (d := d13) rfl q13 f13 a13 w13 c13 rfl rfl
  have M15 : MF nms cst (PhiR ds15) P w K mg base 15 := M14.step X G (nms := nms) (d := d14) rfl q14 f14 a14 w14 c14 rfl rfl
  have M16 : MF nms cst (PhiR ds16) P w K mg base 16 := M15.step X G (nms := nms) (d := d15) rfl q15 f15 a15 w15 c15 rfl rfl
  have M17 : MF nms cst (PhiR ds17) P w K mg base 17 := M16.step X G (nms := nms) (d := d16) rfl q16 f16 a16 w16 c16 rfl rfl
  have M18 : MF nms cst (PhiR ds18) P w K mg base 18 := M17.step X G (nms := nms) (d := d17) rfl q17 f17 a17 w17 c17 rfl rfl
  have M19 : MF nms cst (PhiR ds19) P w K mg base 19 := M18.step X G (nms := nms) (d := d18) rfl q18 f18 a18 w18 c18 rfl rfl
  have M20 : MF nms cst (PhiR ds20) P w K mg base 20 := M19.step X G (nms := nms) (d := d19) rfl q19 f19 a19 w19 c19 rfl rfl
  have M21 : MF nms cst (PhiR ds21) P w K mg base 21 := M20.step X G (nms := nms) (d := d20) rfl q20 f20 a20 w20 c20 rfl rfl
  have M22 : MF nms cst (PhiR ds22) P w K mg base 22 := M21.step X G (nms := nms) (d := d21) rfl q21 f21 a21 w21 c21 rfl rfl
  have M23 : MF nms cst (PhiR ds23) P w K mg base 23 := M22.step X G (nms := nms) (d := d22) rfl q22 f22 a22 w22 c22 rfl rfl
  have M24 : MF nms cst (PhiR ds24) P w K mg base 24 := M23.step X G (nms := nms) (d := d23) rfl q23 f23 a23 w23 c23 rfl rfl
  have M25 : MF nms cst (PhiR ds25) P w K mg base 25 := M24.step X G (nms := nms) (d := d24) rfl q24 f24 a24 w24 c24 rfl rfl
  have M26 : MF nms cst (PhiR ds26) P w K mg base 26 := M25.step X G (nms := nms) (d := d25) rfl q25 f25 a25 w25 c25 rfl rfl
  have M27 : MF nms cst (PhiR ds27) P w K mg base 27 := M26.step X G (nms := nms) (d := d26) rfl q26 f26 a26 w26 c26 rfl rfl
  have M28 : MF nms cst (PhiR ds28) P w K mg base 28 := M27.step X G (nms := nms) (d := d27) rfl q27 f27 a27 w27 c27 rfl rfl
  have M29 : MF nms cst (PhiR ds29) P w K mg base 29 := M28.step X G (nms := nms) (d := d28) rfl q28 f28 a28 w28 c28 rfl rfl
  have M30 : MF nms cst (PhiR ds30) P w K mg base 30 := M29.step X G (nms := nms) (d := d29) rfl q29 f29 a29 w29 c29 rfl rfl
  have M31 : MF nms cst (PhiR ds31) P w K mg base 31 := M30.step X G (nms := nms) (d := d30) rfl q30 f30 a30 w30 c30 rfl rfl
  have M32 : MF nms cst (PhiR ds32) P w K mg base 32 := M31.step X G (nms := nms) (d := d31) rfl q31 f31 a31 w31 c31 rfl rfl
  have M33 : MF nms cst (PhiR ds33) P w K mg base 33 := M32.step X G (nms := nms) (d := d32) rfl q32 f32 a32 w32 c32 rfl rfl
  have M34 : MF nms cst (PhiR ds34) P w K mg base 34 := M33.step X G (nms := nms) (d := d33) rfl q33 f33 a33 w33 c33 rfl rfl
  have M35 : MF nms cst (PhiR ds35) P w K mg base 35 := M34.step X G (nms := nms) (d := d34) rfl q34 f34 a34 w34 c34 rfl rfl
  have M36 : MF nms cst (PhiR ds36) P w K mg base 36 := M35.step X G (nms := nms) (d := d35) rfl q35 f35 a35 w35 c35 rfl rfl
  exact M36
theorem finish {P : Program} {w : World} {K : PySem.W.Frag} {mg : Str → Option Value} {h : Heap} {fa : Addr} (X : K.In h) (G : h.Ns mainGlobals mg) (hfa : mg (Str.ofString "law") = some (.ref fa)) (bl : BltOk K bltNames) (cs : CstOk K mg cst) (q0 : ∃ f fd, DfK K (Str.ofString "_law_cells") s0 f fd) (q1 : ∃ f fd, DfK K (Str.ofString "_law_pot") s1 f fd) (q2 : ∃ f fd, DfK K (Str.ofString "is_ascending") s2 f fd) (q3 : ∃ f fd, DfK K (Str.ofString "is_integer") s3 f fd) (q4 : ∃ f fd, DfK K (Str.ofString "is_between") s4 f fd) (q5 : ∃ f fd, DfK K (Str.ofString "are_between") s5 f fd) (q6 : ∃ f fd, DfK K (Str.ofString "is_door") s6 f fd) (q7 : ∃ f fd, DfK K (Str.ofString "is_web") s7 f fd) (q8 : ∃ f fd, DfK K (Str.ofString "check_web") s8 f fd) (q9 : ∃ f fd, DfK K (Str.ofString "check_kind") s9 f fd) (q10 : ∃ f fd, DfK K (Str.ofString "near_of") s10 f fd) (q11 : ∃ f fd, DfK K (Str.ofString "reach_of") s11 f fd) (q12 : ∃ f fd, DfK K (Str.ofString "table") s12 f fd) (q13 : ∃ f fd, DfK K (Str.ofString "_law_take") s13 f fd) (q14 : ∃ f fd, DfK K (Str.ofString "_law_of") s14 f fd) (q15 : ∃ f fd, DfK K (Str.ofString "_law_sum") s15 f fd) (q16 : ∃ f fd, DfK K (Str.ofString "_law_reach") s16 f fd) (q17 : ∃ f fd, DfK K (Str.ofString "_law_changed") s17 f fd) (q18 : ∃ f fd, DfK K (Str.ofString "_law_some") s18 f fd) (q19 : ∃ f fd, DfK K (Str.ofString "_law_web") s19 f fd) (q20 : ∃ f fd, DfK K (Str.ofString "_law_lots") s20 f fd) (q21 : ∃ f fd, DfK K (Str.ofString "check_presses") s21 f fd) (q22 : ∃ f fd, DfK K (Str.ofString "sum_by") s22 f fd) (q23 : ∃ f fd, DfK K (Str.ofString "changed_by") s23 f fd) (q24 : ∃ f fd, DfK K (Str.ofString "changed") s24 f fd) (q25 : ∃ f fd, DfK K (Str.ofString "is_lot_of") s25 f fd) (q26 : ∃ f fd, DfK K (Str.ofString "check_lot") s26 f fd) (q27 : ∃ f fd, DfK K (Str.ofString "check_ahead") s27 f fd) (q28 : ∃ f fd, DfK K (Str.ofString "steps") s28 f fd) (q29 : ∃ f fd, DfK K (Str.ofString "sum_of") s29 f fd) (q30 : ∃ f fd, DfK K (Str.ofString "check_room") s30 f fd) (q31 : ∃ f fd, DfK K (Str.ofString "near") s31 f fd) (q32 : ∃ f fd, DfK K (Str.ofString "reach") s32 f fd) (q33 : ∃ f fd, DfK K (Str.ofString "behind") s33 f fd) (q34 : ∃ f fd, DfK K (Str.ofString "is_quiet") s34 f fd) (q35 : ∃ f fd, DfK K (Str.ofString "_law_right") s35 f fd) (ql : ∃ f fd, DfK K (Str.ofString "law") s36 f fd) :
    ∃ fd : FuncData, (∀ (s : Shared) (u : Value), BindsTo s fd ⟨[u], []⟩ [((Str.ofString "script"), u)]) ∧ ∀ base : Heap, K.In base → base.Ns mainGlobals mg → FnG P w K mg base 37 fa fd [(Str.ofString "script")] (semF (PhiR ds36) 1 n36.length b36) :=
  MF.law X G hfa ql f36 a36 c36 fun base X2 G2 => table X2 G2 bl cs q0 q1 q2 q3 q4 q5 q6 q7 q8 q9 q10 q11 q12 q13 q14 q15 q16 q17 q18 q19 q20 q21 q22 q23 q24 q25 q26 q27 q28 q29 q30 q31 q32 q33 q34 q35
end G

/-! MiEv: the evaluator, form by form. -/
namespace Mi
open PySem PySem.Spec PyProof.Rows L2
section
variable {Φ : Nat → Fn}
@[simp] theorem q_var0 (i) (env : En) : evE Φ (.var i) env = match env[i]? with
    | some (.dat d) => some (.val d, env)
    | some (.own _ _) => some (.slot i, env)
    | some (.lck _ _) => some (.slot i, env)
    | _ => none := rfl
@[simp] theorem q_cst1 (d) (env : En) : evE Φ (.cst d) env = some (.val d, env) := rfl
@[simp] theorem q_tup2 (es) (env : En) : evE Φ (.tup es) env = match evA Φ es env with
    | some (ps, e1) => match fzs ps e1 with
      | some (ds, e2) => if ds.length ≤ lim then some (.val (.tup ds), e2) else none
      | none => none
    | none => none := rfl
@[simp] theorem q_lst3 (es) (env : En) : evE Φ (.lst es) env = match evA Φ es env with
    | some (ps, e1) => match fzs ps e1 with
      | some (ds, e2) => if ds.length ≤ lim then some (.new (.lst ds), e2) else none
      | none => none
    | none => none := rfl
@[simp] theorem q_bin4 (o) (a) (b) (env : En) : evE Φ (.bin o a b) env = match evE Φ a env with
    | some (p, e1) => match evE Φ b e1 with
      | some (q, e2) => match pk p e2, pk q e2 with
        | some x, some y => match binOp o x y with
          | some z => some (z, e2)
          | none => none
        | _, _ => none
      | none => none
    | none => none := rfl
@[simp] theorem q_neg5 (a) (env : En) : evE Φ (.neg a) env = match evE Φ a env with
    | some (.val (.int i), e1) => some (.val (.int (-i)), e1)
    | _ => none := rfl
@[simp] theorem q_cmp6 (o) (a) (b) (env : En) : evE Φ (.cmp o a b) env = match evE Φ a env with
    | some (p, e1) => match evE Φ b e1 with
      | some (q, e2) => match pk p e2, pk q e2 with
        | some x, some y => match cmpOp o x y with
          | some z => some (.val (.bl z), e2)
          | none => none
        | _, _ => dcmp o p q e2
      | none => none
    | none => none := rfl
@[simp] theorem q_chn7 (o) (o') (a) (b) (c) (env : En) : evE Φ (.chn o o' a b c) env = match evE Φ a env with
    | some (.val x, e1) => match evE Φ b e1 with
      | some (.val y, e2) => match cmpOp o x y with
        | some true => match evE Φ c e2 with
          | some (.val z, e3) => match cmpOp o' y z with
            | some r => some (.val (.bl r), e3)
            | none => none
          | _ => none
        | some false => some (.val (.bl false), e2)
        | none => none
      | _ => none
    | _ => none := rfl
@[simp] theorem q_and8 (a) (b) (env : En) : evE Φ (.and a b) env = match evE Φ a env with
    | some (.val (.bl true), e1) => match evE Φ b e1 with
      | some (.val (.bl r), e2) => some (.val (.bl r), e2)
      | _ => none
    | some (.val (.bl false), e1) => some (.val (.bl false), e1)
    | _ => none := rfl
@[simp] theorem q_or9 (a) (b) (env : En) : evE Φ (.or a b) env = match evE Φ a env with
    | some (.val (.bl false), e1) => match evE Φ b e1 with
      | some (.val (.bl r), e2) => some (.val (.bl r), e2)
      | _ => none
    | some (.val (.bl true), e1) => some (.val (.bl true), e1)
    | _ => none := rfl
@[simp] theorem q_not10 (a) (env : En) : evE Φ (.not a) env = match evE Φ a env with
    | some (.val (.bl r), e1) => some (.val (.bl (!r)), e1)
    | _ => none := rfl
@[simp] theorem q_ite11 (c) (a) (b) (env : En) : evE Φ (.ite c a b) env = match evE Φ c env with
    | some (.val (.bl true), e1) => evE Φ a e1
    | some (.val (.bl false), e1) => evE Φ b e1
    | _ => none := rfl
@[simp] theorem q_ix12 (a) (i) (env : En) : evE Φ (.ix a i) env = match evE Φ a env with
    | some (p, e1) => match evE Φ i e1 with
      | some (.val k, e2) => match pk p e2 with
        | some x => match ixOp x k with
          | some d => some (.val d, e2)
          | none => none
        | none => match dix p k e2 with
          | some d => some (.val d, e2)
          | none => none
      | _ => none
    | none => none := rfl
@[simp] theorem q_slc13 (a) (lo) (hi) (env : En) : evE Φ (.slc a lo hi) env = match evE Φ a env with
    | some (p, e1) => match evO Φ lo e1 with
      | some (l, e2) => match evO Φ hi e2 with
        | some (h, e3) => match pk p e3 with
          | some x => match slcOp x l h with
            | some r => some (r, e3)
            | none => none
          | none => none
        | none => none
      | none => none
    | none => none := rfl
@[simp] theorem q_call14 (f) (es) (env : En) : evE Φ (.call f es) env = match evA Φ es env with
    | some (ps, e1) => match toArgs ps e1 with
      | some (as, is) => match Φ f as with
        | some (r, ms) => match putBack is ms e1 with
          | some e2 => some (r.p, e2)
          | none => none
        | none => none
      | none => none
    | none => none := rfl
@[simp] theorem q_callk (f) (pm) (es) (env : En) : evE Φ (.callk f pm es) env = match evA Φ es env with
    | some (ps, e1) => match callK (Φ f) pm (toArgs ps e1) with
      | some r => some (r.p, e1)
      | none => none
    | none => none := rfl
@[simp] theorem q_bi15 (b) (es) (env : En) : evE Φ (.bi b es) env = match evA Φ es env with
    | some (ps, e1) => match pks ps e1 with
      | some ds => match biOp b ds with
        | some r => some (r, e1)
        | none => none
      | none => none
    | none => none := rfl
@[simp] theorem q_mth16 (m) (r) (es) (env : En) : evE Φ (.mth m r es) env = match evE Φ r env with
    | some (.slot i, e1) => if lstIn i e1 then match evA Φ es e1 with
      | some (ps, e2) => match m, ps with
        | .append, [p] => match fz p e2 with
          | some (d, e3) => match e3[i]? with
            | some (.own f (.lst ds)) => if ds.length < lim then some (.val .non, e3.set i (.own f (.lst (ds ++ [d])))) else none
            | _ => none
          | none => none
        | .extend, [p] => match fz p e2 with
          | some (.lst zs, e3) => match e3[i]? with
            | some (.own f (.lst ds)) => if ds.length + zs.length ≤ lim then some (.val .non, e3.set i (.own f (.lst (ds ++ zs)))) else none
            | _ => none
          | _ => none
        | .pop, [] => match e2[i]? with
          | some (.own f (.lst ds)) => match ds[ds.length - 1]? with
            | some d => some (.val d, e2.set i (.own f (.lst ds.dropLast)))
            | none => none
          | _ => none
        | .popAt, [.val (.int k)] => match e2[i]? with
          | some (.own f (.lst ds)) => if 0 ≤ k ∧ k ≤ 2 ^ 40 then match ds[k.toNat]? with
              | some d => some (.val d, e2.set i (.own f (.lst (ds.eraseIdx k.toNat))))
              | none => none
            else none
          | _ => none
        | _, _ => none
      | none => none
      else none
    | _ => none := rfl
@[simp] theorem q_lrng18 (es) (env : En) : evE Φ (.lrng es) env = match evA Φ es env with
    | some (ps, e1) => match pks ps e1 with
      | some ds => match rngOf ds with
        | some xs => if xs.length ≤ lim then some (.new (.lst xs), e1) else none
        | none => none
      | none => none
    | none => none := rfl
@[simp] theorem q_sumL19 (e) (env : En) : evE Φ (.sumL e) env = match evE Φ e env with
    | some (p, e1) => match pk p e1 with
      | some (.lst ds) => match lstsOf ds with
        | some xs => if xs.flatten.length ≤ 1000000 then some (.new (.lst xs.flatten), e1) else none
        | none => none
      | _ => none
    | none => none := rfl
@[simp] theorem q_dnew20 (t) (env : En) : evE Φ (.dnew t) env = some (.new (if t then .dT [] else .dK []), env) := rfl
@[simp] theorem q_mq21 (i a b) (env : En) : evE Φ (.mq i a b) env = match evE Φ a env with
    | some (p, e1) => match pk p e1 with
      | some (.tup ds) => match evE Φ b e1 with
        | some (.val y, e2) => match qOp i ds y with
          | some n => some (.val (.int n), e2)
          | none => none
        | _ => none
      | some (.lst _) => match evE Φ b e1 with
        | some (.val y, e2) => match pk p e2 with
          | some (.lst ds) => match qOp i ds y with
            | some n => some (.val (.int n), e2)
            | none => none
          | _ => none
        | _ => none
      | _ => none
    | none => none := rfl
@[simp] theorem q_dget22 (o) (k) (x) (env : En) : evE Φ (.dget o k x) env = match evE Φ o env with
    | some (.slot i, e1) => if dictIn i e1 then match evE Φ k e1 with
      | some (.val k, e2) => match evE Φ x e2 with
        | some (.val x, e3) => match e3[i]?.bind Slot.mo? with
          | some m => match dlook m k with
            | some r => some (.val (r.getD x), e3)
            | none => none
          | none => none
        | _ => none
      | _ => none
      else none
    | _ => none := rfl
@[simp] theorem q_anil23  (env : En) : evE Φ (.anil) env = none := rfl
@[simp] theorem q_acons24 (u0) (u1) (env : En) : evE Φ (.acons u0 u1) env = none := rfl
@[simp] theorem q_astar25 (u0) (u1) (env : En) : evE Φ (.astar u0 u1) env = none := rfl
@[simp] theorem q_gone26  (env : En) : evE Φ (.gone) env = none := rfl
@[simp] theorem q_rng27 (es) (env : En) : evE Φ (.rng es) env = match evA Φ es env with
    | some (ps, e1) => match pks ps e1 with
      | some ds => match rngOf ds with
        | some xs => some (.its xs, e1)
        | none => none
      | none => none
    | none => none := rfl
@[simp] theorem q_enm28 (e) (env : En) : evE Φ (.enm e) env = match evE Φ e env with
    | some (p, e1) => match fz p e1 with
      | some (.lst ds, e2) => some (.its (enumD ds), e2)
      | _ => none
    | none => none := rfl
@[simp] theorem q_zip29 (a) (b) (env : En) : evE Φ (.zip a b) env = match evE Φ a env with
    | some (p, e1) => match evE Φ b e1 with
      | some (q, e2) => match fz p e2 with
        | some (x, e3) => match fz q e3 with
          | some (y, e4) => match zipOp x y with
            | some ds => some (.its ds, e4)
            | none => none
          | none => none
        | none => none
      | none => none
    | none => none := rfl
@[simp] theorem q_items30 (u0) (env : En) : evE Φ (.items u0) env = none := rfl
@[simp] theorem qa_anil0  (env : En) : evA Φ (.anil) env = some ([], env) := rfl
@[simp] theorem qa_acons1 (e) (es) (env : En) : evA Φ (.acons e es) env = match evE Φ e env with
    | some (p, e1) => match evA Φ es e1 with
      | some (ps, e2) => some (p :: ps, e2)
      | none => none
    | none => none := rfl
@[simp] theorem qa_astar2 (e) (es) (env : En) : evA Φ (.astar e es) env = match evE Φ e env with
    | some (p, e1) => match pk p e1 with
      | some x => match x.seq? with
        | some ds => match evA Φ es e1 with
          | some (ps, e2) => some (ds.map P.val ++ ps, e2)
          | none => none
        | none => none
      | none => none
    | none => none := rfl
@[simp] theorem qo_gone0  (env : En) : evO Φ (.gone) env = some (none, env) := rfl
@[simp] theorem qo_acons1 (e) (u0) (env : En) : evO Φ (.acons e u0) env = match evE Φ e env with
    | some (.val (.int i), e1) => some (some i, e1)
    | _ => none := rfl
@[simp] theorem qc_anil0  (env : En) : evC Φ (.anil) env = some (true, env) := rfl
@[simp] theorem qc_acons1 (e) (env : En) : evC Φ (.acons e .anil) env = match evE Φ e env with
    | some (.val (.bl b), e1) => some (b, e1)
    | _ => none := rfl
@[simp] theorem qs_nop0  (env : En) : evS Φ (.nop) env = some (.nx env) := rfl
@[simp] theorem qs_never1  (env : En) : evS Φ (.never) env = none := rfl
@[simp] theorem qs_wipe (vs) (env : En) : evS Φ (.wipe vs) env = if wipeOk env vs then some (.nx (wipeS env vs)) else none := rfl
@[simp] theorem qs_brk2  (env : En) : evS Φ (.brk) env = some (.bk env) := rfl
@[simp] theorem qs_cnt3  (env : En) : evS Φ (.cnt) env = some (.ct env) := rfl
@[simp] theorem qs_seq4 (a) (b) (env : En) : evS Φ (.seq a b) env = match evS Φ a env with
    | some (.nx e) => evS Φ b e
    | o => o := rfl
@[simp] theorem qs_exp5 (e) (env : En) : evS Φ (.exp e) env = match evE Φ e env with
    | some (_, e1) => some (.nx e1)
    | none => none := rfl
@[simp] theorem qs_asg6 (t) (e) (env : En) : evS Φ (.asg t e) env = match evE Φ e env with
    | some (p, e1) => match setP t p e1 with
      | some e2 => some (.nx e2)
      | none => none
    | none => none := rfl
@[simp] theorem qs_par7 (is) (es) (env : En) : evS Φ (.par is es) env = match evA Φ es env with
    | some (ps, e1) => match rsPs ps e1 with
      | some (qs, e2) => match setVs is qs e2 with
        | some e3 => some (.nx e3)
        | none => none
      | none => none
    | none => none := rfl
@[simp] theorem qs_put8 (o) (i) (v) (env : En) : evS Φ (.put o i v) env = match evE Φ v env with
    | some (pv, e1) => match evE Φ o e1 with
      | some (.slot s, e2) => match evE Φ i e2 with
        | some (.val k, e3) => match fz pv e3 with
          | some (d, e4) => match e4[s]? with
            | some (.own f m) => match putAt m k d with
              | some m' => some (.nx (e4.set s (.own f m')))
              | none => none
            | _ => none
          | none => none
        | _ => none
      | _ => none
    | none => none := rfl
@[simp] theorem qs_ret9 (e) (env : En) : evS Φ (.ret e) env = match evE Φ e env with
    | some (p, e1) => match retOf p e1 with
      | some (r, e2) => some (.rt r e2)
      | none => none
    | none => none := rfl
@[simp] theorem qs_retN10  (env : En) : evS Φ (.retN) env = some (.rt (.val .non) env) := rfl
@[simp] theorem qs_ite11 (c) (a) (b) (env : En) : evS Φ (.ite c a b) env = match evT Φ c env with
    | some (true, e1) => evS Φ a e1
    | some (false, e1) => evS Φ b e1
    | none => none := rfl
@[simp] theorem qs_whl12 (n) (c) (b) (env : En) : evS Φ (.whl n c b) env = whlGo (evT Φ c) (evS Φ b) n env := rfl
end
end Mi
namespace Mi
open PySem PySem.Spec PyProof.Rows L2
@[simp] theorem q_lc {Φ : Nat → Fn} (vs tg it cs elt) (env : En) : evE Φ (.lc vs tg it cs elt) env = match itStart Φ it env with
    | some (xs, lk, e1) => if xs.length ≤ lim then
        match lcGo (lcF Φ vs tg cs elt) xs (wipeS e1 vs) with
        | some (ds, e2) => some (.new (.lst ds), freeS lk (backS e1 e2 vs))
        | none => none
      else none
    | none => none := rfl
@[simp] theorem qs_for {Φ : Nat → Fn} (t it b) (env : En) : evS Φ (.for_ t it b) env = match itStart Φ it env with
    | some (xs, lk, e1) => match forGo (forF Φ t b) xs e1 with
      | some (.nx e2) => some (.nx (freeS lk e2))
      | some (.rt r e2) => some (.rt r (freeS lk e2))
      | _ => none
    | none => none := rfl
@[simp] theorem free_un : Slot.un.free = true := rfl
@[simp] theorem free_dat (d : D) : (Slot.dat d).free = true := rfl
@[simp] theorem free_own (m : MO) : (Slot.own true m).free = true := rfl
end Mi

/-! MiDraw: how the laws draw: _law_cells, _law_pot, _law_take, _law_of (the same texts in every law). -/
namespace Mi
open PySem PySem.Spec PyProof.Rows L2

theorem lg2 {n k : Nat} (h : n < 2 ^ k) : n.log2 ≤ k := by
  by_cases z : n = 0
  · subst z; exact Nat.zero_le _
  · exact Nat.le_of_lt ((Nat.log2_lt z).mpr h)
/-- small -/
def sm (i : Int) : Prop := i.natAbs < 2 ^ 200
theorem mul_ev {i j : Int} (hi : sm i) (hj : sm j) : binOp .mul (.int i) (.int j) = some (.val (.int (i * j))) := by
  have h1 := lg2 hi
  have h2 := lg2 hj
  simp only [binOp]
  rw [if_pos (by omega)]
theorem mod_ev {i j : Int} (h : j ≠ 0) : binOp .mod (.int i) (.int j) = some (.val (.int (i.fmod j))) := by
  simp only [binOp]
  rw [if_pos h]
theorem fdiv_ev {i j : Int} (h : j ≠ 0) (hj : sm j) : binOp .fdiv (.int i) (.int j) = some (.val (.int (i.fdiv j))) := by
  have h2 := lg2 hj
  simp only [binOp]
  rw [if_pos ⟨h, by omega⟩]
theorem add_ev {i j : Int} : binOp .add (.int i) (.int j) = some (.val (.int (i + j))) := rfl
theorem cube_ev {i : Int} (h : 2 ≤ i) (hi : sm i) : binOp .pow (.int i) (.int 3) = some (.val (.int (i ^ 3))) := by
  have h2 := lg2 hi
  simp only [binOp]
  rw [if_pos ⟨h, by decide, by decide, by omega⟩]
  rfl
theorem ixl0 {a : D} {l : List D} : ixOp (.lst (a :: l)) (.int 0) = some a := by
  simp only [ixOp, atI, ixN, List.length_cons]
  rw [if_pos (by decide), if_pos (by omega)]
  rfl
theorem ixl1 {a b : D} {l : List D} : ixOp (.lst (a :: b :: l)) (.int 1) = some b := by
  simp only [ixOp, atI, ixN, List.length_cons]
  rw [if_pos (by decide), if_pos (by omega)]
  rfl
theorem ixl2 {a b c : D} {l : List D} : ixOp (.lst (a :: b :: c :: l)) (.int 2) = some c := by
  simp only [ixOp, atI, ixN, List.length_cons]
  rw [if_pos (by decide), if_pos (by omega)]
  rfl
theorem ixt0 {a : D} {l : List D} : ixOp (.tup (a :: l)) (.int 0) = some a := by
  simp only [ixOp, atI, ixN, List.length_cons]
  rw [if_pos (by decide), if_pos (by omega)]
  rfl
theorem ixt1 {a b : D} {l : List D} : ixOp (.tup (a :: b :: l)) (.int 1) = some b := by
  simp only [ixOp, atI, ixN, List.length_cons]
  rw [if_pos (by decide), if_pos (by omega)]
  rfl
/-- the pot: own, seed, count -/
def Pot (c : Nat) (m : MO) : Prop := ∃ o s n : Int, m = .lst [.int o, .int s, .int n] ∧ 0 ≤ o ∧ 0 ≤ s ∧ s < 2 ^ 61 ∧ 0 ≤ n ∧ n ≤ c
/-- _law_take -/
def takeB : S :=
  (.seq (.ite (.cmp .gt (.ix (.var 0) (.cst (.int 0))) (.cst (.int 0))) (.seq (.asg (.nm 4) (.bin .mod (.bi .int (.acons (.ix (.var 0) (.cst (.int 0))) .anil)) (.var 1)))
  (.seq (.put (.var 0) (.cst (.int 0)) (.bin .fdiv (.ix (.var 0) (.cst (.int 0))) (.var 1)))
  (.seq (.ret (.var 4))
  .nop))) .nop)
  (.seq (.put (.var 0) (.cst (.int 2)) (.bin .add (.ix (.var 0) (.cst (.int 2))) (.cst (.int 1))))
  (.seq (.asg (.nm 2) (.ix (.lst (.acons (.cst (.int 2147482367)) (.acons (.cst (.int 2147482361)) (.acons (.cst (.int 2147482351)) (.acons (.cst (.int 2147482343)) (.acons (.cst (.int 2147482327)) .anil)))))) (.bin .mod (.bi .int (.acons (.ix (.var 0) (.cst (.int 2))) .anil)) (.cst (.int 5)))))
  (.seq (.asg (.nm 3) (.bin .mod (.bi .int (.acons (.bin .pow (.bi .int (.acons (.bin .add (.bin .add (.ix (.var 0) (.cst (.int 1))) (.bin .mul (.bin .mul (.cst (.int 74897)) (.ix (.var 0) (.cst (.int 2)))) (.ix (.var 0) (.cst (.int 2))))) (.cst (.int 1931))) .anil)) (.cst (.int 3))) .anil)) (.var 2)))
  (.seq (.asg (.nm 3) (.bin .mod (.bi .int (.acons (.bin .mul (.var 3) (.bin .add (.bin .mod (.bi .int (.acons (.var 3) .anil)) (.cst (.int 8053))) (.bin .mul (.cst (.int 263)) (.ix (.var 0) (.cst (.int 2)))))) .anil)) (.cst (.int 2305843009213693907))))
  (.seq (.ret (.bin .mod (.bi .int (.acons (.bin .fdiv (.var 3) (.cst (.int 163))) .anil)) (.var 1)))
  .nop))))))
theorem fmod_pos {i j : Int} (h : 0 < j) : 0 ≤ i.fmod j ∧ i.fmod j < j := ⟨Int.fmod_nonneg_of_pos i h, Int.fmod_lt_of_pos i h⟩
theorem fdiv_nn {i j : Int} (h : 0 ≤ i) (hj : 0 < j) : 0 ≤ i.fdiv j := by
  rw [Int.fdiv_eq_ediv_of_nonneg _ (Int.le_of_lt hj)]
  exact Int.ediv_nonneg h (Int.le_of_lt hj)
theorem take1 (Φ : Nat → Fn) {o s n u : Int} (ho : 0 < o) (hu : 0 < u) (hsm : sm u) : semF Φ 2 5 takeB [.own (.lst [.int o, .int s, .int n]), .dat (.int u)] = some (.val (.int (o.fmod u)), [.lst [.int (o.fdiv u), .int s, .int n]]) := by
  have h1 := mod_ev (i := o) (j := u) (by omega)
  have h2 := fdiv_ev (i := o) (j := u) (by omega) hsm
  simp [semF, takeB, evS, evT, evE, evA, Arg.slot, pk, ixOp, atI, ixN, cmpOp, dix, biOp, pks, setP, fz, setD, setS, Slot.free, retOf, outsOf, putAt, ho, h1, h2, List.replicate]
def primeOf (k : Int) : Int := if k = 0 then 2147482367 else if k = 1 then 2147482361 else if k = 2 then 2147482351 else if k = 3 then 2147482343 else 2147482327
theorem prime_ix {k : Int} (h0 : 0 ≤ k) (h5 : k < 5) : ixOp (.lst [.int 2147482367, .int 2147482361, .int 2147482351, .int 2147482343, .int 2147482327]) (.int k) = some (.int (primeOf k)) := by
  have : k = 0 ∨ k = 1 ∨ k = 2 ∨ k = 3 ∨ k = 4 := by omega
  rcases this with rfl | rfl | rfl | rfl | rfl <;> rfl
theorem prime_pos {k : Int} : 0 < primeOf k ∧ primeOf k < 2 ^ 31 := by
  unfold primeOf
  repeat' split
  all_goals omega
theorem mul_lt {i j : Int} {a b c : Nat} (hi : i.natAbs < 2 ^ a) (hj : j.natAbs < 2 ^ b) (h : a + b ≤ c) : (i * j).natAbs < 2 ^ c := by
  rw [Int.natAbs_mul]
  refine Nat.lt_of_lt_of_le ?_ (Nat.pow_le_pow_right (by decide) h)
  rw [Nat.pow_add]
  exact Nat.mul_lt_mul'' hi hj
theorem sm_of {i : Int} {a : Nat} (h : i.natAbs < 2 ^ a) (ha : a ≤ 200) : sm i := Nat.lt_of_lt_of_le h (Nat.pow_le_pow_right (by decide) ha)
theorem take2 (Φ : Nat → Fn) {o s n u : Int} (ho : ¬ 0 < o) (hu : 0 < u) (hs : 0 ≤ s) (hs2 : s < 2 ^ 61) (hn : 0 ≤ n) (hn2 : n < 2 ^ 21) : ∃ r : Int, 0 ≤ r ∧ r < u ∧ semF Φ 2 5 takeB [.own (.lst [.int o, .int s, .int n]), .dat (.int u)] = some (.val (.int r), [.lst [.int o, .int s, .int (n + 1)]]) := by
  obtain ⟨k0, k5⟩ := fmod_pos (i := n + 1) (j := 5) (by decide)
  have e1 := mod_ev (i := n + 1) (j := 5) (by decide)
  have e2 := prime_ix k0 k5
  obtain ⟨p0, p31⟩ := prime_pos (k := (n + 1).fmod 5)
  generalize hp : primeOf ((n + 1).fmod 5) = p at *
  have m1 : (74897 * (n + 1)).natAbs < 2 ^ 40 := by omega
  have m2 : (74897 * (n + 1) * (n + 1)).natAbs < 2 ^ 62 := mul_lt m1 (show (n + 1).natAbs < 2 ^ 22 by omega) (by decide)
  have e3 := mul_ev (i := 74897) (j := n + 1) (by unfold sm; omega) (by unfold sm; omega)
  have e4 := mul_ev (i := 74897 * (n + 1)) (j := n + 1) (sm_of m1 (by decide)) (by unfold sm; omega)
  have q0 : 0 ≤ 74897 * (n + 1) * (n + 1) := Int.mul_nonneg (by omega) (by omega)
  generalize hq : 74897 * (n + 1) * (n + 1) = q at *
  have e5 := cube_ev (i := s + q + 1931) (by omega) (by unfold sm; omega)
  have e6 := mod_ev (i := (s + q + 1931) ^ 3) (j := p) (by omega)
  obtain ⟨b0, b1⟩ := fmod_pos (i := (s + q + 1931) ^ 3) (j := p) p0
  generalize hb : ((s + q + 1931) ^ 3).fmod p = b at *
  have e7 := mod_ev (i := b) (j := 8053) (by decide)
  obtain ⟨c0, c1⟩ := fmod_pos (i := b) (j := 8053) (by decide)
  generalize hc : b.fmod 8053 = c at *
  have e8 := mul_ev (i := 263) (j := n + 1) (by unfold sm; omega) (by unfold sm; omega)
  have e9 := mul_ev (i := b) (j := c + 263 * (n + 1)) (by unfold sm; omega) (by unfold sm; omega)
  have e10 := mod_ev (i := b * (c + 263 * (n + 1))) (j := 2305843009213693907) (by decide)
  generalize hd : (b * (c + 263 * (n + 1))).fmod 2305843009213693907 = d at *
  have e11 := fdiv_ev (i := d) (j := 163) (by decide) (by unfold sm; omega)
  have e12 := mod_ev (i := d.fdiv 163) (j := u) (by omega)
  obtain ⟨r0, r1⟩ := fmod_pos (i := d.fdiv 163) (j := u) hu
  refine ⟨(d.fdiv 163).fmod u, r0, r1, ?_⟩
  simp [semF, takeB, evS, evT, evE, evA, fzs, Arg.slot, pk, ixl0, ixl1, ixl2, lim, cmpOp, biOp, pks, setP, fz, setD, setS, Slot.free, retOf, outsOf, putAt, ho, add_ev, e1, e2, e3, e4, e5, e6, e7, e8, e9, e10, e11, e12, hq, hb, hc, hd, List.replicate]
theorem take_ok (Φ : Nat → Fn) {c : Nat} {m : MO} (h : Pot c m) (hc : c < 2 ^ 20) {u : Int} (hu : 0 < u) (hsm : sm u) : ∃ (r : Int) (m' : MO), 0 ≤ r ∧ r < u ∧ Pot (c + 1) m' ∧ semF Φ 2 5 takeB [.own m, .dat (.int u)] = some (.val (.int r), [m']) := by
  obtain ⟨o, s, n, rfl, h1, h2, h3, h4, h5⟩ := h
  by_cases ho : 0 < o
  · obtain ⟨r0, r1⟩ := fmod_pos (i := o) hu
    exact ⟨_, _, r0, r1, ⟨_, _, _, rfl, fdiv_nn h1 hu, h2, h3, h4, by omega⟩, take1 Φ ho hu hsm⟩
  · obtain ⟨r, r0, r1, e⟩ := take2 Φ ho hu h2 h3 h4 (by omega)
    exact ⟨r, _, r0, r1, ⟨_, _, _, rfl, h1, h2, h3, by omega, by omega⟩, e⟩
theorem intsOf_mapI : ∀ ns : List Int, intsOf (ns.map D.int) = some ns
  | [] => rfl
  | n :: ns => by
    simp only [List.map_cons, intsOf, D.toInt?, intsOf_mapI ns]
/-- _law_pot -/
def potB : S :=
  (.seq (.asg (.nm 2) (.ite (.cmp .lt (.var 1) (.bi .len (.acons (.var 0) .anil))) (.ix (.var 0) (.var 1)) (.bin .add (.bin .add (.bin .mod (.bi .sum (.acons (.slc (.var 0) .gone (.acons (.cst (.int 1)) .anil)) .anil)) (.cst (.int 1000253))) (.bin .mul (.cst (.int 6011)) (.var 1))) (.cst (.int 733)))))
  (.seq (.asg (.nm 3) (.bin .mul (.bin .mod (.bi .int (.acons (.bi .abs (.acons (.var 2) .anil)) .anil)) (.bin .pow (.bin .pow (.cst (.int 10)) (.cst (.int 60))) (.cst (.int 5)))) (.bi .int (.acons (.cmp .ge (.bi .abs (.acons (.var 2) .anil)) (.bin .pow (.cst (.int 10)) (.cst (.int 18)))) .anil))))
  (.seq (.asg (.nm 4) (.bin .mod (.bi .int (.acons (.var 2) .anil)) (.cst (.int 2305843009213693951))))
  (.seq (.ret (.lst (.acons (.var 3) (.acons (.bin .mod (.bi .int (.acons (.bin .add (.bin .add (.bin .mul (.var 4) (.cst (.int 70843))) (.bin .mul (.bin .mul (.cst (.int 7477)) (.var 1)) (.var 1))) (.cst (.int 1181))) .anil)) (.cst (.int 2305843009213693921))) (.acons (.cst (.int 0)) .anil)))))
  .nop))))
theorem pow1 : binOp .pow (.int 10) (.int 60) = some (.val (.int (10 ^ 60))) := by
  simp only [binOp]
  rw [if_pos (by decide +kernel)]
  rfl
theorem pow2 : binOp .pow (.int (10 ^ 60)) (.int 5) = some (.val (.int ((10 ^ 60) ^ 5))) := by
  simp only [binOp]
  rw [if_pos (by decide +kernel)]
  rfl
theorem pow3 : binOp .pow (.int 10) (.int 18) = some (.val (.int (10 ^ 18))) := by
  simp only [binOp]
  rw [if_pos (by decide +kernel)]
  rfl
theorem own_mul {a : Int} (h0 : 0 ≤ a) (h : a < (10 ^ 60) ^ 5) (b : Bool) : binOp .mul (.int a) (.int (if b = true then 1 else 0)) = some (.val (.int (a * if b = true then 1 else 0))) := by
  have h1 : a.natAbs.log2 ≤ 1000 := by
    refine lg2 ?_
    have h2 : a.natAbs < (10 ^ 60) ^ 5 := by
      have e : ((a.natAbs : Nat) : Int) = a := Int.natAbs_of_nonneg h0
      have h3 : ((a.natAbs : Nat) : Int) < (((10 ^ 60) ^ 5 : Nat) : Int) := by rw [e]; exact h
      exact Int.ofNat_lt.mp h3
    exact Nat.lt_trans h2 (by decide +kernel)
  have h2 : (if b = true then (1 : Int) else 0).natAbs.log2 ≤ 1 := by cases b <;> decide
  simp only [binOp]
  rw [if_pos (by omega)]
theorem pot_ok (Φ : Nat → Fn) {ns : List Int} {pl : Nat} (hp : pl < 2 ^ 10) : ∃ m, Pot 0 m ∧ semF Φ 2 5 potB [.dat (.scr ns), .dat (.int pl)] = some (.new m, []) := by
  -- the cell
  obtain ⟨cell, hcell⟩ : ∃ cell : Int, evE Φ (.ite (.cmp .lt (.var 1) (.bi .len (.acons (.var 0) .anil))) (.ix (.var 0) (.var 1)) (.bin .add (.bin .add (.bin .mod (.bi .sum (.acons (.slc (.var 0) .gone (.acons (.cst (.int 1)) .anil)) .anil)) (.cst (.int 1000253))) (.bin .mul (.cst (.int 6011)) (.var 1))) (.cst (.int 733))))
      [.dat (.scr ns), .dat (.int pl), .un, .un, .un] = some (.val (.int cell), [.dat (.scr ns), .dat (.int pl), .un, .un, .un]) := by
    by_cases h : pl < ns.length
    · refine ⟨ns[pl], ?_⟩
      have hx : ixOp (.scr ns) (.int pl) = some (.int ns[pl]) := by
        simp only [ixOp, atI, ixN]
        rw [if_pos (by omega), if_pos (by omega)]
        simp [h]
      simp [evE, evA, pk, pks, biOp, cmpOp, h, hx]
    · have e3 := mul_ev (i := 6011) (j := pl) (by unfold sm; omega) (by unfold sm; omega)
      have hs : cutD (ns.map D.int) none (some 1) = (ns.take 1).map D.int := by
        unfold cutD HT.sIx
        cases ns <;> simp
      have e4 := mod_ev (i := (ns.take 1).sum) (j := 1000253) (by decide)
      refine ⟨(ns.take 1).sum.fmod 1000253 + 6011 * pl + 733, ?_⟩
      simp [evE, evA, evO, pk, pks, biOp, cmpOp, h, slcOp, hs, -List.map_take, intsOf_mapI, e3, e4, add_ev]
  -- what is drawn by hand
  obtain ⟨ow, ow0, how⟩ : ∃ ow : Int, 0 ≤ ow ∧ evE Φ (.bin .mul (.bin .mod (.bi .int (.acons (.bi .abs (.acons (.var 2) .anil)) .anil)) (.bin .pow (.bin .pow (.cst (.int 10)) (.cst (.int 60))) (.cst (.int 5)))) (.bi .int (.acons (.cmp .ge (.bi .abs (.acons (.var 2) .anil)) (.bin .pow (.cst (.int 10)) (.cst (.int 18)))) .anil)))
      [.dat (.scr ns), .dat (.int pl), .dat (.int cell), .un, .un] = some (.val (.int ow), [.dat (.scr ns), .dat (.int pl), .dat (.int cell), .un, .un]) := by
    generalize hab : (if cell < 0 then -cell else cell) = ab
    have a0 := fmod_pos (i := ab) (j := (10 ^ 60) ^ 5) (by decide +kernel)
    have e1 := mod_ev (i := ab) (j := (10 ^ 60) ^ 5) (by decide +kernel)
    have e2 := own_mul a0.1 a0.2 (decide ((10 : Int) ^ 18 ≤ ab))
    refine ⟨_, Int.mul_nonneg a0.1 (b := if decide ((10 : Int) ^ 18 ≤ ab) = true then 1 else 0) (by split <;> decide), ?_⟩
    simp only [evE, evA, pks, pk, biOp, List.getElem?_cons_succ, List.getElem?_cons_zero, hab, pow1, pow2, pow3, e1, cmpOp, e2]
  have e3 := mod_ev (i := cell) (j := 2305843009213693951) (by decide)
  obtain ⟨s0, s1⟩ := fmod_pos (i := cell) (j := 2305843009213693951) (by decide)
  generalize hs : cell.fmod 2305843009213693951 = sml at *
  have e4 := mul_ev (i := sml) (j := 70843) (by unfold sm; omega) (by unfold sm; omega)
  have m1 : (7477 * (pl : Int)).natAbs < 2 ^ 40 := by omega
  have e5 := mul_ev (i := 7477) (j := pl) (by unfold sm; omega) (by unfold sm; omega)
  have e6 := mul_ev (i := 7477 * pl) (j := pl) (sm_of m1 (by decide)) (by unfold sm; omega)
  have e7 := mod_ev (i := sml * 70843 + 7477 * pl * pl + 1181) (j := 2305843009213693921) (by decide)
  obtain ⟨t0, t1⟩ := fmod_pos (i := sml * 70843 + 7477 * pl * pl + 1181) (j := 2305843009213693921) (by decide)
  generalize hq : (sml * 70843 + 7477 * (pl : Int) * pl + 1181).fmod 2305843009213693921 = sd at *
  refine ⟨.lst [.int ow, .int sd, .int 0], ⟨_, _, _, rfl, ow0, t0, by omega, by decide, by decide⟩, ?_⟩
  unfold semF potB
  simp only [List.length_cons, List.length_nil, Nat.reduceAdd, if_true, List.map_cons, List.map_nil, Arg.slot, List.replicate, Nat.reduceSub, List.cons_append, List.nil_append]
  simp only [evS, hcell, setP, fz, setD, setS, Slot.free, List.getElem?_cons_succ, List.getElem?_cons_zero, if_true, List.set_cons_succ, List.set_cons_zero, how]
  simp [evE, evA, fzs, pk, lim, cmpOp, biOp, pks, setP, fz, setD, setS, Slot.free, retOf, outsOf, add_ev, e3, hs, e4, e5, e6, e7, hq]
end Mi

/-! MiLot: lots (strictly ascending lists), sums by oddness. Plain Lean. -/
namespace Mi

abbrev Asc (l : List Int) : Prop := l.Pairwise (· < ·)
theorem asc_ext : ∀ {a b : List Int}, Asc a → Asc b → (∀ x, x ∈ a ↔ x ∈ b) → a = b
  | [], [], _, _, _ => rfl
  | [], y :: b, _, _, h => by have := (h y).mpr List.mem_cons_self; cases this
  | x :: a, [], _, _, h => by have := (h x).mp List.mem_cons_self; cases this
  | x :: a, y :: b, ha, hb, h => by
    obtain ⟨a1, a2⟩ := List.pairwise_cons.mp ha
    obtain ⟨b1, b2⟩ := List.pairwise_cons.mp hb
    have e : x = y := by
      rcases List.mem_cons.mp ((h x).mp List.mem_cons_self) with e | e
      · exact e
      · rcases List.mem_cons.mp ((h y).mpr List.mem_cons_self) with e' | e'
        · exact e'.symm
        · have := b1 x e
          have := a1 y e'
          omega
    subst e
    rw [asc_ext a2 b2 fun z => ?_]
    have hz := h z
    simp only [List.mem_cons] at hz
    constructor
    · intro q
      have := a1 z q
      rcases hz.mp (.inr q) with rfl | w
      · omega
      · exact w
    · intro q
      have := b1 z q
      rcases hz.mpr (.inr q) with rfl | w
      · omega
      · exact w
/-- how often, oddly -/
def par (l : List Int) (x : Int) : Bool := l.count x % 2 == 1
theorem par_nil (x : Int) : par [] x = false := rfl
theorem par_app (a b : List Int) (x : Int) : par (a ++ b) x = (par a x ^^ par b x) := by
  unfold par
  rw [List.count_append]
  have h1 : a.count x % 2 = 0 ∨ a.count x % 2 = 1 := by omega
  have h2 : b.count x % 2 = 0 ∨ b.count x % 2 = 1 := by omega
  rcases h1 with h1 | h1 <;> rcases h2 with h2 | h2 <;> simp [Nat.add_mod, h1, h2]
theorem par_cons (a x : Int) (l : List Int) : par (a :: l) x = (decide (a = x) ^^ par l x) := by
  have := par_app [a] l x
  rw [List.singleton_append] at this
  rw [this]
  congr 1
  unfold par
  by_cases h : a = x
  · subst h; simp
  · simp [h, List.count_cons]
theorem par_perm {a b : List Int} (h : a.Perm b) (x : Int) : par a x = par b x := by
  unfold par
  rw [h.count_eq]
theorem count_asc {l : List Int} (h : Asc l) (x : Int) : l.count x = if x ∈ l then 1 else 0 := by
  induction l with
  | nil => rfl
  | cons y l ih =>
    obtain ⟨h1, h2⟩ := List.pairwise_cons.mp h
    rw [List.count_cons, ih h2]
    by_cases e : y = x
    · subst e
      have : y ∉ l := fun z => by have := h1 y z; omega
      simp [this]
    · have : ¬ x = y := fun z => e z.symm
      simp [e, this]
theorem par_asc {l : List Int} (h : Asc l) (x : Int) : par l x = decide (x ∈ l) := by
  unfold par
  rw [count_asc h]
  by_cases e : x ∈ l <;> simp [e]
/-- each once, of a list that does not fall -/
def dd : Option Int → List Int → List Int
  | _, [] => []
  | p, x :: r => if p = some x then dd (some x) r else x :: dd (some x) r
theorem dd_spec : ∀ {l : List Int} {p : Option Int}, l.Pairwise (· ≤ ·) → (∀ q, p = some q → ∀ x ∈ l, q ≤ x) → Asc (dd p l) ∧ ∀ x, x ∈ dd p l ↔ x ∈ l ∧ p ≠ some x
  | [], p, _, _ => ⟨.nil, fun x => by simp [dd]⟩
  | y :: r, p, h, hp => by
    obtain ⟨h1, h2⟩ := List.pairwise_cons.mp h
    obtain ⟨i1, i2⟩ := dd_spec (l := r) (p := some y) h2 fun q e x hx => by cases e; exact h1 x hx
    unfold dd
    split
    · rename_i e
      subst e
      refine ⟨i1, fun x => ?_⟩
      rw [i2]
      simp only [List.mem_cons, ne_eq, Option.some.injEq]
      constructor
      · intro ⟨a, b⟩; exact ⟨.inr a, b⟩
      · intro ⟨a, b⟩
        rcases a with rfl | a
        · exact absurd rfl b
        · exact ⟨a, b⟩
    · rename_i e
      refine ⟨List.pairwise_cons.mpr ⟨fun x hx => ?_, i1⟩, fun x => ?_⟩
      · obtain ⟨a, b⟩ := (i2 x).mp hx
        have := h1 x a
        have : y ≠ x := fun z => b (by rw [z])
        omega
      · simp only [List.mem_cons, i2, ne_eq, Option.some.injEq]
        constructor
        · rintro (rfl | ⟨a, b⟩)
          · exact ⟨.inl rfl, e⟩
          · refine ⟨.inr a, fun z => ?_⟩
            have q1 := hp x z y List.mem_cons_self
            have q2 := h1 x a
            exact b (by omega)
        · rintro ⟨rfl | a, b⟩
          · exact .inl rfl
          · by_cases z : y = x
            · exact .inl z.symm
            · exact .inr ⟨a, z⟩
/-- the sum by oddness -/
def oddS (l : List Int) : List Int := (dd none (sortI l)).filter fun x => par l x
theorem oddS_asc (l : List Int) : Asc (oddS l) := List.Pairwise.filter _ (dd_spec (sortI_asc l) (fun q e => by cases e)).1
theorem mem_oddS {l : List Int} {x : Int} : x ∈ oddS l ↔ par l x = true := by
  unfold oddS
  rw [List.mem_filter, (dd_spec (sortI_asc l) (fun q e => by cases e)).2, (sortI_perm l).mem_iff]
  constructor
  · intro h; exact h.2
  · intro h
    refine ⟨⟨?_, by simp⟩, h⟩
    unfold par at h
    refine List.count_pos_iff.mp ?_
    have : l.count x % 2 = 1 := by simpa using h
    omega
theorem par_oddS (l : List Int) (x : Int) : par (oddS l) x = par l x := by
  rw [par_asc (oddS_asc l)]
  cases h : par l x with
  | true => simpa using mem_oddS.mpr h
  | false => simp [mem_oddS, h]
theorem oddS_of {l r : List Int} (hr : Asc r) (h : ∀ x, par r x = par l x) : oddS l = r :=
  asc_ext (oddS_asc l) hr fun x => by
    rw [mem_oddS, ← h x, par_asc hr]
    simp
theorem oddS_congr {a b : List Int} (h : ∀ x, par a x = par b x) : oddS a = oddS b :=
  oddS_of (oddS_asc b) fun x => by rw [par_oddS, h]
theorem oddS_self {l : List Int} (h : Asc l) : oddS l = l := oddS_of h fun _ => rfl
end Mi

/-! MiW: words for walking: small steps as simp rules, comprehensions, loops, typed data. -/
namespace Mi
open PySem PySem.Spec PyProof.Rows L2

/-! ### small steps -/
section
variable {Φ : Nat → Fn} {env : En}
@[simp] theorem z_semF (np n : Nat) (b : S) (as : List Arg) : semF Φ np n b as = if as.length = np then
    match evS Φ b (as.map Arg.slot ++ List.replicate (n - np) Slot.un) with
    | some (.rt r e) => match outsOf as e with
      | some ms => some (r, ms)
      | none => none
    | some (.nx e) => match outsOf as e with
      | some ms => some (.val .non, ms)
      | none => none
    | _ => none
  else none := rfl
@[simp] theorem z_repl0 {α : Type} (a : α) : List.replicate 0 a = [] := rfl
@[simp] theorem z_repl1 {α : Type} (a : α) (n : Nat) : List.replicate (n + 1) a = a :: List.replicate n a := rfl
@[simp] theorem z_aslot1 (d : D) : (Arg.dat d).slot = .dat d := rfl
@[simp] theorem z_aslot2 (m : MO) : (Arg.own m).slot = .own false m := rfl
@[simp] theorem z_lim : lim = 4000000 := rfl
@[simp] theorem z_pk1 (d : D) : pk (.val d) env = some d := rfl
@[simp] theorem z_pk2 (ds : List D) : pk (.new (.lst ds)) env = some (.lst ds) := rfl
@[simp] theorem z_pk3 (i : Nat) : pk (.slot i) env = match env[i]? with
    | some (.own _ (.lst ds)) => some (.lst ds)
    | some (.lck _ (.lst ds)) => some (.lst ds)
    | some (.dat d) => some d
    | _ => none := rfl
@[simp] theorem z_pk4 (k : List (Key × D)) : pk (.new (.dK k)) env = none := rfl
@[simp] theorem z_pk5 (k : List (List Key × D)) : pk (.new (.dT k)) env = none := rfl
@[simp] theorem z_pk6 (k : List D) : pk (.its k) env = none := rfl
@[simp] theorem z_fz1 (d : D) : fz (.val d) env = some (d, env) := rfl
@[simp] theorem z_fz2 (ds : List D) : fz (.new (.lst ds)) env = some (.lst ds, env) := rfl
@[simp] theorem z_fz3 (i : Nat) : fz (.slot i) env = match env[i]? with
    | some (.own true (.lst ds)) => some (.lst ds, env.set i (.dat (.lst ds)))
    | some (.dat d) => some (d, env)
    | _ => none := rfl
@[simp] theorem z_fzs0 : fzs [] env = some ([], env) := rfl
@[simp] theorem z_fzs1 (p : P) (ps : List P) : fzs (p :: ps) env = match fz p env with
    | some (d, e1) => match fzs ps e1 with
      | some (ds, e2) => some (d :: ds, e2)
      | none => none
    | none => none := rfl
@[simp] theorem z_pks0 : pks [] env = some [] := rfl
@[simp] theorem z_pks1 (p : P) (ps : List P) : pks (p :: ps) env = match pk p env with
    | some d => match pks ps env with
      | some ds => some (d :: ds)
      | none => none
    | none => none := rfl
@[simp] theorem z_ta0 : toArgs [] env = some ([], []) := rfl
@[simp] theorem z_ta1 (d : D) (ps : List P) : toArgs (.val d :: ps) env = match toArgs ps env with
    | some (as, is) => some (.dat d :: as, is)
    | none => none := rfl
@[simp] theorem z_ta2 (ds : List D) (ps : List P) : toArgs (.new (.lst ds) :: ps) env = match toArgs ps env with
    | some (as, is) => some (.dat (.lst ds) :: as, is)
    | none => none := rfl
@[simp] theorem z_ta3 (i : Nat) (ps : List P) : toArgs (.slot i :: ps) env = match env[i]?, toArgs ps env with
    | some (.own _ m), some (as, is) => if i ∈ is then none else some (.own m :: as, i :: is)
    | some (.dat d), some (as, is) => some (.dat d :: as, is)
    | _, _ => none := rfl
@[simp] theorem z_pb0 : putBack [] [] env = some env := rfl
@[simp] theorem z_pb1 (i : Nat) (is : List Nat) (m : MO) (ms : List MO) : putBack (i :: is) (m :: ms) env = match env[i]? with
    | some (.own f _) => putBack is ms (env.set i (.own f m))
    | _ => none := rfl
@[simp] theorem z_retp1 (d : D) : Ret.p (.val d) = .val d := rfl
@[simp] theorem z_retp2 (m : MO) : Ret.p (.new m) = .new m := rfl
@[simp] theorem z_callk {F : Fn} (pm : List Nat) (as : List Arg) : callK F pm (some (as, [])) = match F (permL pm as) with
      | some (r, ms) => match ms with
        | [] => some r
        | _ :: _ => none
      | none => none := rfl
@[simp] theorem z_permL {α : Type} (pm : List Nat) (l : List α) : permL pm l = pm.filterMap fun i => l[i]? := rfl
@[simp] theorem z_its1 (xs : List D) : itsOf (.its xs) env = some (xs, none, env) := rfl
@[simp] theorem z_its2 (d : D) : itsOf (.val d) env = match d.seq? with
    | some ds => some (ds, none, env)
    | none => none := rfl
@[simp] theorem z_its3 (ds : List D) : itsOf (.new (.lst ds)) env = some (ds, none, env) := rfl
@[simp] theorem z_its4 (i : Nat) : itsOf (.slot i) env = match env[i]? with
    | some (.own f (.lst ds)) => some (ds, some i, env.set i (.lck f (.lst ds)))
    | some (.lck _ (.lst ds)) => some (ds, none, env)
    | some (.dat d) => match d.seq? with
      | some ds => some (ds, none, env)
      | none => none
    | _ => none := rfl
@[simp] theorem z_seq1 (ds : List D) : (D.lst ds).seq? = some ds := rfl
@[simp] theorem z_seq2 (ds : List D) : (D.tup ds).seq? = some ds := rfl
@[simp] theorem z_dk1 (ds : List D) : dkeys (.lst ds) = none := rfl
@[simp] theorem z_dk2 (kvs : List (Key × D)) : dkeys (.dK kvs) = some (kvs.map fun p => keyD p.1) := rfl
@[simp] theorem z_dk3 (kvs : List (List Key × D)) : dkeys (.dT kvs) = none := rfl
@[simp] theorem z_free0 : freeS none env = env := rfl
@[simp] theorem z_free1 (i : Nat) : freeS (some i) env = match env[i]? with
    | some (.lck f m) => env.set i (.own f m)
    | _ => env := rfl
@[simp] theorem z_setD1 (i : Nat) (d : D) : setD (.nm i) d env = setS i (.dat d) env := rfl
@[simp] theorem z_setD2 (ts : T) (ds : List D) : setD (.tp ts) (.tup ds) env = setDs ts ds env := rfl
@[simp] theorem z_setDs0 : setDs .nil [] env = some env := rfl
@[simp] theorem z_setD2w (ts : T) (ds : List D) : setD (.tp ts) (.wtup ds) env = setDs ts ds env := rfl
@[simp] theorem z_setDs1 (t ts : T) (d : D) (ds : List D) : setDs (.cons t ts) (d :: ds) env = match setD t d env with
    | some e => setDs ts ds e
    | none => none := rfl
@[simp] theorem z_setS (i : Nat) (s : Slot) : setS i s env = match env[i]? with
    | some t => if t.free then some (env.set i s) else none
    | none => none := rfl
@[simp] theorem z_setP1 (i : Nat) (m : MO) : setP (.nm i) (.new m) env = setS i (.own true m) env := rfl
@[simp] theorem z_setP2 (t : T) (d : D) : setP t (.val d) env = setD t d env := by cases t <;> rfl
@[simp] theorem z_setP3 (t : T) (i : Nat) : setP t (.slot i) env = match fz (.slot i) env with
    | some (d, e) => setD t d e
    | none => none := by cases t <;> rfl
@[simp] theorem z_setP4 (ts : T) (ds : List D) : setP (.tp ts) (.new (.lst ds)) env = setD (.tp ts) (.lst ds) env := rfl
@[simp] theorem z_rsP1 (m : MO) : rsP (.new m) env = some (.new m, env) := rfl
@[simp] theorem z_rsP2 (d : D) : rsP (.val d) env = some (.val d, env) := rfl
@[simp] theorem z_rsP3 (i : Nat) : rsP (.slot i) env = match fz (.slot i) env with
    | some (d, e) => some (.val d, e)
    | none => none := rfl
@[simp] theorem z_rsPs0 : rsPs [] env = some ([], env) := rfl
@[simp] theorem z_rsPs1 (p : P) (ps : List P) : rsPs (p :: ps) env = match rsP p env with
    | some (q, e1) => match rsPs ps e1 with
      | some (qs, e2) => some (q :: qs, e2)
      | none => none
    | none => none := rfl
@[simp] theorem z_setVs0 : setVs [] [] env = some env := rfl
@[simp] theorem z_setVs1 (i : Nat) (is : List Nat) (d : D) (ps : List P) : setVs (i :: is) (.val d :: ps) env = match setS i (.dat d) env with
    | some e1 => setVs is ps e1
    | none => none := rfl
@[simp] theorem z_setVs2 (i : Nat) (is : List Nat) (m : MO) (ps : List P) : setVs (i :: is) (.new m :: ps) env = match setS i (.own true m) env with
    | some e1 => setVs is ps e1
    | none => none := rfl
@[simp] theorem z_ret1 (d : D) : retOf (.val d) env = some (.val d, env) := rfl
@[simp] theorem z_ret2 (m : MO) : retOf (.new m) env = some (.new m, env) := rfl
@[simp] theorem z_ret3 (i : Nat) : retOf (.slot i) env = match env[i]? with
    | some (.own true m) => some (.new m, env.set i .un)
    | some (.dat d) => some (.val d, env)
    | _ => none := rfl
@[simp] theorem z_out0 : outsOf [] env = some [] := by cases env <;> rfl
@[simp] theorem z_out1 (d : D) (as : List Arg) (s : Slot) : outsOf (.dat d :: as) (s :: env) = outsOf as env := rfl
@[simp] theorem z_out2 (m m' : MO) (as : List Arg) : outsOf (.own m :: as) (.own false m' :: env) = match outsOf as env with
    | some ms => some (m' :: ms)
    | none => none := rfl
@[simp] theorem z_wipe0 : wipeS env [] = env := rfl
@[simp] theorem z_wipe1 (v : Nat) (vs : List Nat) : wipeS env (v :: vs) = (wipeS env vs).set v .un := rfl
@[simp] theorem z_wok (vs : List Nat) : wipeOk env vs = vs.all fun v => match env[v]? with
    | some s => s.free
    | none => true := rfl
@[simp] theorem z_evT (c : E) : evT Φ c env = match evE Φ c env with
    | some (.val (.bl b), e1) => some (b, e1)
    | _ => none := rfl
@[simp] theorem z_freeF (m : MO) : (Slot.own false m).free = false := rfl
@[simp] theorem z_freeL (f : Bool) (m : MO) : (Slot.lck f m).free = false := rfl
@[simp] theorem z_lstIn (i : Nat) : lstIn i env = match env[i]? with
  | some (.own _ (.lst _)) => true
  | _ => false := rfl
@[simp] theorem z_dictIn (i : Nat) : dictIn i env = match env[i]?.bind Slot.mo? with
  | some (.dK _) => true
  | some (.dT _) => true
  | _ => false := rfl
@[simp] theorem z_mo1 (f : Bool) (m : MO) : Slot.mo? (.own f m) = some m := rfl
@[simp] theorem z_mo2 (f : Bool) (m : MO) : Slot.mo? (.lck f m) = some m := rfl
@[simp] theorem z_mo3 (d : D) : Slot.mo? (.dat d) = none := rfl
@[simp] theorem z_mo4 : Slot.mo? .un = none := rfl
@[simp] theorem z_add (i j : Int) : binOp .add (.int i) (.int j) = some (.val (.int (i + j))) := rfl
@[simp] theorem z_sub (i j : Int) : binOp .sub (.int i) (.int j) = some (.val (.int (i - j))) := rfl
@[simp] theorem z_lt (i j : Int) : cmpOp .lt (.int i) (.int j) = some (decide (i < j)) := rfl
@[simp] theorem z_le (i j : Int) : cmpOp .le (.int i) (.int j) = some (decide (i ≤ j)) := rfl
@[simp] theorem z_gt (i j : Int) : cmpOp .gt (.int i) (.int j) = some (decide (j < i)) := rfl
@[simp] theorem z_ge (i j : Int) : cmpOp .ge (.int i) (.int j) = some (decide (j ≤ i)) := rfl
@[simp] theorem z_eq (a b : D) : cmpOp .eq a b = eqOp a b := rfl
@[simp] theorem z_ne (a b : D) : cmpOp .ne a b = (eqOp a b).map (!·) := rfl
@[simp] theorem z_in (a b : D) : cmpOp .in_ a b = inOp a b := rfl
@[simp] theorem z_nin (a b : D) : cmpOp .nin a b = (inOp a b).map (!·) := rfl
@[simp] theorem z_is (a : D) : cmpOp .is_ a .non = some a.isNon := rfl
@[simp] theorem z_isn (a : D) : cmpOp .isn a .non = some (!a.isNon) := rfl
@[simp] theorem z_len1 (ds : List D) : biOp .len [.tup ds] = some (.val (.int ds.length)) := rfl
@[simp] theorem z_len2 (ds : List D) : biOp .len [.lst ds] = some (.val (.int ds.length)) := rfl
@[simp] theorem z_len3 (ns : List Int) : biOp .len [.scr ns] = some (.val (.int ns.length)) := rfl
@[simp] theorem z_int1 (i : Int) : biOp .int [.int i] = some (.val (.int i)) := rfl
@[simp] theorem z_int2 (b : Bool) : biOp .int [.bl b] = some (.val (.int (if b then 1 else 0))) := rfl
@[simp] theorem z_list1 (ds : List D) : biOp .list [.lst ds] = some (.new (.lst ds)) := rfl
@[simp] theorem z_list2 (ds : List D) : biOp .list [.tup ds] = some (.new (.lst ds)) := rfl
@[simp] theorem z_tuple1 (ds : List D) : biOp .tuple [.lst ds] = some (.val (.tup ds)) := rfl
@[simp] theorem z_tuple2 (ds : List D) : biOp .tuple [.tup ds] = some (.val (.tup ds)) := rfl
@[simp] theorem z_max2 (i j : Int) : biOp .max2 [.int i, .int j] = some (.val (.int (if j > i then j else i))) := rfl
@[simp] theorem z_min2 (i j : Int) : biOp .min2 [.int i, .int j] = some (.val (.int (if j < i then j else i))) := rfl
@[simp] theorem z_repr (d : D) : biOp .repr [d] = if d.okRepr then some (.val (.str d.py.shown)) else none := rfl
@[simp] theorem z_isiI (d : D) : biOp (.isi "int") [d] = some (.val (.bl (d.isA "int"))) := rfl
@[simp] theorem z_isiB (d : D) : biOp (.isi "bool") [d] = some (.val (.bl (d.isA "bool"))) := rfl
@[simp] theorem z_isiS (d : D) : biOp (.isi "str") [d] = some (.val (.bl (d.isA "str"))) := rfl
@[simp] theorem z_isiT (d : D) : biOp (.isi "tuple") [d] = some (.val (.bl (d.isA "tuple"))) := rfl
@[simp] theorem z_isiL (d : D) : biOp (.isi "list") [d] = some (.val (.bl (d.isA "list"))) := rfl
@[simp] theorem z_slc1 (ds : List D) (lo hi : Option Int) : slcOp (.tup ds) lo hi = some (.val (.tup (cutD ds lo hi))) := rfl
@[simp] theorem z_slc2 (ds : List D) (lo hi : Option Int) : slcOp (.lst ds) lo hi = some (.new (.lst (cutD ds lo hi))) := rfl
@[simp] theorem z_zip1 (xs ys : List D) : zipOp (.lst xs) (.lst ys) = some (List.zipWith (fun x y => D.wtup [x, y]) xs ys) := rfl
@[simp] theorem z_zip2 (xs ys : List D) : zipOp (.tup xs) (.tup ys) = some (List.zipWith (fun x y => D.wtup [x, y]) xs ys) := rfl
end
@[simp] theorem isA_int1 (i : Int) : (D.int i).isA "int" = true := rfl
@[simp] theorem isA_int2 (i : Int) : (D.int i).isA "bool" = false := by simp [D.isA]
@[simp] theorem isA_int3 (i : Int) : (D.int i).isA "str" = false := by simp [D.isA]
@[simp] theorem isA_int4 (i : Int) : (D.int i).isA "tuple" = false := by simp [D.isA]
@[simp] theorem isA_tup1 (l : List D) : (D.tup l).isA "int" = false := by simp [D.isA]
@[simp] theorem isA_tup2 (l : List D) : (D.tup l).isA "bool" = false := by simp [D.isA]
@[simp] theorem isA_tup3 (l : List D) : (D.tup l).isA "str" = false := by simp [D.isA]
@[simp] theorem isA_tup4 (l : List D) : (D.tup l).isA "tuple" = true := by simp [D.isA]
@[simp] theorem isA_str3 (l : Str) : (D.str l).isA "str" = true := by simp [D.isA]
@[simp] theorem isA_str4 (l : Str) : (D.str l).isA "tuple" = false := by simp [D.isA]
@[simp] theorem isA_str1 (l : Str) : (D.str l).isA "int" = false := by simp [D.isA]

/-! ### typed data -/
abbrev dI (ns : List Int) : D := .tup (ns.map D.int)
abbrev lI (ns : List Int) : D := .lst (ns.map D.int)
abbrev dLL (ls : List (List Int)) : D := .tup (ls.map dI)
def kindD (o : Bool) : D := .str (if o then Str.ofString "own" else Str.ofString "shut")
@[simp] theorem cmp_kind (o : Bool) : eqOp (kindD o) (.str (Str.ofString "own")) = some o := by cases o <;> decide +kernel
@[simp] theorem isA_kind (o : Bool) : (kindD o).isA "str" = true := by cases o <;> rfl
@[simp] theorem in_kind (o : Bool) : inOp (kindD o) (.tup [.str (Str.ofString "own"), .str (Str.ofString "shut")]) = some true := by cases o <;> decide +kernel

theorem eqv_ints : ∀ a b : List Int, PyData.eqvAll (D.pyA (a.map D.int)) (D.pyA (b.map D.int)) = decide (a = b)
  | [], [] => rfl
  | [], _ :: _ => by simp [D.pyA, PyData.eqvAll]
  | _ :: _, [] => by simp [D.pyA, PyData.eqvAll]
  | x :: a, y :: b => by
    simp only [List.map_cons, D.pyA, PyData.eqvAll, D.py, PyData.eqv, eqv_ints a b]
    by_cases h : x = y <;> by_cases h2 : a = b <;> simp [h, h2]
/-- data of a type that may be compared -/
class EqE {α : Type} [DecidableEq α] (n : outParam Nat) (e : α → D) : Prop where
  ok : ∀ a, (e a).ok n = true
  eqv : ∀ a b, PyData.eqv (e a).py (e b).py = decide (a = b)
mutual
theorem ok_up : ∀ (n : Nat) (d : D), d.ok n = true → d.ok (n + 1) = true
  | n, .non, h => by cases n <;> rfl
  | n, .bl _, h => by cases n <;> rfl
  | n, .int _, h => by cases n <;> rfl
  | n, .str x, h => by cases n <;> exact h
  | 0, .tup ds, h => by cases h
  | n + 1, .tup ds, h => by
    simp only [D.ok] at h ⊢
    exact okA_up n ds h
  | 0, .lst ds, h => by cases h
  | n + 1, .lst ds, h => by
    simp only [D.ok] at h ⊢
    exact okA_up n ds h
  | n, .scr _, h => by cases n <;> cases h
  | n, .wtup _, h => by cases n <;> cases h
theorem okA_up : ∀ (n : Nat) (ds : List D), ds.all (D.ok n) = true → ds.all (D.ok (n + 1)) = true
  | _, [], _ => rfl
  | n, d :: ds, h => by
    rw [List.all_cons, Bool.and_eq_true] at h ⊢
    exact ⟨ok_up n d h.1, okA_up n ds h.2⟩
end
theorem ok_le {n m : Nat} (h : n ≤ m) {d : D} (hd : d.ok n = true) : d.ok m = true := by
  induction h with
  | refl => exact hd
  | step _ ih => exact ok_up _ _ ih
section
variable {α β : Type} [DecidableEq α] [DecidableEq β] {n m : Nat} {e : α → D} {f : β → D}
instance : EqE 0 D.int := ⟨fun _ => rfl, fun a b => by
  simp only [D.py, PyData.eqv]
  rfl⟩
instance : EqE 0 D.bl := ⟨fun _ => rfl, fun a b => by
  simp only [D.py, PyData.eqv]
  cases a <;> cases b <;> rfl⟩
theorem eqv_all [h : EqE n e] : ∀ a b : List α, PyData.eqvAll (D.pyA (a.map e)) (D.pyA (b.map e)) = decide (a = b)
  | [], [] => rfl
  | [], _ :: _ => by simp [D.pyA, PyData.eqvAll]
  | _ :: _, [] => by simp [D.pyA, PyData.eqvAll]
  | x :: a, y :: b => by
    simp only [List.map_cons, D.pyA, PyData.eqvAll, h.eqv, eqv_all a b]
    by_cases h : x = y <;> by_cases h2 : a = b <;> simp [h, h2]
theorem ok_all [h : EqE n e] (a : List α) : (a.map e).all (D.ok n) = true := by
  rw [List.all_map]
  exact List.all_eq_true.mpr fun x _ => h.ok x
instance [EqE n e] : EqE (n + 1) fun l : List α => D.tup (l.map e) := ⟨fun a => by simp only [D.ok]; exact ok_all a, fun a b => by simp only [D.py, PyData.eqv]; exact eqv_all a b⟩
instance [EqE n e] : EqE (n + 1) fun l : List α => D.lst (l.map e) := ⟨fun a => by simp only [D.ok]; exact ok_all a, fun a b => by simp only [D.py, PyData.eqv]; exact eqv_all a b⟩
instance [h1 : EqE n e] [h2 : EqE m f] : EqE (max n m + 1) fun p : α × β => D.tup [e p.1, f p.2] := ⟨fun a => by
    simp only [D.ok, List.all_cons, List.all_nil, Bool.and_true, Bool.and_eq_true]
    exact ⟨ok_le (Nat.le_max_left _ _) (h1.ok _), ok_le (Nat.le_max_right _ _) (h2.ok _)⟩, fun a b => by
    simp only [D.py, D.pyA, PyData.eqv, PyData.eqvAll, h1.eqv, h2.eqv, Bool.and_true]
    by_cases h : a.1 = b.1 <;> by_cases h2 : a.2 = b.2 <;> simp [h, h2, Prod.ext_iff]⟩
instance : EqE 1 prD := inferInstanceAs (EqE (max 0 0 + 1) fun p : Int × Int => D.tup [D.int p.1, D.int p.2])
theorem eq_enc [h : EqE n e] (a b : α) (hn : n ≤ 9 := by decide) : eqOp (e a) (e b) = some (decide (a = b)) := by
  unfold eqOp
  rw [ok_le hn (h.ok a), ok_le hn (h.ok b)]
  exact congrArg some (h.eqv a b)
theorem in_enc [h : EqE n e] (a : α) (l : List α) (hn : n ≤ 9 := by decide) : inOp (e a) (.tup (l.map e)) = some (decide (a ∈ l)) ∧ inOp (e a) (.lst (l.map e)) = some (decide (a ∈ l)) := by
  have h1 : (l.map e).all (D.ok 9) = true := by
    rw [List.all_map]
    exact List.all_eq_true.mpr fun x _ => ok_le hn (h.ok x)
  have h2 : ((l.map e).any fun d => PyData.eqv d.py (e a).py) = decide (a ∈ l) := by
    rw [List.any_map]
    rw [Bool.eq_iff_iff, List.any_eq_true, decide_eq_true_eq]
    constructor
    · rintro ⟨x, hx, q⟩
      have q : PyData.eqv (e x).py (e a).py = true := q
      rw [h.eqv, decide_eq_true_eq] at q
      exact q ▸ hx
    · intro hx
      refine ⟨a, hx, ?_⟩
      show PyData.eqv (e a).py (e a).py = true
      rw [h.eqv, decide_eq_true_eq]
  unfold inOp
  simp only [z_seq1, z_seq2]
  rw [ok_le hn (h.ok a), h1, h2]
  exact ⟨rfl, rfl⟩
theorem cnt_enc [h : EqE n e] (a : α) (l : List α) (hn : n ≤ 9 := by decide) : qOp false (l.map e) (e a) = some ((l.count a : Nat) : Int) := by
  have h1 : (l.map e).all (D.ok 9) = true := by
    rw [List.all_map]
    exact List.all_eq_true.mpr fun x _ => ok_le hn (h.ok x)
  unfold qOp
  rw [ok_le hn (h.ok a), h1, List.countP_map]
  have : ((fun d : D => PyData.eqv d.py (e a).py) ∘ e) = fun x => x == a := by
    funext x
    show PyData.eqv (e x).py (e a).py = _
    rw [h.eqv]
    rfl
  rw [this]
  rfl
theorem idx_enc [h : EqE n e] (a : α) (l : List α) (ha : a ∈ l) (hn : n ≤ 9 := by decide) : qOp true (l.map e) (e a) = some ((l.idxOf a : Nat) : Int) := by
  have h1 : (l.map e).all (D.ok 9) = true := by
    rw [List.all_map]
    exact List.all_eq_true.mpr fun x _ => ok_le hn (h.ok x)
  unfold qOp
  rw [ok_le hn (h.ok a), h1]
  have h2 : (l.map e).findIdx? (fun d => PyData.eqv d.py (e a).py) = l.findIdx? fun x => x == a := by
    rw [List.findIdx?_map]
    congr 1
    funext x
    show PyData.eqv (e x).py (e a).py = _
    rw [h.eqv]
    rfl
  have h3 : l.findIdx? (fun x => x == a) = some (l.idxOf a) := by
    rw [List.findIdx?_eq_some_iff_getElem]
    have hj : l.idxOf a < l.length := List.idxOf_lt_length_iff.mpr ha
    refine ⟨hj, by simp [List.getElem_idxOf hj], fun j hj' => ?_⟩
    have := List.not_of_lt_findIdx (xs := l) (p := fun x => x == a) (i := j) hj'
    simpa using this
  simp [h2, h3]
end
@[simp] theorem cnt_int (a : Int) (l : List Int) : qOp false (l.map D.int) (.int a) = some ((l.count a : Nat) : Int) := cnt_enc (e := D.int) a l
@[simp] theorem eq_int (a b : Int) : eqOp (.int a) (.int b) = some (decide (a = b)) := eq_enc (e := D.int) a b
@[simp] theorem eq_bl (a b : Bool) : eqOp (.bl a) (.bl b) = some (decide (a = b)) := eq_enc (e := D.bl) a b
@[simp] theorem eq_lot (a b : List Int) : eqOp (.tup (a.map D.int)) (.tup (b.map D.int)) = some (decide (a = b)) := eq_enc (e := fun l : List Int => D.tup (l.map D.int)) a b
@[simp] theorem eq_lotN (a : List Int) : eqOp (.tup (a.map D.int)) (.tup []) = some (decide (a = [])) := eq_lot a []
@[simp] theorem eq_lotL (a b : List Int) : eqOp (.lst (a.map D.int)) (.lst (b.map D.int)) = some (decide (a = b)) := eq_enc (e := fun l : List Int => D.lst (l.map D.int)) a b
@[simp] theorem eq_lots (a b : List (List Int)) : eqOp (.tup (a.map dI)) (.tup (b.map dI)) = some (decide (a = b)) := eq_enc (e := fun l : List (List Int) => D.tup (l.map dI)) a b
@[simp] theorem in_ints (a : Int) (l : List Int) : inOp (.int a) (.tup (l.map D.int)) = some (decide (a ∈ l)) := (in_enc (e := D.int) a l).1
@[simp] theorem in_intsL (a : Int) (l : List Int) : inOp (.int a) (.lst (l.map D.int)) = some (decide (a ∈ l)) := (in_enc (e := D.int) a l).2
@[simp] theorem in_lots (a : List Int) (l : List (List Int)) : inOp (.tup (a.map D.int)) (.lst (l.map dI)) = some (decide (a ∈ l)) := (in_enc (e := dI) a l).2.trans (by congr)
theorem in_prs (a b : Int) (l : List (Int × Int)) : inOp (.tup [.int a, .int b]) (.tup (l.map prD)) = some (decide ((a, b) ∈ l)) := (in_enc (e := prD) (a, b) l).1.trans (by congr)
theorem in_two (a x y : Int) : inOp (.int a) (.tup [.int x, .int y]) = some (decide (a = x ∨ a = y)) := by
  have := in_ints a [x, y]
  simp only [List.map_cons, List.map_nil, List.mem_cons, List.not_mem_nil, or_false] at this
  exact this
@[simp] theorem bi_sorted (l : List Int) : biOp .sorted [.lst (l.map D.int)] = some (.new (.lst ((sortI l).map D.int))) := by
  simp [biOp, intsOf_mapI]
theorem prsOf_mapP : ∀ l : List (Int × Int), prsOf (l.map prD) = some l
  | [] => rfl
  | p :: l => by
    unfold prsOf
    simp only [List.map_cons, prsOf_mapP l]
    rfl
theorem bi_sortedP {l : List (Int × Int)} : biOp .sorted [.lst (l.map prD)] = some (.new (.lst ((sortP l).map prD))) := by
  cases l with
  | nil => rfl
  | cons p l =>
    have : intsOf ((p :: l).map prD) = none := rfl
    simp only [biOp, this, prsOf_mapP]
theorem blsOf_mapB : ∀ l : List Bool, blsOf (l.map D.bl) = some l
  | [] => rfl
  | b :: l => by
    unfold blsOf
    simp only [List.map_cons, blsOf_mapB l]
    rfl
@[simp] theorem bi_all (l : List Bool) : biOp .all [.lst (l.map D.bl)] = some (.val (.bl (l.all id))) := by simp only [biOp, blsOf_mapB]
@[simp] theorem bi_any (l : List Bool) : biOp .any [.lst (l.map D.bl)] = some (.val (.bl (l.any id))) := by simp only [biOp, blsOf_mapB]
@[simp] theorem bi_sum (l : List Int) : biOp .sum [.lst (l.map D.int)] = some (.val (.int l.sum)) := by simp only [biOp, intsOf_mapI]
@[simp] theorem bi_allC {α : Type} (l : List α) (g : α → Bool) : biOp .all [.lst (l.map (D.bl ∘ g))] = some (.val (.bl (l.all g))) := by
  have := bi_all (l.map g)
  rwa [List.map_map, List.all_map] at this
@[simp] theorem bi_allF {α : Type} (l : List α) (g : α → Bool) : biOp .all [.lst (l.map fun x => D.bl (g x))] = some (.val (.bl (l.all g))) := bi_allC l g
@[simp] theorem bi_anyC {α : Type} (l : List α) (g : α → Bool) : biOp .any [.lst (l.map (D.bl ∘ g))] = some (.val (.bl (l.any g))) := by
  have := bi_any (l.map g)
  rwa [List.map_map, List.any_map] at this
@[simp] theorem bi_anyF {α : Type} (l : List α) (g : α → Bool) : biOp .any [.lst (l.map fun x => D.bl (g x))] = some (.val (.bl (l.any g))) := bi_anyC l g
@[simp] theorem bi_sortedC {α : Type} (l : List α) (g : α → Int) : biOp .sorted [.lst (l.map (D.int ∘ g))] = some (.new (.lst ((sortI (l.map g)).map D.int))) := by
  have := bi_sorted (l.map g)
  rwa [List.map_map] at this
theorem ix_nat {l : List D} (i : Nat) : ixOp (.tup l) (.int i) = l[i]? ∧ ixOp (.lst l) (.int i) = l[i]? := by
  simp only [ixOp, atI, ixN]
  rw [if_pos (by omega)]
  split
  · exact ⟨rfl, rfl⟩
  · rename_i h
    rw [List.getElem?_eq_none (by omega)]
    exact ⟨rfl, rfl⟩
@[simp] theorem ix_t0 (a : D) (l : List D) : ixOp (.tup (a :: l)) (.int 0) = some a := ixt0
@[simp] theorem ix_t1 (a b : D) (l : List D) : ixOp (.tup (a :: b :: l)) (.int 1) = some b := ixt1
@[simp] theorem ix_l0 (a : D) (l : List D) : ixOp (.lst (a :: l)) (.int 0) = some a := ixl0
@[simp] theorem ix_l1 (a b : D) (l : List D) : ixOp (.lst (a :: b :: l)) (.int 1) = some b := ixl1
@[simp] theorem ix_l2 (a b c : D) (l : List D) : ixOp (.lst (a :: b :: c :: l)) (.int 2) = some c := ixl2
theorem ix_last {l : List D} {d : D} : ixOp (.lst (l ++ [d])) (.int (-1)) = some d ∧ ixOp (.tup (l ++ [d])) (.int (-1)) = some d := by
  simp only [ixOp, atI, ixN]
  rw [if_neg (by omega), if_pos (by simp; omega)]
  have : ((-1 : Int) + ((l ++ [d]).length : Nat)).toNat = l.length := by simp; omega
  rw [this]
  simp

/-! ### comprehensions and loops -/
section
variable {Φ : Nat → Fn} {α β σ : Type}
theorem backS_self : ∀ {vs : List Nat} {env : En}, backS env env vs = env
  | [], _ => rfl
  | v :: vs, env => by
    unfold backS
    cases e : env[v]? with
    | none => simp only; exact backS_self
    | some s =>
      simp only
      rw [backS_self]
      obtain ⟨hv, rfl⟩ := List.getElem?_eq_some_iff.mp e
      exact List.set_getElem_self hv
theorem lcGo_tp {f : D → En → Option (Option D × En)} {env : En} {e : α → D} {e' : β → D} : ∀ {xs : List α} (o : α → Option β), (∀ x ∈ xs, f (e x) env = some ((o x).map e', env)) → lcGo f (xs.map e) env = some ((xs.filterMap o).map e', env)
  | [], _, _ => rfl
  | x :: xs, o, h => by
    rw [List.map_cons]
    unfold lcGo
    rw [h x List.mem_cons_self]
    simp only
    rw [lcGo_tp o fun y hy => h y (List.mem_cons_of_mem _ hy)]
    simp only [List.filterMap_cons]
    cases o x <;> rfl
/-- [elt for x in xs if ..], nothing in the slots changed -/
theorem lc_tp {vs : List Nat} {tg : T} {it cs elt : E} {env : En} (e : α → D) (e' : β → D) (o : α → Option β) {xs : List α} (hit : itStart Φ it env = some (xs.map e, none, env)) (hl : xs.length ≤ 4000000) (hw : wipeS env vs = env)
    (h : ∀ x ∈ xs, lcF Φ vs tg cs elt (e x) env = some ((o x).map e', env)) : evE Φ (.lc vs tg it cs elt) env = some (.new (.lst ((xs.filterMap o).map e')), env) := by
  rw [q_lc, hit]
  simp only
  rw [if_pos (by rw [List.length_map]; exact hl), hw, lcGo_tp o h]
  simp only [backS_self]
  rfl
theorem lc_map {vs : List Nat} {tg : T} {it cs elt : E} {env : En} (e : α → D) (e' : β → D) (g : α → β) {xs : List α} (hit : itStart Φ it env = some (xs.map e, none, env)) (hl : xs.length ≤ 4000000) (hw : wipeS env vs = env)
    (h : ∀ x ∈ xs, lcF Φ vs tg cs elt (e x) env = some (some (e' (g x)), env)) : evE Φ (.lc vs tg it cs elt) env = some (.new (.lst ((xs.map g).map e')), env) := by
  have := lc_tp (Φ := Φ) e e' (fun x => some (g x)) hit hl hw h
  rw [this, List.filterMap_eq_map']
theorem lc_filter {vs : List Nat} {tg : T} {it cs elt : E} {env : En} (e : α → D) (c : α → Bool) {xs : List α} (hit : itStart Φ it env = some (xs.map e, none, env)) (hl : xs.length ≤ 4000000) (hw : wipeS env vs = env)
    (h : ∀ x ∈ xs, lcF Φ vs tg cs elt (e x) env = some (if c x then some (e x) else none, env)) : evE Φ (.lc vs tg it cs elt) env = some (.new (.lst ((xs.filter c).map e)), env) := by
  have := lc_tp (Φ := Φ) e e (fun x => if c x then some x else none) hit hl hw fun x hx => by rw [h x hx]; split <;> rfl
  rw [this]
  congr 6
  clear this h hit hl
  induction xs with
  | nil => rfl
  | cons x xs ih =>
    rw [List.filterMap_cons, List.filter_cons]
    cases c x
    · simpa using ih
    · simpa using ih
/-- .. over a list of one's own, locked meanwhile -/
theorem lc_tpL {vs : List Nat} {tg : T} {i : Nat} {cs elt : E} {env : En} (e : α → D) (e' : β → D) (o : α → Option β) {f : Bool} {xs : List α} (hi : env[i]? = some (.own f (.lst (xs.map e)))) (hl : xs.length ≤ 4000000) (hw : wipeS env vs = env) (hv : i ∉ vs)
    (h : ∀ x ∈ xs, lcF Φ vs tg cs elt (e x) (env.set i (.lck f (.lst (xs.map e)))) = some ((o x).map e', env.set i (.lck f (.lst (xs.map e))))) : evE Φ (.lc vs tg (.var i) cs elt) env = some (.new (.lst ((xs.filterMap o).map e')), env) := by
  have hit : itStart Φ (.var i) env = some (xs.map e, some i, env.set i (.lck f (.lst (xs.map e)))) := by
    simp [itStart, dictIt, hi]
  have lt : i < env.length := by
    obtain ⟨h, _⟩ := List.getElem?_eq_some_iff.mp hi
    exact h
  have hw2 : wipeS (env.set i (.lck f (.lst (xs.map e)))) vs = env.set i (.lck f (.lst (xs.map e))) := by
    have key : ∀ {vs : List Nat} {en : En}, i ∉ vs → wipeS (en.set i (.lck f (.lst (xs.map e)))) vs = (wipeS en vs).set i (.lck f (.lst (xs.map e))) := by
      intro vs
      induction vs with
      | nil => intro en _; rfl
      | cons v vs ih =>
        intro en hn
        rw [z_wipe1, z_wipe1, ih (fun z => hn (List.mem_cons_of_mem _ z)), List.set_comm]
        exact fun z => hn (by rw [z]; exact List.mem_cons_self)
    rw [key hv, hw]
  rw [q_lc, hit]
  simp only
  rw [if_pos (by rw [List.length_map]; exact hl), hw2, lcGo_tp o h]
  simp only [backS_self]
  have : freeS (some i) (env.set i (.lck f (.lst (xs.map e)))) = env := by
    rw [z_free1, List.getElem?_set_self lt]
    simp only [List.set_set]
    obtain ⟨hv, q⟩ := List.getElem?_eq_some_iff.mp hi
    rw [← q]
    exact List.set_getElem_self hv
  rw [this]
theorem fm_filter (c : α → Bool) : ∀ xs : List α, (xs.filterMap fun x => if c x then some x else none) = xs.filter c
  | [] => rfl
  | x :: xs => by
    rw [List.filterMap_cons, List.filter_cons, fm_filter c xs]
    cases c x <;> rfl
theorem lc_filterL {vs : List Nat} {tg : T} {i : Nat} {cs elt : E} {env : En} (e : α → D) (c : α → Bool) {f : Bool} {xs : List α} (hi : env[i]? = some (.own f (.lst (xs.map e)))) (hl : xs.length ≤ 4000000) (hw : wipeS env vs = env) (hv : i ∉ vs)
    (h : ∀ x ∈ xs, lcF Φ vs tg cs elt (e x) (env.set i (.lck f (.lst (xs.map e)))) = some (if c x then some (e x) else none, env.set i (.lck f (.lst (xs.map e))))) : evE Φ (.lc vs tg (.var i) cs elt) env = some (.new (.lst ((xs.filter c).map e)), env) := by
  rw [← fm_filter]
  exact lc_tpL e e (fun x => if c x then some x else none) hi hl hw hv fun x hx => by rw [h x hx]; split <;> rfl
theorem lc_mapL {vs : List Nat} {tg : T} {i : Nat} {cs elt : E} {env : En} (e : α → D) (e' : β → D) (g : α → β) {f : Bool} {xs : List α} (hi : env[i]? = some (.own f (.lst (xs.map e)))) (hl : xs.length ≤ 4000000) (hw : wipeS env vs = env) (hv : i ∉ vs)
    (h : ∀ x ∈ xs, lcF Φ vs tg cs elt (e x) (env.set i (.lck f (.lst (xs.map e)))) = some (some (e' (g x)), env.set i (.lck f (.lst (xs.map e))))) : evE Φ (.lc vs tg (.var i) cs elt) env = some (.new (.lst ((xs.map g).map e')), env) := by
  have := lc_tpL (Φ := Φ) e e' (fun x => some (g x)) hi hl hw hv h
  rw [this, List.filterMap_eq_map']
/-- a for loop that always runs to its end: its state -/
theorem forGo_fold {f : D → En → Option Out} {e : α → D} (en : σ → En) (P : σ → Prop) (st : σ → α → σ) : ∀ {xs : List α} {s : σ}, P s → (∀ s x, x ∈ xs → P s → f (e x) (en s) = some (.nx (en (st s x))) ∧ P (st s x)) → forGo f (xs.map e) (en s) = some (.nx (en (xs.foldl st s))) ∧ P (xs.foldl st s)
  | [], s, h, _ => ⟨rfl, h⟩
  | x :: xs, s, h, step => by
    obtain ⟨h1, h2⟩ := step s x List.mem_cons_self h
    rw [List.map_cons, List.foldl_cons]
    unfold forGo
    rw [h1]
    exact forGo_fold en P st h2 fun s y hy => step s y (List.mem_cons_of_mem _ hy)
/-- .. with an invariant over what is done -/
theorem forGo_run {f : D → En → Option Out} {e : α → D} (Q : List α → En → Prop) : ∀ {xs done : List α} {env : En}, Q done env → (∀ d x r env, done ++ xs = d ++ x :: r → Q d env → ∃ env', f (e x) env = some (.nx env') ∧ Q (d ++ [x]) env') → ∃ env', forGo f (xs.map e) env = some (.nx env') ∧ Q (done ++ xs) env'
  | [], done, env, h, _ => ⟨env, rfl, by simpa using h⟩
  | x :: xs, done, env, h, step => by
    obtain ⟨e1, h1, q1⟩ := step done x xs env rfl h
    obtain ⟨e2, h2, q2⟩ := forGo_run Q (xs := xs) (done := done ++ [x]) q1 fun d y r env he => step d y r env (by rw [← he]; simp)
    refine ⟨e2, ?_, by simpa using q2⟩
    rw [List.map_cons]
    unfold forGo
    rw [h1]
    exact h2
theorem range_D (r : Nat) : rangeD 0 r = (List.range r).map fun i => D.int ((i : Nat) : Int) := by
  unfold rangeD
  simp
theorem rng_one {i : Int} (h0 : 0 ≤ i) (h : i ≤ 2 ^ 40) : rngOf [.int i] = some (rangeD 0 i.toNat) := by
  simp only [rngOf]
  rw [if_pos (by omega)]
/-- 0, 1, .. -/
def upto (n : Nat) : List Int := (List.range n).map fun (i : Nat) => (i : Int)
theorem range_I (r : Nat) : rangeD 0 r = (upto r).map D.int := by
  rw [range_D, upto, List.map_map]
  rfl
@[simp] theorem rng_nat (r : Nat) (h : r ≤ 1000000) : rngOf [.int (r : Int)] = some ((upto r).map D.int) := by
  rw [rng_one (by omega) (by omega), Int.toNat_natCast, range_I]
theorem mem_upto {n : Nat} {x : Int} : x ∈ upto n ↔ 0 ≤ x ∧ x < n := by
  unfold upto
  rw [List.mem_map]
  constructor
  · rintro ⟨i, hi, rfl⟩
    have := List.mem_range.mp hi
    omega
  · intro h
    exact ⟨x.toNat, List.mem_range.mpr (by omega), by omega⟩
theorem len_upto (n : Nat) : (upto n).length = n := by simp [upto]
theorem asc_upto (n : Nat) : Asc (upto n) := by
  unfold upto
  rw [Asc, List.pairwise_map]
  exact List.pairwise_lt_range.imp fun h => by omega
end
theorem permD {α : Type} {e : α → D} : ∀ {ds : List D} {l : List α}, ds.Perm (l.map e) → ∃ ns : List α, ds = ns.map e ∧ ns.Perm l := by
  intro ds l h
  have key : ∀ {a b : List D}, a.Perm b → ∀ l : List α, b = l.map e → ∃ ns : List α, a = ns.map e ∧ ns.Perm l := by
    intro a b hab
    induction hab with
    | nil => intro l hl; exact ⟨[], rfl, by cases l with | nil => exact .refl _ | cons _ _ => cases hl⟩
    | cons x _ ih =>
      intro l hl
      cases l with
      | nil => cases hl
      | cons y l =>
        rw [List.map_cons] at hl
        cases hl
        obtain ⟨ns, h1, h2⟩ := ih l rfl
        exact ⟨y :: ns, by rw [h1]; rfl, h2.cons y⟩
    | swap x y r =>
      intro l hl
      match l, hl with
      | a :: b :: l, hl =>
        rw [List.map_cons, List.map_cons] at hl
        cases hl
        exact ⟨b :: a :: l, rfl, .swap a b l⟩
    | trans _ _ ih1 ih2 =>
      intro l hl
      obtain ⟨ns, h1, h2⟩ := ih2 l hl
      obtain ⟨ms, h3, h4⟩ := ih1 ns h1
      exact ⟨ms, h3, h4.trans h2⟩
  exact key h l rfl
end Mi

/-! MiCnt: counting by a dict; sums of lots by oddness. -/
namespace Mi
open PySem PySem.Spec PyProof.Rows L2

theorem valD_map {κ : Type} [DecidableEq κ] (k : κ) (v : D) (k' : κ) : ∀ kvs : List (κ × D), valD (kvs.map fun kv => if kv.1 = k then (kv.1, v) else kv) k' = if k = k' ∧ (valD kvs k').isSome then some v else valD kvs k'
  | [] => by simp [valD]
  | (a, d) :: r => by
    have ih := valD_map k v k' r
    rw [List.map_cons]
    by_cases h : a = k
    · subst h
      rw [if_pos rfl]
      simp only [valD]
      by_cases h2 : a = k'
      · simp [h2]
      · simp [h2, ih]
    · rw [if_neg h]
      simp only [valD]
      by_cases h2 : a = k'
      · subst h2
        have : ¬ k = a := fun z => h z.symm
        simp [this]
      · simp [h2, ih]
theorem valD_app {κ : Type} [DecidableEq κ] (k : κ) (v : D) (k' : κ) : ∀ kvs : List (κ × D), valD (kvs ++ [(k, v)]) k' = match valD kvs k' with | some d => some d | none => if k = k' then some v else none
  | [] => by simp [valD]
  | (a, d) :: r => by
    rw [List.cons_append]
    simp only [valD]
    by_cases h : a = k'
    · simp [h]
    · simp [h, valD_app k v k' r]
theorem any_valD {κ : Type} [DecidableEq κ] (k : κ) : ∀ kvs : List (κ × D), (kvs.any fun kv => decide (kv.1 = k)) = (valD kvs k).isSome
  | [] => rfl
  | (a, d) :: r => by
    rw [List.any_cons, any_valD k r]
    simp only [valD]
    by_cases h : a = k <;> simp [h]
theorem valD_put {κ : Type} [DecidableEq κ] (kvs : List (κ × D)) (k : κ) (v : D) (k' : κ) : valD (putD kvs k v) k' = if k = k' then some v else valD kvs k' := by
  unfold putD
  rw [any_valD]
  by_cases h : (valD kvs k).isSome = true
  · rw [if_pos h, valD_map]
    by_cases e : k = k'
    · subst e; simp [h]
    · simp [e]
  · rw [if_neg h, valD_app]
    by_cases e : k = k'
    · subst e
      have : valD kvs k = none := by simpa using h
      simp [this]
    · simp only [e, if_false]
      cases valD kvs k' <;> rfl
theorem keys_put {κ : Type} [DecidableEq κ] (kvs : List (κ × D)) (k : κ) (v : D) : (putD kvs k v).map (·.1) = if (valD kvs k).isSome = true then kvs.map (·.1) else kvs.map (·.1) ++ [k] := by
  unfold putD
  rw [any_valD]
  split
  · rw [List.map_map]
    refine List.map_congr_left fun a _ => ?_
    simp only [Function.comp]
    split <;> rfl
  · rw [List.map_append]; rfl
/-- the counts of l -/
structure Cnt (l : List Int) (kvs : List (Key × D)) : Prop where
  vl : ∀ x : Int, valD kvs (.inl x) = if x ∈ l then some (.int (l.count x : Nat)) else none
  ks : ∃ xs : List Int, kvs.map (·.1) = xs.map Sum.inl ∧ xs.Nodup ∧ ∀ x, x ∈ xs ↔ x ∈ l
theorem Cnt.nil : Cnt [] [] := ⟨fun x => by simp [valD], [], rfl, List.nodup_nil, fun x => Iff.rfl⟩
theorem Cnt.step {l : List Int} {kvs : List (Key × D)} (h : Cnt l kvs) (x : Int) : Cnt (l ++ [x]) (putD kvs (.inl x) (.int ((l.count x : Nat) + 1))) := by
  refine ⟨fun y => ?_, ?_⟩
  · rw [valD_put]
    by_cases e : x = y
    · subst e
      simp [List.count_append]
    · have e1 : ¬ (Sum.inl x : Key) = Sum.inl y := fun z => e (Sum.inl.inj z)
      have e2 : ¬ y = x := fun z => e z.symm
      rw [if_neg e1, h.vl]
      simp [List.count_append, e2, List.count_cons, e]
  · obtain ⟨xs, h1, h2, h3⟩ := h.ks
    rw [keys_put, h.vl]
    by_cases hx : x ∈ l
    · refine ⟨xs, by simp [hx, h1], h2, fun y => ?_⟩
      rw [h3]
      simp only [List.mem_append, List.mem_singleton]
      constructor
      · exact .inl
      · rintro (z | rfl)
        · exact z
        · exact hx
    · refine ⟨xs ++ [x], by simp [hx, h1], ?_, fun y => ?_⟩
      · refine List.nodup_append.mpr ⟨h2, by simp, fun a ha b hb => ?_⟩
        simp at hb
        subst hb
        exact fun z => hx ((h3 _).mp (z ▸ ha))
      · simp only [List.mem_append, List.mem_singleton, h3]
theorem nodup_len : ∀ {xs l : List Int}, xs.Nodup → (∀ x ∈ xs, x ∈ l) → xs.length ≤ l.length
  | [], _, _, _ => Nat.zero_le _
  | x :: xs, l, h, hs => by
    obtain ⟨h1, h2⟩ := List.nodup_cons.mp h
    have hx := hs x List.mem_cons_self
    have := nodup_len (l := l.erase x) h2 fun y hy => by
      have ne : y ≠ x := fun z => h1 (z ▸ hy)
      exact (List.mem_erase_of_ne ne).mpr (hs y (List.mem_cons_of_mem _ hy))
    rw [List.length_erase_of_mem hx] at this
    have : 0 < l.length := List.length_pos_of_mem hx
    rw [List.length_cons]
    omega
theorem Cnt.len {l : List Int} {kvs : List (Key × D)} (h : Cnt l kvs) : kvs.length ≤ l.length := by
  obtain ⟨xs, h1, h2, h3⟩ := h.ks
  have e : kvs.length = xs.length := by
    have := congrArg List.length h1
    simpa using this
  rw [e]
  exact nodup_len h2 fun x hx => (h3 x).mp hx
theorem asc_sortI {l : List Int} (h : l.Nodup) : Asc (sortI l) := by
  have h1 := sortI_asc l
  have h2 : (sortI l).Nodup := (sortI_perm l).nodup_iff.mpr h
  exact (h1.and h2).imp fun ⟨a, b⟩ => by omega

/-- a lot as a tuple or a list -/
def LotD (d : D) (ns : List Int) : Prop := d = .tup (ns.map D.int) ∨ d = .lst (ns.map D.int)
theorem LotD.lst {d : D} {ns : List Int} (h : LotD d ns) : biOp .list [d] = some (.new (.lst (ns.map D.int))) := by
  rcases h with rfl | rfl <;> rfl
theorem LotD.seq {d : D} {ns : List Int} (h : LotD d ns) : d.seq? = some (ns.map D.int) := by
  rcases h with rfl | rfl <;> rfl
theorem paired_map {α β γ : Type} {F : β → γ → Prop} {f : α → β} {g : α → γ} : ∀ (l : List α), (∀ x ∈ l, F (f x) (g x)) → Paired F (l.map f) (l.map g)
  | [], _ => .nil
  | x :: l, h => .cons (h x List.mem_cons_self) (paired_map l fun y hy => h y (List.mem_cons_of_mem _ hy))
theorem paired_app {β γ : Type} {F : β → γ → Prop} : ∀ {a : List β} {b : List γ} {a' : List β} {b' : List γ}, Paired F a b → Paired F a' b' → Paired F (a ++ a') (b ++ b')
  | _, _, _, _, .nil, h => h
  | _, _, _, _, .cons r t, h => .cons r (paired_app t h)
theorem lots_dI (ls : List (List Int)) : Paired LotD (ls.map dI) ls := by
  have := paired_map (F := LotD) (f := dI) (g := id) ls fun x _ => .inl rfl
  rwa [List.map_id] at this
theorem lots_lI (ls : List (List Int)) : Paired LotD (ls.map lI) ls := by
  have := paired_map (F := LotD) (f := lI) (g := id) ls fun x _ => .inr rfl
  rwa [List.map_id] at this
theorem dd_len : ∀ (l : List Int) (p : Option Int), (dd p l).length ≤ l.length
  | [], _ => Nat.le_refl _
  | x :: l, p => by
    unfold dd
    have := dd_len l (some x)
    split
    · rw [List.length_cons]; omega
    · rw [List.length_cons, List.length_cons]; omega
theorem len_oddS (l : List Int) : (oddS l).length ≤ l.length := by
  unfold oddS
  refine Nat.le_trans (List.length_filter_le _ _) (Nat.le_trans (dd_len _ _) ?_)
  rw [(sortI_perm l).length_eq]
  exact Nat.le_refl _
/-- what is walked: a list, a tuple, a list of the caller's -/
inductive SqA (ds : List D) : Arg → List MO → Prop
  | l : SqA ds (.dat (.lst ds)) []
  | t : SqA ds (.dat (.tup ds)) []
  | o : SqA ds (.own (.lst ds)) [.lst ds]
/-- the sum by a dict -/
def sumS1 : S := (.seq (.seq (.put (.var 1) (.var 3) (.bin .add (.dget (.var 1) (.var 3) (.cst (.int 0))) (.cst (.int 1)))) .nop) (.wipe [3]))
def sumS2 : S := (.seq (.seq (.seq (.for_ (.nm 3) (.var 2) sumS1) (.wipe [3])) .nop) (.wipe [2, 3]))
theorem sum_turn (Φ : Nat → Fn) (s0 : Slot) (lot : D) {l : List Int} {kvs : List (Key × D)} (h : Cnt l kvs) (hl : l.length < 4000000) (x : Int) : ∃ kvs', Cnt (l ++ [x]) kvs' ∧ forF Φ (.nm 3) sumS1 (.int x) [s0, .own true (.dK kvs), .dat lot, .un] = some (.nx [s0, .own true (.dK kvs'), .dat lot, .un]) := by
  refine ⟨_, h.step x, ?_⟩
  have hk := h.len
  have hz : kvs.length < 4000000 := by omega
  have hv : (valD kvs (.inl x)).getD (.int 0) = .int (l.count x : Nat) := by
    rw [h.vl]
    by_cases hx : x ∈ l
    · simp [hx]
    · simp [hx, List.count_eq_zero_of_not_mem hx]
  simp [forF, sumS1, dlook, hv, putAt, dput, hz]
theorem sum_loop1 (Φ : Nat → Fn) (s0 : Slot) (lot : D) : ∀ (xs : List Int) {l : List Int} {kvs : List (Key × D)}, Cnt l kvs → l.length + xs.length < 4000000 →
    ∃ kvs', Cnt (l ++ xs) kvs' ∧ forGo (forF Φ (.nm 3) sumS1) (xs.map D.int) [s0, .own true (.dK kvs), .dat lot, .un] = some (.nx [s0, .own true (.dK kvs'), .dat lot, .un])
  | [], l, kvs, h, _ => ⟨kvs, by rw [List.append_nil]; exact h, rfl⟩
  | x :: xs, l, kvs, h, hl => by
    obtain ⟨k1, h1, e1⟩ := sum_turn Φ s0 lot h (by rw [List.length_cons] at hl; omega) x
    obtain ⟨k2, h2, e2⟩ := sum_loop1 Φ s0 lot xs h1 (by simp at hl ⊢; omega)
    refine ⟨k2, by simpa using h2, ?_⟩
    rw [List.map_cons]
    unfold forGo
    rw [e1]
    exact e2
theorem sum_loop2 (Φ : Nat → Fn) (s0 : Slot) : ∀ {lots : List D} {nss : List (List Int)} {l : List Int} {kvs : List (Key × D)}, Paired LotD lots nss → Cnt l kvs → l.length + nss.flatten.length < 4000000 →
    ∃ kvs', Cnt (l ++ nss.flatten) kvs' ∧ forGo (forF Φ (.nm 2) sumS2) lots [s0, .own true (.dK kvs), .un, .un] = some (.nx [s0, .own true (.dK kvs'), .un, .un])
  | _, _, l, kvs, .nil, h, _ => ⟨kvs, by simpa using h, rfl⟩
  | _, _, l, kvs, .cons (a := d) (b := ns) (l₁ := lots) (l₂ := nss) r t, h, hl => by
    rw [List.flatten_cons, List.length_append] at hl
    obtain ⟨k1, h1, e1⟩ := sum_loop1 Φ s0 d ns h (by omega)
    obtain ⟨k2, h2, e2⟩ := sum_loop2 Φ s0 t h1 (by rw [List.length_append]; omega)
    refine ⟨k2, by rw [List.flatten_cons, ← List.append_assoc]; exact h2, ?_⟩
    have es := r.seq
    have e3 : forF Φ (.nm 2) sumS2 d [s0, .own true (.dK kvs), .un, .un] = some (.nx [s0, .own true (.dK k1), .un, .un]) := by
      simp [forF, sumS2, itStart, dictIt, es, e1]
    unfold forGo
    rw [e3]
    exact e2
def sumE : E := (.lc [3] (.nm 3) (.var 1) (.acons (.cmp .eq (.bin .mod (.ix (.var 1) (.var 3)) (.cst (.int 2))) (.cst (.int 1))) .anil) (.var 3))
def sumE' : E := (.lc [3] (.nm 3) (.var 1) (.acons (.cmp .eq (.bin .mod (.ix (.var 1) (.var 3)) (.cst (.int 2))) (.cst (.int 1))) .anil) (.bi .int (.acons (.var 3) .anil)))
def sumBody (e : E) : S := (.seq (.asg (.nm 1) (.dnew false)) (.seq (.seq (.for_ (.nm 2) (.var 0) sumS2) (.wipe [2, 3])) (.seq (.ret (.bi .tuple (.acons (.bi .sorted (.acons e .anil)) .anil))) .nop)))
theorem mod2 {i : Nat} : binOp .mod (.int (i : Int)) (.int 2) = some (.val (.int ((i : Int) % 2))) := by
  rw [mod_ev (by decide), Int.fmod_eq_emod_of_nonneg _ (by decide)]
theorem sum_odds (Φ : Nat → Fn) (s0 : Slot) {l : List Int} {kvs : List (Key × D)} (h : Cnt l kvs) (hl : l.length < 4000000) {e : E} (he : e = sumE ∨ e = sumE') :
    ∃ xs : List Int, xs.Nodup ∧ (∀ x, x ∈ xs ↔ par l x = true) ∧ evE Φ e [s0, .own true (.dK kvs), .un, .un] = some (.new (.lst (xs.map D.int)), [s0, .own true (.dK kvs), .un, .un]) := by
  obtain ⟨xs, h1, h2, h3⟩ := h.ks
  refine ⟨xs.filter fun x => par l x, h2.filter _, fun x => ?_, ?_⟩
  · rw [List.mem_filter, h3]
    constructor
    · exact fun z => z.2
    · intro z
      refine ⟨?_, z⟩
      unfold par at z
      refine List.count_pos_iff.mp ?_
      have : l.count x % 2 = 1 := by simpa using z
      omega
  · have hks : (kvs.map fun p => keyD p.1) = xs.map D.int := by
      have : (kvs.map fun p => keyD p.1) = (kvs.map (·.1)).map keyD := by rw [List.map_map]; rfl
      rw [this, h1, List.map_map]
      rfl
    have hlen : xs.length ≤ 4000000 := by
      have := h.len
      have e : kvs.length = xs.length := by
        have := congrArg List.length h1
        simpa using this
      omega
    have turn : ∀ x ∈ xs, lcF Φ [3] (.nm 3) (.acons (.cmp .eq (.bin .mod (.ix (.var 1) (.var 3)) (.cst (.int 2))) (.cst (.int 1))) .anil) (.var 3) (.int x) [s0, .lck true (.dK kvs), .un, .un] = some (if par l x then some (.int x) else none, [s0, .lck true (.dK kvs), .un, .un])
        ∧ lcF Φ [3] (.nm 3) (.acons (.cmp .eq (.bin .mod (.ix (.var 1) (.var 3)) (.cst (.int 2))) (.cst (.int 1))) .anil) (.bi .int (.acons (.var 3) .anil)) (.int x) [s0, .lck true (.dK kvs), .un, .un] = some (if par l x then some (.int x) else none, [s0, .lck true (.dK kvs), .un, .un]) := by
      intro x hx
      have hv : valD kvs (.inl x) = some (.int (l.count x : Nat)) := by rw [h.vl, if_pos ((h3 x).mp hx)]
      have hp : decide (((l.count x : Nat) : Int) % 2 = 1) = par l x := by
        unfold par
        rw [Bool.eq_iff_iff]
        simp only [decide_eq_true_eq, beq_iff_eq]
        omega
      have m2 := mod2 (i := l.count x)
      cases hq : par l x
      · rw [hq] at hp
        have hp : ¬ ((l.count x : Nat) : Int) % 2 = 1 := by simpa only [decide_eq_false_iff_not] using hp
        constructor <;> simp [lcF, dix, dlook, hv, m2, hp]
      · rw [hq] at hp
        have hp : ((l.count x : Nat) : Int) % 2 = 1 := by simpa only [decide_eq_true_eq] using hp
        constructor <;> simp [lcF, dix, dlook, hv, m2, hp]
    have go : ∀ el, (∀ x ∈ xs, lcF Φ [3] (.nm 3) (.acons (.cmp .eq (.bin .mod (.ix (.var 1) (.var 3)) (.cst (.int 2))) (.cst (.int 1))) .anil) el (.int x) [s0, .lck true (.dK kvs), .un, .un] = some (if par l x then some (.int x) else none, [s0, .lck true (.dK kvs), .un, .un])) →
        evE Φ (.lc [3] (.nm 3) (.var 1) (.acons (.cmp .eq (.bin .mod (.ix (.var 1) (.var 3)) (.cst (.int 2))) (.cst (.int 1))) .anil) el) [s0, .own true (.dK kvs), .un, .un] = some (.new (.lst ((xs.filter fun x => par l x).map D.int)), [s0, .own true (.dK kvs), .un, .un]) := by
      intro el ht
      have := lcGo_tp (f := lcF Φ [3] (.nm 3) (.acons (.cmp .eq (.bin .mod (.ix (.var 1) (.var 3)) (.cst (.int 2))) (.cst (.int 1))) .anil) el) (e := D.int) (e' := D.int) (fun x => if par l x then some x else none) (xs := xs) (env := [s0, .lck true (.dK kvs), .un, .un]) fun x hx => by rw [ht x hx]; split <;> rfl
      rw [q_lc]
      simp [itStart, dictIt, hks, hlen, this, backS]
      clear this ht turn hlen hks h1 h2 h3
      induction xs with
      | nil => rfl
      | cons x xs ih =>
        rw [List.filterMap_cons, List.filter_cons]
        cases par l x
        · simpa using ih
        · simpa using ih
    rcases he with rfl | rfl
    · exact go _ fun x hx => (turn x hx).1
    · exact go _ fun x hx => (turn x hx).2
/-- sum_by, and the law's own sum by a dict -/
theorem sum_main (Φ : Nat → Fn) {e : E} (he : e = sumE ∨ e = sumE') {a : Arg} {ms : List MO} {lots : List D} {nss : List (List Int)} (ha : SqA lots a ms) (h : Paired LotD lots nss) (h2 : nss.flatten.length ≤ 1000000) : semF Φ 1 4 (sumBody e) [a] = some (.val (dI (oddS nss.flatten)), ms) := by
  have key : ∀ {s0 : Slot}, ∃ kvs, Cnt nss.flatten kvs ∧ forGo (forF Φ (.nm 2) sumS2) lots [s0, .own true (.dK []), .un, .un] = some (.nx [s0, .own true (.dK kvs), .un, .un]) := fun {s0} => by
    obtain ⟨kvs, h1, e1⟩ := sum_loop2 Φ s0 h Cnt.nil (by rw [List.length_nil]; omega)
    exact ⟨kvs, by simpa using h1, e1⟩
  have fin : ∀ {s0 : Slot} {kvs : List (Key × D)}, Cnt nss.flatten kvs → evE Φ (.bi .tuple (.acons (.bi .sorted (.acons e .anil)) .anil)) [s0, .own true (.dK kvs), .un, .un] = some (.val (dI (oddS nss.flatten)), [s0, .own true (.dK kvs), .un, .un]) := fun {s0 kvs} hc => by
    obtain ⟨xs, n1, n2, ev⟩ := sum_odds Φ s0 hc (by omega) he
    have : oddS nss.flatten = sortI xs := oddS_of (asc_sortI n1) fun x => by
      rw [par_asc (asc_sortI n1)]
      cases hq : par nss.flatten x with
      | true => simp [(sortI_perm xs).mem_iff, (n2 x).mpr hq]
      | false =>
        have : x ∉ xs := fun z => by rw [(n2 x).mp z] at hq; cases hq
        simp [(sortI_perm xs).mem_iff, this]
    rw [this]
    simp [ev]
  cases ha with
  | l =>
    obtain ⟨kvs, hc, e1⟩ := key (s0 := .dat (.lst lots))
    have e2 := fin (s0 := .dat (.lst lots)) hc
    simp [-q_bi15] at e2 ⊢
    simp [sumBody, itStart, dictIt, e1, e2, -q_bi15]
  | t =>
    obtain ⟨kvs, hc, e1⟩ := key (s0 := .dat (.tup lots))
    have e2 := fin (s0 := .dat (.tup lots)) hc
    simp [-q_bi15] at e2 ⊢
    simp [sumBody, itStart, dictIt, e1, e2, -q_bi15]
  | o =>
    obtain ⟨kvs, hc, e1⟩ := key (s0 := .lck false (.lst lots))
    have e2 := fin (s0 := .own false (.lst lots)) hc
    simp [-q_bi15] at e2 ⊢
    simp [sumBody, itStart, dictIt, e1, e2, -q_bi15]
end Mi

/-! MiWeb: checks of data, webs, reaches, sums: what each def gives. -/
namespace Mi
open PySem PySem.Spec PyProof.Rows L2

/-! ### checks of data -/
def isInt (d : D) : Bool := match d with
  | .int _ => true
  | _ => false
def betw (lo hi : Int) (d : D) : Bool := match d with
  | .int i => decide (lo ≤ i) && decide (i ≤ hi)
  | _ => false
def areB (lo hi : Int) (d : D) : Bool := match d with
  | .tup ds => ds.all (betw lo hi)
  | _ => false
/-- no tuple in it is too long to be walked -/
def szn : Nat → D → Bool
  | 0, _ => true
  | n + 1, .tup ds => decide (ds.length ≤ 4000000) && ds.all (szn n)
  | _ + 1, .wtup _ => false
  | _ + 1, _ => true
abbrev sz (d : D) : Bool := szn 3 d
theorem szn_tup {n : Nat} {ds : List D} (h : szn (n + 1) (.tup ds) = true) : ds.length ≤ 4000000 ∧ ∀ d ∈ ds, szn n d = true := by
  simpa [szn] using h
def C_is_integer (F : Fn) : Prop := ∀ d, F [.dat d] = some (.val (.bl (isInt d)), [])
theorem L_is_integer {Φ : Nat → Fn} : C_is_integer (semF Φ 1 1 B_is_integer) := fun d => by
  cases d <;> simp [B_is_integer, D.isA, isInt]
def C_is_between (F : Fn) : Prop := ∀ d (lo hi : Int), F [.dat d, .dat (.int lo), .dat (.int hi)] = some (.val (.bl (betw lo hi d)), [])
theorem L_is_between {Φ : Nat → Fn} {i : Nat} (h : C_is_integer (Φ i)) : C_is_between (semF Φ 3 3 (B_is_between i)) := fun d lo hi => by
  cases d with
  | int x => by_cases c : lo ≤ x <;> simp [B_is_between, h _, isInt, betw, c]
  | _ => simp [B_is_between, h _, isInt, betw]
def C_are_between (F : Fn) : Prop := ∀ d (lo hi : Int), szn 1 d = true → F [.dat d, .dat (.int lo), .dat (.int hi)] = some (.val (.bl (areB lo hi d)), [])
theorem L_are_between {Φ : Nat → Fn} {i : Nat} (h : C_is_between (Φ i)) : C_are_between (semF Φ 3 4 (B_are_between i)) := fun d lo hi hd => by
  cases d with
  | tup ds =>
    have e1 : evE Φ (B_are_between_e1 i) [.dat (.tup ds), .dat (.int lo), .dat (.int hi), .un] = some (.new (.lst ((ds.map (betw lo hi)).map D.bl)), [.dat (.tup ds), .dat (.int lo), .dat (.int hi), .un]) :=
      lc_map (fun d => d) D.bl _ (by simp [itStart, dictIt]) (szn_tup hd).1 rfl fun x _ => by simp [lcF, h _]
    simp [B_are_between, e1, areB]
  | wtup ds => exact absurd hd (by simp [szn])
  | _ => simp [B_are_between, areB, D.isA]
theorem areB_ints {lo hi : Int} {d : D} (h : areB lo hi d = true) : ∃ ns : List Int, d = dI ns ∧ ∀ x ∈ ns, lo ≤ x ∧ x ≤ hi := by
  unfold areB at h
  split at h
  · rename_i ds
    induction ds with
    | nil => exact ⟨[], rfl, fun x hx => by cases hx⟩
    | cons a ds ih =>
      rw [List.all_cons, Bool.and_eq_true] at h
      obtain ⟨ns, e, hn⟩ := ih h.2
      have h1 := h.1
      unfold betw at h1
      split at h1
      · rename_i x
        refine ⟨x :: ns, by rw [dI] at e ⊢; rw [List.map_cons]; cases e; rfl, fun y hy => ?_⟩
        rcases List.mem_cons.mp hy with rfl | hy
        · simpa using h1
        · exact hn y hy
      · cases h1
  · cases h
theorem areB_dI {lo hi : Int} {l : List Int} : areB lo hi (dI l) = l.all fun x => decide (lo ≤ x) && decide (x ≤ hi) := by
  simp only [areB, List.all_map]
  rfl
/-- neighbours in order -/
def ascG {α : Type} (lt : α → α → Bool) (l : List α) : Bool := (l.zip (l.drop 1)).all fun p => lt p.1 p.2
def ltP (p q : Int × Int) : Bool := HT.lexLt [p.1, p.2] [q.1, q.2]
theorem cut_tail {l : List D} : cutD l (some 1) none = l.drop 1 := by
  unfold cutD HT.sIx
  cases l with
  | nil => rfl
  | cons a l => simp
theorem zip_map {α : Type} {e : α → D} (a b : List α) : List.zipWith (fun x y => D.wtup [x, y]) (a.map e) (b.map e) = (a.zip b).map fun p => D.wtup [e p.1, e p.2] := by
  rw [List.zipWith_map, List.zip, List.map_zipWith]
def C_is_ascending (F : Fn) : Prop := (∀ l : List Int, l.length ≤ 4000000 → F [.dat (dI l)] = some (.val (.bl (ascG (fun a b => decide (a < b)) l)), [])) ∧ (∀ l : List (Int × Int), l.length ≤ 4000000 → F [.dat (.tup (l.map prD))] = some (.val (.bl (ascG ltP l)), []))
theorem L_is_ascending {Φ : Nat → Fn} : C_is_ascending (semF Φ 1 3 B_is_ascending) := by
  refine ⟨fun l hl => ?_, fun l hl => ?_⟩
  · have e1 : evE Φ B_is_ascending_e1 [.dat (dI l), .un, .un] = some (.new (.lst (((l.zip (l.drop 1)).map fun p => decide (p.1 < p.2)).map D.bl)), [.dat (dI l), .un, .un]) := by
      refine lc_map (fun p : Int × Int => D.wtup [.int p.1, .int p.2]) D.bl _ ?_ ?_ rfl ?_
      · simp only [itStart, dictIt, q_zip29, q_slc13, q_var0, qo_acons1, qo_gone0, q_cst1, z_pk1, z_slc1, z_fz1, z_zip2, z_its1, cut_tail, List.getElem?_cons_zero, ← List.map_drop, zip_map]
      · simp; omega
      · rintro ⟨a, b⟩ _; simp [lcF]
    simp [B_is_ascending, e1, ascG, List.all_map, Function.comp_def]
  · have e1 : evE Φ B_is_ascending_e1 [.dat (.tup (l.map prD)), .un, .un] = some (.new (.lst (((l.zip (l.drop 1)).map fun p => ltP p.1 p.2).map D.bl)), [.dat (.tup (l.map prD)), .un, .un]) := by
      refine lc_map (fun p : (Int × Int) × (Int × Int) => D.wtup [prD p.1, prD p.2]) D.bl _ ?_ ?_ rfl ?_
      · simp only [itStart, dictIt, q_zip29, q_slc13, q_var0, qo_acons1, qo_gone0, q_cst1, z_pk1, z_slc1, z_fz1, z_zip2, z_its1, cut_tail, List.getElem?_cons_zero, ← List.map_drop, zip_map]
      · simp; omega
      · rintro ⟨⟨a, b⟩, ⟨c, d⟩⟩ _; simp [lcF, prD, cmpOp, intsOf, D.toInt?, ltP]
    simp [B_is_ascending, e1, ascG, List.all_map, Function.comp_def]
theorem ascG_asc : ∀ l : List Int, ascG (fun a b => decide (a < b)) l = decide (Asc l)
  | [] => by simp [ascG]
  | [a] => by simp [ascG]
  | a :: b :: l => by
    have ih := ascG_asc (b :: l)
    have h1 : ascG (fun a b => decide (a < b)) (a :: b :: l) = (decide (a < b) && ascG (fun a b => decide (a < b)) (b :: l)) := by simp [ascG]
    rw [h1, ih, Bool.eq_iff_iff]
    simp only [Bool.and_eq_true, decide_eq_true_eq]
    constructor
    · rintro ⟨h, q⟩
      refine List.pairwise_cons.mpr ⟨fun z hz => ?_, q⟩
      rcases List.mem_cons.mp hz with rfl | hz
      · exact h
      · have := (List.pairwise_cons.mp q).1 z hz
        omega
    · intro q
      exact ⟨(List.pairwise_cons.mp q).1 b List.mem_cons_self, (List.pairwise_cons.mp q).2⟩
theorem ltP_iff {p q : Int × Int} : ltP p q = true ↔ p.1 < q.1 ∨ (p.1 = q.1 ∧ p.2 < q.2) := by
  obtain ⟨a, b⟩ := p
  obtain ⟨c, d⟩ := q
  simp only [ltP, HT.lexLt]
  by_cases h : a < c
  · simp [h]
    omega
  · by_cases h2 : c < a
    · simp [h, h2]; omega
    · have : a = c := by omega
      subst this
      by_cases h3 : b < d
      · simp [h3]
        omega
      · by_cases h4 : d < b <;> simp [h3, h4]
abbrev AscS (l : List (Int × Int)) : Prop := l.Pairwise fun p q => ltP p q = true
theorem ascG_ascS : ∀ l : List (Int × Int), ascG ltP l = true ↔ AscS l
  | [] => by simp [ascG]
  | [a] => by simp [ascG]
  | a :: b :: l => by
    have ih := ascG_ascS (b :: l)
    have h1 : ascG ltP (a :: b :: l) = (ltP a b && ascG ltP (b :: l)) := by simp [ascG]
    rw [h1, Bool.and_eq_true, ih]
    constructor
    · rintro ⟨h, q⟩
      refine List.pairwise_cons.mpr ⟨fun z hz => ?_, q⟩
      rcases List.mem_cons.mp hz with rfl | hz
      · exact h
      · have := (List.pairwise_cons.mp q).1 z hz
        rw [ltP_iff] at *
        omega
    · intro q
      exact ⟨(List.pairwise_cons.mp q).1 b List.mem_cons_self, (List.pairwise_cons.mp q).2⟩

/-! ### webs -/
abbrev Web := Int × List (Int × Int)
abbrev dWeb (w : Web) : D := .tup [.int w.1, .tup (w.2.map prD)]
def doorP (n : Int) (p : Int × Int) : Bool := decide (0 ≤ p.1) && decide (p.1 < p.2) && decide (p.2 < n)
def doorB (n : Int) (d : D) : Bool := match d.pr? with
  | some p => doorP n p
  | none => false
structure WebOk (w : Web) : Prop where
  lo : 1 ≤ w.1
  hi : w.1 ≤ 16
  dr : ∀ p ∈ w.2, 0 ≤ p.1 ∧ p.1 < p.2 ∧ p.2 < w.1
  asc : AscS w.2
theorem len_pairs {n : Nat} : ∀ {l : List (Int × Int)}, l.Nodup → (∀ p ∈ l, (0 ≤ p.1 ∧ p.1 < n) ∧ 0 ≤ p.2 ∧ p.2 < n) → l.length ≤ n * n := by
  intro l h1 h2
  have h3 : (l.map fun p : Int × Int => p.1 * (n : Int) + p.2).Nodup := by
    rw [List.nodup_iff_pairwise_ne, List.pairwise_map]
    refine List.Pairwise.imp_of_mem ?_ h1
    intro p q hp hq hne heq
    apply hne
    obtain ⟨a1, a2⟩ := h2 p hp
    obtain ⟨b1, b2⟩ := h2 q hq
    have e1 : p.1 = q.1 := by
      have x1 : (p.1 * n + p.2) / n = p.1 := by
        rw [Int.add_comm, Int.add_mul_ediv_right _ _ (by omega), Int.ediv_eq_zero_of_lt a2.1 a2.2]
        omega
      have x2 : (q.1 * n + q.2) / n = q.1 := by
        rw [Int.add_comm, Int.add_mul_ediv_right _ _ (by omega), Int.ediv_eq_zero_of_lt b2.1 b2.2]
        omega
      rw [← x1, ← x2]
      exact congrArg (· / (n : Int)) heq
    refine Prod.ext e1 ?_
    have heq : p.1 * (n : Int) + p.2 = q.1 * (n : Int) + q.2 := heq
    rw [e1] at heq
    omega
  have h4 := nodup_len (xs := l.map fun p : Int × Int => p.1 * (n : Int) + p.2) (l := upto (n * n)) h3 fun x hx => by
    obtain ⟨p, hp, rfl⟩ := List.mem_map.mp hx
    obtain ⟨a1, a2⟩ := h2 p hp
    rw [mem_upto]
    have m0 : 0 ≤ p.1 * n := Int.mul_nonneg a1.1 (by omega)
    have m1 : (p.1 + 1) * n ≤ n * n := Int.mul_le_mul_of_nonneg_right (by omega) (by omega)
    rw [Int.add_mul] at m1
    have : ((n * n : Nat) : Int) = (n : Int) * n := by simp
    omega
  rw [List.length_map, len_upto] at h4
  exact h4
theorem WebOk.len {w : Web} (h : WebOk w) : w.2.length ≤ 256 := by
  have := len_pairs (n := 16) (l := w.2) (h.asc.imp fun {p q} z => by rintro rfl; rw [ltP_iff] at z; omega) fun p hp => by
    have := h.dr p hp
    have := h.hi
    omega
  omega
def C_is_door (F : Fn) : Prop := ∀ (n : Int) d, szn 1 d = true → F [.dat (.int n), .dat d] = some (.val (.bl (doorB n d)), [])
theorem L_is_door {Φ : Nat → Fn} {i : Nat} (h : C_are_between (Φ i)) : C_is_door (semF Φ 2 2 (B_is_door i)) := fun n d hd => by
  have h0 := h d 0 (n - 1) hd
  cases c : areB 0 (n - 1) d with
  | false =>
    rw [c] at h0
    have : doorB n d = false := by
      cases q : doorB n d with
      | false => rfl
      | true =>
        unfold doorB at q
        split at q
        · rename_i p e
          have e2 := prsOf_map (show prsOf [d] = some [p] by unfold prsOf; rw [e]; rfl)
          cases e2
          simp [doorP] at q
          have : areB 0 (n - 1) (dI [p.1, p.2]) = true := by rw [areB_dI]; simp; omega
          rw [show prD p = dI [p.1, p.2] from rfl] at c
          rw [this] at c
          cases c
        · cases q
    simp [B_is_door, h0, this]
  | true =>
    obtain ⟨ns, rfl, hn⟩ := areB_ints c
    rw [c] at h0
    clear c hd
    match ns, hn with
    | [], _ => simp [B_is_door, h0, doorB, D.pr?]
    | [a], _ => simp [B_is_door, h0, doorB, D.pr?]
    | [a, b], hn =>
      have ha := hn a (by simp)
      have hb := hn b (by simp)
      have : doorP n (a, b) = decide (a < b) := by
        simp only [doorP]
        rw [decide_eq_true ha.1, decide_eq_true (show b < n by omega)]
        simp
      simp only [dI, List.map_cons, List.map_nil] at h0 ⊢
      simp [B_is_door, h0, doorB, D.pr?, D.toInt?, this]
    | a :: b :: c :: r, _ =>
      have : ¬ ((r.length : Int) + 1 + 1 + 1 = 2) := by omega
      simp only [dI, List.map_cons] at h0 ⊢
      simp [B_is_door, h0, doorB, D.pr?, this]
def webB (d : D) : Bool := match d with
  | .tup [.int n, .tup ds] => decide (1 ≤ n) && decide (n ≤ 16) && ds.all (doorB n) && (match prsOf ds with
    | some ps => ascG ltP ps
    | none => false)
  | _ => false
theorem doors_prs {n : Int} : ∀ {ds : List D}, ds.all (doorB n) = true → ∃ ps : List (Int × Int), ds = ps.map prD ∧ ps.all (doorP n) = true
  | [], _ => ⟨[], rfl, rfl⟩
  | d :: ds, h => by
    rw [List.all_cons, Bool.and_eq_true] at h
    obtain ⟨ps, rfl, hp⟩ := doors_prs h.2
    have h1 := h.1
    unfold doorB at h1
    split at h1
    · rename_i p e
      have e2 := prsOf_map (show prsOf [d] = some [p] by unfold prsOf; rw [e]; rfl)
      cases e2
      exact ⟨p :: ps, rfl, by rw [List.all_cons, h1, hp]; rfl⟩
    · cases h1
def C_is_web (F : Fn) : Prop := ∀ d, sz d = true → F [.dat d] = some (.val (.bl (webB d)), [])
theorem L_is_web {Φ : Nat → Fn} {i j k : Nat} (h1 : C_is_ascending (Φ i)) (h2 : C_is_between (Φ j)) (h3 : C_is_door (Φ k)) : C_is_web (semF Φ 1 2 (B_is_web i j k)) := fun d hd => by
  cases d with
  | tup ds =>
    obtain ⟨s1, s2⟩ := szn_tup hd
    match ds, s2 with
    | [], _ => simp [B_is_web, webB]
    | [a], _ => simp [B_is_web, webB]
    | a :: b :: c :: r, _ =>
      have : ¬ ((r.length : Int) + 1 + 1 + 1 = 2) := by omega
      simp [B_is_web, webB, this]
    | [a, b], s2 =>
      have h2' := h2 a 1 16
      cases a with
      | int n =>
        by_cases c : 1 ≤ n ∧ n ≤ 16
        · have hb : betw 1 16 (.int n) = true := by simp [betw, c]
          rw [hb] at h2'
          cases b with
          | tup es =>
            obtain ⟨s3, s4⟩ := szn_tup (s2 (.tup es) (by simp))
            have e1 : evE Φ (B_is_web_e1 k) [.dat (.tup [.int n, .tup es]), .un] = some (.new (.lst ((es.map (doorB n)).map D.bl)), [.dat (.tup [.int n, .tup es]), .un]) :=
              lc_map (fun d => d) D.bl _ (by simp [itStart, dictIt]) s3 rfl fun x hx => by simp [lcF, h3 _ _ (s4 x hx)]
            cases q : es.all (doorB n) with
            | false => simp [B_is_web, h2', e1, webB, q, List.all_map, Function.comp_def, -List.all_eq_false]
            | true =>
              obtain ⟨ps, rfl, hp⟩ := doors_prs q
              have ha := h1.2 ps (by simpa using s3)
              have hp2 := prsOf_mapP ps
              have q2 : ps.all (doorB n ∘ prD) = true := by rw [List.all_map] at q; exact q
              simp only [List.map_map] at e1
              simp [B_is_web, h2', e1, webB, q2, ha, c, hp2, -List.all_eq_true]
          | wtup ds => exact absurd (s2 (.wtup ds) (by simp)) (by simp [szn])
          | _ => simp [B_is_web, h2', webB, D.isA]
        · have hb : betw 1 16 (.int n) = false := by
            simp only [betw]
            by_cases c1 : 1 ≤ n
            · have : ¬ n ≤ 16 := fun z => c ⟨c1, z⟩
              simp [this]
            · simp [c1]
          have hw : webB (.tup [.int n, b]) = false := by
            unfold webB
            cases b <;> simp
            intro c1 c2
            exact absurd ⟨c1, c2⟩ c
          rw [hb] at h2'
          simp [B_is_web, h2', hw]
      | _ => simp [betw] at h2'; simp [B_is_web, h2', webB]
  | wtup ds => exact absurd hd (by simp [szn])
  | _ => simp [B_is_web, webB, D.isA]
theorem webB_ok {w : Web} : webB (dWeb w) = true ↔ WebOk w := by
  have hall : (w.2.map prD).all (doorB w.1) = w.2.all (doorP w.1) := by
    rw [List.all_map]
    rfl
  unfold webB
  simp only [hall, prsOf_mapP]
  simp only [Bool.and_eq_true, decide_eq_true_eq, ascG_ascS, List.all_eq_true, doorP]
  constructor
  · rintro ⟨⟨⟨h1, h2⟩, h3⟩, h4⟩
    exact ⟨h1, h2, fun p hp => by have := h3 p hp; omega, h4⟩
  · intro h
    exact ⟨⟨⟨h.lo, h.hi⟩, fun p hp => by have := h.dr p hp; omega⟩, h.asc⟩
theorem sz_web {w : Web} (h : w.2.length ≤ 4000000) : sz (dWeb w) = true := by
  simp [szn, prD, h]
def C_check_web (F : Fn) : Prop := ∀ w : Web, WebOk w → F [.dat (dWeb w)] = some (.val .non, [])
theorem L_check_web {Φ : Nat → Fn} {i : Nat} (h : C_is_web (Φ i)) : C_check_web (semF Φ 1 1 (B_check_web i)) := fun w hw => by
  have := h (dWeb w) (sz_web (by have := hw.len; omega))
  rw [webB_ok.mpr hw] at this
  simp [B_check_web, this]
def C_check_kind (F : Fn) : Prop := ∀ (w : Web) (o : Bool), WebOk w → F [.dat (dWeb w), .dat (kindD o)] = some (.val .non, [])
theorem L_check_kind {Φ : Nat → Fn} {i : Nat} (h : C_check_web (Φ i)) : C_check_kind (semF Φ 2 2 (B_check_kind i)) := fun w o hw => by
  have := h w hw
  simp [B_check_kind, this]
/-- a lot of rooms -/
structure Lot (n : Int) (l : List Int) : Prop where
  asc : Asc l
  rng : ∀ x ∈ l, 0 ≤ x ∧ x < n
theorem Lot.len {n : Int} {l : List Int} (h : Lot n l) : l.length ≤ n.toNat := by
  have := nodup_len (xs := l) (l := upto n.toNat) (h.asc.imp fun z => by omega) fun x hx => by
    have := h.rng x hx
    rw [mem_upto]; omega
  rwa [len_upto] at this
def lotB (n : Int) (d : D) : Bool := match d with
  | .tup ds => match intsOf ds with
    | some ns => ns.all (fun x => decide (0 ≤ x) && decide (x < n)) && decide (Asc ns)
    | none => false
  | _ => false
def C_is_lot_of (F : Fn) : Prop := ∀ (w : Web) d, szn 1 d = true → F [.dat (dWeb w), .dat d] = some (.val (.bl (lotB w.1 d)), [])
theorem L_is_lot_of {Φ : Nat → Fn} {i j : Nat} (h1 : C_are_between (Φ i)) (h2 : C_is_ascending (Φ j)) : C_is_lot_of (semF Φ 2 2 (B_is_lot_of i j)) := fun w d hd => by
  have h0 := h1 d 0 (w.1 - 1) hd
  cases c : areB 0 (w.1 - 1) d with
  | false =>
    rw [c] at h0
    have : lotB w.1 d = false := by
      cases q : lotB w.1 d with
      | false => rfl
      | true =>
        unfold lotB at q
        split at q
        · split at q
          · rename_i ns e
            cases intsOf_map e
            rw [areB_dI] at c
            rw [Bool.and_eq_true] at q
            have : (ns.all fun x => decide (0 ≤ x) && decide (x ≤ w.1 - 1)) = true := by
              rw [List.all_eq_true] at q ⊢
              intro x hx
              have := q.1 x hx
              simp at this ⊢
              omega
            rw [this] at c
            cases c
          · cases q
        · cases q
    simp [B_is_lot_of, h0, this]
  | true =>
    obtain ⟨ns, rfl, hn⟩ := areB_ints c
    rw [c] at h0
    have h2' := h2.1 ns (by simpa using (szn_tup hd).1)
    have : lotB w.1 (dI ns) = decide (Asc ns) := by
      unfold lotB
      simp only [intsOf_mapI]
      have : (ns.all fun x => decide (0 ≤ x) && decide (x < w.1)) = true := by
        rw [List.all_eq_true]
        intro x hx
        have := hn x hx
        simp
        omega
      rw [this]
      rfl
    rw [ascG_asc] at h2'
    simp [B_is_lot_of, h0, h2', this]
theorem lotB_dI {n : Int} {l : List Int} : lotB n (dI l) = true ↔ Lot n l := by
  unfold lotB
  simp only [intsOf_mapI, Bool.and_eq_true, List.all_eq_true, decide_eq_true_eq]
  exact ⟨fun h => ⟨h.2, h.1⟩, fun h => ⟨h.rng, h.asc⟩⟩
theorem sz_dI {l : List Int} (h : l.length ≤ 4000000) : szn 1 (dI l) = true := by
  simp [szn, h]
def C_check_lot (F : Fn) : Prop := ∀ (w : Web) (l : List Int), WebOk w → Lot w.1 l → F [.dat (dWeb w), .dat (dI l)] = some (.val .non, [])
theorem L_check_lot {Φ : Nat → Fn} {i : Nat} (h : C_is_lot_of (Φ i)) : C_check_lot (semF Φ 2 2 (B_check_lot i)) := fun w l hw hl => by
  have := h w (dI l) (sz_dI (by have := hl.len; have := hw.hi; omega))
  rw [lotB_dI.mpr hl] at this
  simp [B_check_lot, this]
def C_check_room (F : Fn) : Prop := ∀ (w : Web) (r : Int), 0 ≤ r → r < w.1 → F [.dat (dWeb w), .dat (.int r)] = some (.val .non, [])
theorem L_check_room {Φ : Nat → Fn} {i : Nat} (h : C_is_between (Φ i)) : C_check_room (semF Φ 2 2 (B_check_room i)) := fun w r h0 h1 => by
  have := h (.int r) 0 (w.1 - 1)
  have hb : betw 0 (w.1 - 1) (.int r) = true := by simp [betw]; omega
  rw [hb] at this
  simp [B_check_room, this]
/-- presses: rooms in a row, some twice -/
structure Prs (n : Int) (l : List Int) : Prop where
  rng : ∀ x ∈ l, 0 ≤ x ∧ x < n
  len : l.length ≤ 100
theorem Lot.prs {n : Int} {l : List Int} (h : Lot n l) (hn : n ≤ 16) : Prs n l := ⟨h.rng, by have := h.len; omega⟩
def C_check_presses (F : Fn) : Prop := ∀ (w : Web) (l : List Int), Prs w.1 l → F [.dat (dWeb w), .dat (dI l)] = some (.val .non, [])
theorem L_check_presses {Φ : Nat → Fn} {i : Nat} (h : C_are_between (Φ i)) : C_check_presses (semF Φ 2 2 (B_check_presses i)) := fun w l hl => by
  have h0 := h (dI l) 0 (w.1 - 1) (sz_dI (by have := hl.len; omega))
  have : areB 0 (w.1 - 1) (dI l) = true := by
    rw [areB_dI, List.all_eq_true]
    intro x hx
    have := hl.rng x hx
    simp
    omega
  rw [this] at h0
  have h3 : ¬ (100 < (l.length : Int)) := by have := hl.len; omega
  simp [B_check_presses, h0, h3]
/-- neighbours -/
def nearU (w : Web) (r : Int) : List Int := w.2.filterMap fun p => if r = p.1 ∨ r = p.2 then some (p.1 + p.2 - r) else none
def nearL (w : Web) (r : Int) : List Int := sortI (nearU w r)
def reachL (w : Web) (o : Bool) (r : Int) : List Int := if o then sortI (r :: nearL w r) else nearL w r
theorem len_nearU (w : Web) (r : Int) : (nearU w r).length ≤ w.2.length := List.length_filterMap_le _ _
theorem len_nearL (w : Web) (r : Int) : (nearL w r).length ≤ w.2.length := by
  unfold nearL
  rw [(sortI_perm _).length_eq]
  exact len_nearU w r
theorem len_reachL (w : Web) (o : Bool) (r : Int) : (reachL w o r).length ≤ w.2.length + 1 := by
  have := len_nearL w r
  unfold reachL
  split
  · rw [(sortI_perm _).length_eq, List.length_cons]; omega
  · omega
def C_near_of (F : Fn) : Prop := ∀ (w : Web) (r : Int), w.2.length ≤ 4000000 → F [.dat (dWeb w), .dat (.int r)] = some (.new (lI' (nearL w r)), [])
where lI' (l : List Int) : MO := .lst (l.map D.int)
theorem L_near_of {Φ : Nat → Fn} : C_near_of (semF Φ 2 4 B_near_of) := fun w r hw => by
  have e1 : evE Φ B_near_of_e1 [.dat (dWeb w), .dat (.int r), .un, .un] = some (.new (.lst ((nearU w r).map D.int)), [.dat (dWeb w), .dat (.int r), .un, .un]) := by
    refine lc_tp prD D.int _ ?_ hw rfl ?_
    · simp [itStart, dictIt]
    · rintro ⟨a, b⟩ _
      by_cases c : r = a ∨ r = b
      · simp [lcF, prD, in_two, c]
      · simp [lcF, prD, in_two, c]
  simp [B_near_of, e1, nearL, C_near_of.lI']
theorem fzs_vals : ∀ (ds : List D) (env : En), fzs (ds.map P.val) env = some (ds, env)
  | [], _ => rfl
  | d :: ds, env => by
    have := fzs_vals ds env
    unfold fzs
    simp only [List.map_cons, z_fz1, this]
theorem fzs_valsI (l : List Int) (env : En) : fzs (l.map fun x => P.val (.int x)) env = some (l.map D.int, env) := by
  have := fzs_vals (l.map D.int) env
  rwa [List.map_map] at this
def C_reach_of (F : Fn) : Prop := ∀ (w : Web) (o : Bool) (r : Int), w.2.length ≤ 1000000 → F [.dat (dWeb w), .dat (kindD o), .dat (.int r)] = some (.new (.lst ((reachL w o r).map D.int)), [])
theorem L_reach_of {Φ : Nat → Fn} {i : Nat} (h : C_near_of (Φ i)) : C_reach_of (semF Φ 3 3 (B_reach_of i)) := fun w o r hw => by
  have h0 := h w r (by omega)
  have hl := len_nearL w r
  unfold C_near_of.lI' at h0
  cases o with
  | false => simp [B_reach_of, h0, reachL]
  | true =>
    have h2 : (nearL w r).length + 1 ≤ 4000000 := by omega
    have h3 := bi_sorted (r :: nearL w r)
    rw [List.map_cons] at h3
    have h4 := fzs_valsI (nearL w r)
    simp [B_reach_of, h0, reachL, h2, h3, h4, Function.comp_def]
end Mi

/-! MiDraw2: the draws of all laws, with the constants as parameters. -/
namespace Mi
open PySem PySem.Spec PyProof.Rows L2

def okc (i : Int) : Bool := decide (0 < i) && decide (i < 2 ^ 31)
theorem okc_iff {i : Int} (h : okc i = true) : 0 < i ∧ i < 2 ^ 31 := by simpa [okc] using h
/-- _law_take with four primes -/
def takeB4 (p0 p1 p2 p3 a b m k d : Int) : S :=
  (.seq (.ite (.cmp .gt (.ix (.var 0) (.cst (.int 0))) (.cst (.int 0))) (.seq (.asg (.nm 4) (.bin .mod (.bi .int (.acons (.ix (.var 0) (.cst (.int 0))) .anil)) (.var 1))) (.seq (.put (.var 0) (.cst (.int 0)) (.bin .fdiv (.ix (.var 0) (.cst (.int 0))) (.var 1))) (.seq (.ret (.var 4)) .nop))) .nop)
  (.seq (.put (.var 0) (.cst (.int 2)) (.bin .add (.ix (.var 0) (.cst (.int 2))) (.cst (.int 1))))
  (.seq (.asg (.nm 2) (.ix (.lst (.acons (.cst (.int p0)) (.acons (.cst (.int p1)) (.acons (.cst (.int p2)) (.acons (.cst (.int p3)) .anil))))) (.bin .mod (.bi .int (.acons (.ix (.var 0) (.cst (.int 2))) .anil)) (.cst (.int 4)))))
  (.seq (.asg (.nm 3) (.bin .mod (.bi .int (.acons (.bin .pow (.bi .int (.acons (.bin .add (.bin .add (.ix (.var 0) (.cst (.int 1))) (.bin .mul (.bin .mul (.cst (.int a)) (.ix (.var 0) (.cst (.int 2)))) (.ix (.var 0) (.cst (.int 2))))) (.cst (.int b))) .anil)) (.cst (.int 3))) .anil)) (.var 2)))
  (.seq (.ret (.bin .mod (.bi .int (.acons (.bin .fdiv (.bin .mul (.var 3) (.bin .add (.bin .mod (.bi .int (.acons (.var 3) .anil)) (.cst (.int m))) (.bin .mul (.cst (.int k)) (.ix (.var 0) (.cst (.int 2)))))) (.cst (.int d))) .anil)) (.var 1))) .nop)))))
/-- _law_take with five primes -/
def takeB5 (p0 p1 p2 p3 p4 a b m k M d : Int) : S :=
  (.seq (.ite (.cmp .gt (.ix (.var 0) (.cst (.int 0))) (.cst (.int 0))) (.seq (.asg (.nm 4) (.bin .mod (.bi .int (.acons (.ix (.var 0) (.cst (.int 0))) .anil)) (.var 1))) (.seq (.put (.var 0) (.cst (.int 0)) (.bin .fdiv (.ix (.var 0) (.cst (.int 0))) (.var 1))) (.seq (.ret (.var 4)) .nop))) .nop)
  (.seq (.put (.var 0) (.cst (.int 2)) (.bin .add (.ix (.var 0) (.cst (.int 2))) (.cst (.int 1))))
  (.seq (.asg (.nm 2) (.ix (.lst (.acons (.cst (.int p0)) (.acons (.cst (.int p1)) (.acons (.cst (.int p2)) (.acons (.cst (.int p3)) (.acons (.cst (.int p4)) .anil)))))) (.bin .mod (.bi .int (.acons (.ix (.var 0) (.cst (.int 2))) .anil)) (.cst (.int 5)))))
  (.seq (.asg (.nm 3) (.bin .mod (.bi .int (.acons (.bin .pow (.bi .int (.acons (.bin .add (.bin .add (.ix (.var 0) (.cst (.int 1))) (.bin .mul (.bin .mul (.cst (.int a)) (.ix (.var 0) (.cst (.int 2)))) (.ix (.var 0) (.cst (.int 2))))) (.cst (.int b))) .anil)) (.cst (.int 3))) .anil)) (.var 2)))
  (.seq (.asg (.nm 3) (.bin .mod (.bi .int (.acons (.bin .mul (.var 3) (.bin .add (.bin .mod (.bi .int (.acons (.var 3) .anil)) (.cst (.int m))) (.bin .mul (.cst (.int k)) (.ix (.var 0) (.cst (.int 2)))))) .anil)) (.cst (.int M))))
  (.seq (.ret (.bin .mod (.bi .int (.acons (.bin .fdiv (.var 3) (.cst (.int d))) .anil)) (.var 1))) .nop))))))
section
variable {p0 p1 p2 p3 p4 a b m k M d : Int}
theorem four_ix {x : Int} (h0 : 0 ≤ x) (h : x < 4) (c0 : okc p0 = true) (c1 : okc p1 = true) (c2 : okc p2 = true) (c3 : okc p3 = true) : ∃ p, okc p = true ∧ ixOp (.lst [.int p0, .int p1, .int p2, .int p3]) (.int x) = some (.int p) := by
  have : x = 0 ∨ x = 1 ∨ x = 2 ∨ x = 3 := by omega
  rcases this with rfl | rfl | rfl | rfl
  · exact ⟨p0, c0, rfl⟩
  · exact ⟨p1, c1, rfl⟩
  · exact ⟨p2, c2, rfl⟩
  · exact ⟨p3, c3, rfl⟩
theorem five_ix {x : Int} (h0 : 0 ≤ x) (h : x < 5) (c0 : okc p0 = true) (c1 : okc p1 = true) (c2 : okc p2 = true) (c3 : okc p3 = true) (c4 : okc p4 = true) : ∃ p, okc p = true ∧ ixOp (.lst [.int p0, .int p1, .int p2, .int p3, .int p4]) (.int x) = some (.int p) := by
  have : x = 0 ∨ x = 1 ∨ x = 2 ∨ x = 3 ∨ x = 4 := by omega
  rcases this with rfl | rfl | rfl | rfl | rfl
  · exact ⟨p0, c0, rfl⟩
  · exact ⟨p1, c1, rfl⟩
  · exact ⟨p2, c2, rfl⟩
  · exact ⟨p3, c3, rfl⟩
  · exact ⟨p4, c4, rfl⟩
/-- what _law_take promises -/
def C_take (F : Fn) : Prop := ∀ (c : Nat) (mo : MO), Pot c mo → c < 2 ^ 20 → ∀ u : Int, 0 < u → sm u → ∃ (r : Int) (mo' : MO), 0 ≤ r ∧ r < u ∧ Pot (c + 1) mo' ∧ F [.own mo, .dat (.int u)] = some (.val (.int r), [mo'])
theorem blend {s n : Int} (ha : okc a = true) (hb : okc b = true) (hs : 0 ≤ s) (hs2 : s < 2 ^ 61) (hn : 0 ≤ n) (hn2 : n < 2 ^ 22) {p : Int} (hp : okc p = true) :
    ∃ r : Int, 0 ≤ r ∧ r < p ∧ binOp .mul (.int a) (.int n) = some (.val (.int (a * n))) ∧ binOp .mul (.int (a * n)) (.int n) = some (.val (.int (a * n * n))) ∧ binOp .pow (.int (s + a * n * n + b)) (.int 3) = some (.val (.int ((s + a * n * n + b) ^ 3))) ∧ binOp .mod (.int ((s + a * n * n + b) ^ 3)) (.int p) = some (.val (.int r)) ∨ (s + a * n * n + b < 2) := by
  obtain ⟨a0, a1⟩ := okc_iff ha
  obtain ⟨b0, b1⟩ := okc_iff hb
  obtain ⟨q0, q1⟩ := okc_iff hp
  have m1 : (a * n).natAbs < 2 ^ 53 := mul_lt (a := 31) (b := 22) (by omega) (by omega) (by decide)
  have m2 : (a * n * n).natAbs < 2 ^ 75 := mul_lt m1 (show n.natAbs < 2 ^ 22 by omega) (by decide)
  have z0 : 0 ≤ a * n * n := Int.mul_nonneg (Int.mul_nonneg (by omega) hn) hn
  have e3 := mul_ev (i := a) (j := n) (by unfold sm; omega) (by unfold sm; omega)
  have e4 := mul_ev (i := a * n) (j := n) (sm_of m1 (by decide)) (by unfold sm; omega)
  generalize a * n * n = q at *
  by_cases h : s + q + b < 2
  · exact ⟨0, .inr h⟩
  · have e5 := cube_ev (i := s + q + b) (by omega) (by unfold sm; omega)
    have e6 := mod_ev (i := (s + q + b) ^ 3) (j := p) (by omega)
    obtain ⟨r0, r1⟩ := fmod_pos (i := (s + q + b) ^ 3) (j := p) q0
    exact ⟨_, .inl ⟨r0, r1, e3, e4, e5, e6⟩⟩
theorem take4 {Φ : Nat → Fn} (c0 : okc p0 = true) (c1 : okc p1 = true) (c2 : okc p2 = true) (c3 : okc p3 = true) (ha : okc a = true) (hb : okc b = true) (hb2 : 2 ≤ b) (hm : okc m = true) (hk : okc k = true) (hd : okc d = true) : C_take (semF Φ 2 5 (takeB4 p0 p1 p2 p3 a b m k d)) := by
  intro c mo h hc u hu hsm
  obtain ⟨o, s, n, rfl, h1, h2, h3, h4, h5⟩ := h
  by_cases ho : 0 < o
  · obtain ⟨r0, r1⟩ := fmod_pos (i := o) hu
    refine ⟨_, _, r0, r1, ⟨_, _, _, rfl, fdiv_nn h1 hu, h2, h3, h4, by omega⟩, ?_⟩
    have e1 := mod_ev (i := o) (j := u) (by omega)
    have e2 := fdiv_ev (i := o) (j := u) (by omega) hsm
    simp [semF, evT, takeB4, Arg.slot, pk, ixl0, cmpOp, dix, biOp, pks, setP, fz, setD, setS, Slot.free, retOf, outsOf, putAt, ho, e1, e2, List.replicate]
  · obtain ⟨k0, k5⟩ := fmod_pos (i := n + 1) (j := 4) (by decide)
    have e1 := mod_ev (i := n + 1) (j := 4) (by decide)
    obtain ⟨p, hp, e2⟩ := four_ix k0 k5 c0 c1 c2 c3
    obtain ⟨m0, m1⟩ := okc_iff hm
    obtain ⟨kk0, kk1⟩ := okc_iff hk
    obtain ⟨d0, d1⟩ := okc_iff hd
    obtain ⟨q0, q1⟩ := okc_iff hp
    obtain ⟨b1, hbl⟩ := blend (n := n + 1) ha hb h2 h3 (by omega) (by omega) hp
    have z0 : 0 ≤ a * (n + 1) * (n + 1) := Int.mul_nonneg (Int.mul_nonneg (by have := okc_iff ha; omega) (by omega)) (by omega)
    rcases hbl with ⟨b0, b2, e3, e4, e5, e6⟩ | hbl
    · have e7 := mod_ev (i := b1) (j := m) (by omega)
      obtain ⟨c0', c1'⟩ := fmod_pos (i := b1) (j := m) m0
      generalize hcc : b1.fmod m = cc at *
      have km : (k * (n + 1)).natAbs < 2 ^ 53 := mul_lt (a := 31) (b := 22) (by omega) (by omega) (by decide)
      have e8 := mul_ev (i := k) (j := n + 1) (by unfold sm; omega) (by unfold sm; omega)
      have e9 := mul_ev (i := b1) (j := cc + k * (n + 1)) (by unfold sm; omega) (by unfold sm; omega)
      have e10 := fdiv_ev (i := b1 * (cc + k * (n + 1))) (j := d) (by omega) (by unfold sm; omega)
      have e11 := mod_ev (i := (b1 * (cc + k * (n + 1))).fdiv d) (j := u) (by omega)
      obtain ⟨r0, r1⟩ := fmod_pos (i := (b1 * (cc + k * (n + 1))).fdiv d) (j := u) hu
      refine ⟨_, .lst [.int o, .int s, .int (n + 1)], r0, r1, ⟨o, s, n + 1, rfl, h1, h2, h3, by omega, by omega⟩, ?_⟩
      simp [semF, evT, takeB4, fzs, Arg.slot, pk, ixl0, ixl1, ixl2, lim, cmpOp, biOp, pks, setP, fz, setD, setS, Slot.free, retOf, outsOf, putAt, ho, add_ev, e1, e2, e3, e4, e5, e6, e7, e8, e9, e10, e11, hcc, List.replicate]
    · omega
theorem take5 {Φ : Nat → Fn} (c0 : okc p0 = true) (c1 : okc p1 = true) (c2 : okc p2 = true) (c3 : okc p3 = true) (c4 : okc p4 = true) (ha : okc a = true) (hb : okc b = true) (hb2 : 2 ≤ b) (hm : okc m = true) (hk : okc k = true) (hM : 0 < M ∧ M < 2 ^ 70) (hd : okc d = true) : C_take (semF Φ 2 5 (takeB5 p0 p1 p2 p3 p4 a b m k M d)) := by
  intro c mo h hc u hu hsm
  obtain ⟨o, s, n, rfl, h1, h2, h3, h4, h5⟩ := h
  by_cases ho : 0 < o
  · obtain ⟨r0, r1⟩ := fmod_pos (i := o) hu
    refine ⟨_, _, r0, r1, ⟨_, _, _, rfl, fdiv_nn h1 hu, h2, h3, h4, by omega⟩, ?_⟩
    have e1 := mod_ev (i := o) (j := u) (by omega)
    have e2 := fdiv_ev (i := o) (j := u) (by omega) hsm
    simp [semF, evT, takeB5, Arg.slot, pk, ixl0, cmpOp, dix, biOp, pks, setP, fz, setD, setS, Slot.free, retOf, outsOf, putAt, ho, e1, e2, List.replicate]
  · obtain ⟨k0, k5⟩ := fmod_pos (i := n + 1) (j := 5) (by decide)
    have e1 := mod_ev (i := n + 1) (j := 5) (by decide)
    obtain ⟨p, hp, e2⟩ := five_ix k0 k5 c0 c1 c2 c3 c4
    obtain ⟨m0, m1⟩ := okc_iff hm
    obtain ⟨kk0, kk1⟩ := okc_iff hk
    obtain ⟨d0, d1⟩ := okc_iff hd
    obtain ⟨q0, q1⟩ := okc_iff hp
    obtain ⟨b1, hbl⟩ := blend (n := n + 1) ha hb h2 h3 (by omega) (by omega) hp
    have z0 : 0 ≤ a * (n + 1) * (n + 1) := Int.mul_nonneg (Int.mul_nonneg (by have := okc_iff ha; omega) (by omega)) (by omega)
    rcases hbl with ⟨b0, b2, e3, e4, e5, e6⟩ | hbl
    · have e7 := mod_ev (i := b1) (j := m) (by omega)
      obtain ⟨c0', c1'⟩ := fmod_pos (i := b1) (j := m) m0
      generalize hcc : b1.fmod m = cc at *
      have km : (k * (n + 1)).natAbs < 2 ^ 53 := mul_lt (a := 31) (b := 22) (by omega) (by omega) (by decide)
      have e8 := mul_ev (i := k) (j := n + 1) (by unfold sm; omega) (by unfold sm; omega)
      have e9 := mul_ev (i := b1) (j := cc + k * (n + 1)) (by unfold sm; omega) (by unfold sm; omega)
      have e10 := mod_ev (i := b1 * (cc + k * (n + 1))) (j := M) (by omega)
      obtain ⟨f0, f1⟩ := fmod_pos (i := b1 * (cc + k * (n + 1))) (j := M) hM.1
      generalize hdd : (b1 * (cc + k * (n + 1))).fmod M = dd at *
      have e11 := fdiv_ev (i := dd) (j := d) (by omega) (by unfold sm; omega)
      have e12 := mod_ev (i := dd.fdiv d) (j := u) (by omega)
      obtain ⟨r0, r1⟩ := fmod_pos (i := dd.fdiv d) (j := u) hu
      refine ⟨_, .lst [.int o, .int s, .int (n + 1)], r0, r1, ⟨o, s, n + 1, rfl, h1, h2, h3, by omega, by omega⟩, ?_⟩
      simp [semF, evT, takeB5, fzs, Arg.slot, pk, ixl0, ixl1, ixl2, lim, cmpOp, biOp, pks, setP, fz, setD, setS, Slot.free, retOf, outsOf, putAt, ho, add_ev, e1, e2, e3, e4, e5, e6, e7, e8, e9, e10, e11, e12, hcc, hdd, List.replicate]
    · omega
end
/-! ### the pot -/
def potRest (u v w : Int) : S :=
  (.seq (.asg (.nm 3) (.bin .mul (.bin .mod (.bi .int (.acons (.bi .abs (.acons (.var 2) .anil)) .anil)) (.bin .pow (.bin .pow (.cst (.int 10)) (.cst (.int 60))) (.cst (.int 5)))) (.bi .int (.acons (.cmp .ge (.bi .abs (.acons (.var 2) .anil)) (.bin .pow (.cst (.int 10)) (.cst (.int 18)))) .anil))))
  (.seq (.asg (.nm 4) (.bin .mod (.bi .int (.acons (.var 2) .anil)) (.cst (.int 2305843009213693951))))
  (.seq (.ret (.lst (.acons (.var 3) (.acons (.bin .mod (.bi .int (.acons (.bin .add (.bin .add (.bin .mul (.var 4) (.cst (.int u))) (.bin .mul (.bin .mul (.cst (.int v)) (.var 1)) (.var 1))) (.cst (.int w))) .anil)) (.cst (.int 2305843009213693921))) (.acons (.cst (.int 0)) .anil)))))
  .nop)))
def cellA (M x y : Int) : E := (.ite (.cmp .lt (.var 1) (.bi .len (.acons (.var 0) .anil))) (.ix (.var 0) (.var 1)) (.bin .add (.bin .add (.bin .mod (.bi .int (.acons (.bi .sum (.acons (.slc (.var 0) .gone (.acons (.cst (.int 1)) .anil)) .anil)) .anil)) (.cst (.int M))) (.bin .mul (.cst (.int x)) (.var 1))) (.cst (.int y))))
def cellB (x y : Int) : E := (.ite (.cmp .lt (.var 1) (.bi .len (.acons (.var 0) .anil))) (.ix (.var 0) (.var 1)) (.bin .add (.bin .mul (.cst (.int x)) (.var 1)) (.cst (.int y))))
def cellC (M x y : Int) : E := (.ite (.cmp .lt (.var 1) (.bi .len (.acons (.var 0) .anil))) (.ix (.var 0) (.var 1)) (.bin .add (.bin .add (.bin .mod (.bi .sum (.acons (.slc (.var 0) .gone (.acons (.cst (.int 1)) .anil)) .anil)) (.cst (.int M))) (.bin .mul (.cst (.int x)) (.var 1))) (.cst (.int y))))
def potBody (e : E) (u v w : Int) : S := (.seq (.asg (.nm 2) e) (potRest u v w))
def C_pot (F : Fn) : Prop := ∀ (ns : List Int) (pl : Nat), pl < 2 ^ 10 → ∃ m, Pot 0 m ∧ F [.dat (.scr ns), .dat (.int pl)] = some (.new m, [])
def CellOk (Φ : Nat → Fn) (e : E) : Prop := ∀ (ns : List Int) (pl : Nat), pl < 2 ^ 10 → ∃ c : Int, evE Φ e [.dat (.scr ns), .dat (.int pl), .un, .un, .un] = some (.val (.int c), [.dat (.scr ns), .dat (.int pl), .un, .un, .un])
theorem scr_ix {ns : List Int} {pl : Nat} (h : pl < ns.length) : ixOp (.scr ns) (.int pl) = some (.int ns[pl]) := by
  simp only [ixOp, atI, ixN]
  rw [if_pos (by omega), if_pos (by omega)]
  simp [h]
theorem scr_cut (ns : List Int) : cutD (ns.map D.int) none (some 1) = (ns.take 1).map D.int := by
  unfold cutD HT.sIx
  cases ns <;> simp
theorem cellA_ok {Φ : Nat → Fn} {M x y : Int} (hM : okc M = true) (hx : okc x = true) (hy : okc y = true) : CellOk Φ (cellA M x y) := fun ns pl hp => by
  obtain ⟨m0, m1⟩ := okc_iff hM
  obtain ⟨x0, x1⟩ := okc_iff hx
  by_cases h : pl < ns.length
  · exact ⟨ns[pl], by simp [cellA, pk, pks, biOp, cmpOp, h, scr_ix h]⟩
  · have e3 := mul_ev (i := x) (j := pl) (by unfold sm; omega) (by unfold sm; omega)
    have e4 := mod_ev (i := (ns.take 1).sum) (j := M) (by omega)
    exact ⟨(ns.take 1).sum.fmod M + x * pl + y, by simp [cellA, pk, pks, biOp, cmpOp, h, slcOp, scr_cut, -List.map_take, intsOf_mapI, e3, e4, add_ev]⟩
theorem cellC_ok {Φ : Nat → Fn} {M x y : Int} (hM : okc M = true) (hx : okc x = true) (hy : okc y = true) : CellOk Φ (cellC M x y) := fun ns pl hp => by
  obtain ⟨m0, m1⟩ := okc_iff hM
  obtain ⟨x0, x1⟩ := okc_iff hx
  by_cases h : pl < ns.length
  · exact ⟨ns[pl], by simp [cellC, pk, pks, biOp, cmpOp, h, scr_ix h]⟩
  · have e3 := mul_ev (i := x) (j := pl) (by unfold sm; omega) (by unfold sm; omega)
    have e4 := mod_ev (i := (ns.take 1).sum) (j := M) (by omega)
    exact ⟨(ns.take 1).sum.fmod M + x * pl + y, by simp [cellC, pk, pks, biOp, cmpOp, h, slcOp, scr_cut, -List.map_take, intsOf_mapI, e3, e4, add_ev]⟩
theorem cellB_ok {Φ : Nat → Fn} {x y : Int} (hx : okc x = true) (hy : okc y = true) : CellOk Φ (cellB x y) := fun ns pl hp => by
  obtain ⟨x0, x1⟩ := okc_iff hx
  by_cases h : pl < ns.length
  · exact ⟨ns[pl], by simp [cellB, pk, pks, biOp, cmpOp, h, scr_ix h]⟩
  · have e3 := mul_ev (i := x) (j := pl) (by unfold sm; omega) (by unfold sm; omega)
    exact ⟨x * pl + y, by simp [cellB, pk, pks, biOp, cmpOp, h, e3, add_ev]⟩
theorem pot_gen {Φ : Nat → Fn} {e : E} {u v w : Int} (he : CellOk Φ e) (hu : okc u = true) (hv : okc v = true) (hw : okc w = true) : C_pot (semF Φ 2 5 (potBody e u v w)) := fun ns pl hp => by
  obtain ⟨u0, u1⟩ := okc_iff hu
  obtain ⟨v0, v1⟩ := okc_iff hv
  obtain ⟨w0, w1⟩ := okc_iff hw
  obtain ⟨cell, hcell⟩ := he ns pl hp
  obtain ⟨ow, ow0, how⟩ : ∃ ow : Int, 0 ≤ ow ∧ evE Φ (.bin .mul (.bin .mod (.bi .int (.acons (.bi .abs (.acons (.var 2) .anil)) .anil)) (.bin .pow (.bin .pow (.cst (.int 10)) (.cst (.int 60))) (.cst (.int 5)))) (.bi .int (.acons (.cmp .ge (.bi .abs (.acons (.var 2) .anil)) (.bin .pow (.cst (.int 10)) (.cst (.int 18)))) .anil)))
      [.dat (.scr ns), .dat (.int pl), .dat (.int cell), .un, .un] = some (.val (.int ow), [.dat (.scr ns), .dat (.int pl), .dat (.int cell), .un, .un]) := by
    generalize hab : (if cell < 0 then -cell else cell) = ab
    have a0 := fmod_pos (i := ab) (j := (10 ^ 60) ^ 5) (by decide +kernel)
    have e1 := mod_ev (i := ab) (j := (10 ^ 60) ^ 5) (by decide +kernel)
    have e2 := own_mul a0.1 a0.2 (decide ((10 : Int) ^ 18 ≤ ab))
    refine ⟨_, Int.mul_nonneg a0.1 (b := if decide ((10 : Int) ^ 18 ≤ ab) = true then 1 else 0) (by split <;> decide), ?_⟩
    simp only [evE, evA, pks, pk, biOp, List.getElem?_cons_succ, List.getElem?_cons_zero, hab, pow1, pow2, pow3, e1, cmpOp, e2]
  have e3 := mod_ev (i := cell) (j := 2305843009213693951) (by decide)
  obtain ⟨s0, s1⟩ := fmod_pos (i := cell) (j := 2305843009213693951) (by decide)
  generalize hs : cell.fmod 2305843009213693951 = sml at *
  have e4 := mul_ev (i := sml) (j := u) (by unfold sm; omega) (by unfold sm; omega)
  have m1 : (v * (pl : Int)).natAbs < 2 ^ 42 := mul_lt (a := 31) (b := 11) (by omega) (by omega) (by decide)
  have e5 := mul_ev (i := v) (j := pl) (by unfold sm; omega) (by unfold sm; omega)
  have e6 := mul_ev (i := v * pl) (j := pl) (sm_of m1 (by decide)) (by unfold sm; omega)
  have e7 := mod_ev (i := sml * u + v * pl * pl + w) (j := 2305843009213693921) (by decide)
  obtain ⟨t0, t1⟩ := fmod_pos (i := sml * u + v * pl * pl + w) (j := 2305843009213693921) (by decide)
  generalize hq : (sml * u + v * (pl : Int) * pl + w).fmod 2305843009213693921 = sd at *
  refine ⟨.lst [.int ow, .int sd, .int 0], ⟨_, _, _, rfl, ow0, t0, by omega, by decide, by decide⟩, ?_⟩
  unfold semF potBody potRest
  simp only [List.length_cons, List.length_nil, Nat.reduceAdd, if_true, List.map_cons, List.map_nil, Arg.slot, List.replicate, Nat.reduceSub, List.cons_append, List.nil_append]
  simp only [evS, hcell, setP, fz, setD, setS, Slot.free, List.getElem?_cons_succ, List.getElem?_cons_zero, if_true, List.set_cons_succ, List.set_cons_zero, how]
  simp [fzs, pk, lim, cmpOp, biOp, pks, setP, fz, setD, setS, Slot.free, retOf, outsOf, add_ev, e3, hs, e4, e5, e6, e7, hq]
end Mi

/-! MiWeb2: presses, what they change. -/
namespace Mi
open PySem PySem.Spec PyProof.Rows L2

def C_sum_by (F : Fn) : Prop := ∀ (a : Arg) (ms : List MO) (lots : List D) (nss : List (List Int)), SqA lots a ms → Paired LotD lots nss → nss.flatten.length ≤ 1000000 → F [a] = some (.val (dI (oddS nss.flatten)), ms)
theorem L_sum_by {Φ : Nat → Fn} : C_sum_by (semF Φ 1 4 B_sum_by) := fun a ms lots nss ha h h2 => sum_main Φ (.inl rfl) ha h h2
theorem L_q_sum {Φ : Nat → Fn} : C_sum_by (semF Φ 1 4 B_q_sum) := fun a ms lots nss ha h h2 => sum_main Φ (.inr rfl) ha h h2
theorem flat_len {α : Type} {k : Nat} : ∀ {ls : List (List α)}, (∀ l ∈ ls, l.length ≤ k) → ls.flatten.length ≤ ls.length * k
  | [], _ => by simp
  | l :: ls, h => by
    have := flat_len (ls := ls) fun x hx => h x (List.mem_cons_of_mem _ hx)
    have h1 := h l List.mem_cons_self
    rw [List.flatten_cons, List.length_append, List.length_cons, Nat.add_mul]
    omega
def changedL (w : Web) (o : Bool) (ps : List Int) : List Int := oddS (ps.map (reachL w o)).flatten
theorem changed_len {w : Web} (hw : WebOk w) (o : Bool) {ps : List Int} (h : ps.length ≤ 1000) : (ps.map (reachL w o)).flatten.length ≤ 1000000 := by
  have := flat_len (k := 257) (ls := ps.map (reachL w o)) fun l hl => by
    obtain ⟨r, _, rfl⟩ := List.mem_map.mp hl
    have := len_reachL w o r
    have := hw.len
    omega
  rw [List.length_map] at this
  omega
def C_changed_by (F : Fn) : Prop := ∀ (w : Web) (o : Bool) (ps : List Int), WebOk w → ps.length ≤ 1000 → F [.dat (dWeb w), .dat (kindD o), .dat (dI ps)] = some (.val (dI (changedL w o ps)), [])
theorem L_changed_by {Φ : Nat → Fn} {i j : Nat} (h1 : C_sum_by (Φ i)) (h2 : C_reach_of (Φ j)) : C_changed_by (semF Φ 3 4 (B_changed_by i j)) := fun w o ps hw hp => by
  have e1 : evE Φ (B_changed_by_e1 j) [.dat (dWeb w), .dat (kindD o), .dat (dI ps), .un] = some (.new (.lst ((ps.map (reachL w o)).map lI)), [.dat (dWeb w), .dat (kindD o), .dat (dI ps), .un]) :=
    lc_map D.int lI _ (by simp [itStart, dictIt]) (by omega) rfl fun x _ => by simp [lcF, h2 w o x (by have := hw.len; omega)]
  have e2 := h1 _ _ _ _ (.l (ds := (ps.map (reachL w o)).map lI)) (lots_lI _) (changed_len hw o hp)
  simp only [List.map_map] at e1 e2
  simp [B_changed_by, e1, e2, changedL]
def C_near (F : Fn) : Prop := ∀ (w : Web) (r : Int), WebOk w → 0 ≤ r → r < w.1 → F [.dat (dWeb w), .dat (.int r)] = some (.val (dI (nearL w r)), [])
theorem L_near {Φ : Nat → Fn} {i j k : Nat} (h1 : C_check_web (Φ i)) (h2 : C_check_room (Φ j)) (h3 : C_near_of (Φ k)) : C_near (semF Φ 2 2 (B_near i j k)) := fun w r hw h0 hr => by
  have e3 := h3 w r (by have := hw.len; omega)
  unfold C_near_of.lI' at e3
  simp [B_near, h1 w hw, h2 w r h0 hr, e3]
def C_reach (F : Fn) : Prop := ∀ (w : Web) (o : Bool) (r : Int), WebOk w → 0 ≤ r → r < w.1 → F [.dat (dWeb w), .dat (kindD o), .dat (.int r)] = some (.val (dI (reachL w o r)), [])
theorem L_reach {Φ : Nat → Fn} {i j k : Nat} (h1 : C_check_kind (Φ i)) (h2 : C_check_room (Φ j)) (h3 : C_reach_of (Φ k)) : C_reach (semF Φ 3 3 (B_reach i j k)) := fun w o r hw h0 hr => by
  have e3 := h3 w o r (by have := hw.len; omega)
  simp [B_reach, h1 w o hw, h2 w r h0 hr, e3]
def C_changed (F : Fn) : Prop := ∀ (w : Web) (o : Bool) (ps : List Int), WebOk w → Prs w.1 ps → F [.dat (dWeb w), .dat (kindD o), .dat (dI ps)] = some (.val (dI (changedL w o ps)), [])
theorem L_changed {Φ : Nat → Fn} {i j k : Nat} (h1 : C_check_kind (Φ i)) (h2 : C_check_presses (Φ j)) (h3 : C_changed_by (Φ k)) : C_changed (semF Φ 3 3 (B_changed i j k)) := fun w o ps hw hp => by
  have e3 := h3 w o ps hw (by have := hp.len; omega)
  simp [B_changed, h1 w o hw, h2 w ps hp, e3]
def C_check_ahead (F : Fn) : Prop := ∀ (w : Web) (o : Bool) (l ps : List Int), WebOk w → Lot w.1 l → Prs w.1 ps → F [.dat (dWeb w), .dat (kindD o), .dat (dI l), .dat (dI ps)] = some (.val .non, [])
theorem L_check_ahead {Φ : Nat → Fn} {i j k : Nat} (h1 : C_check_kind (Φ i)) (h2 : C_check_lot (Φ j)) (h3 : C_check_presses (Φ k)) : C_check_ahead (semF Φ 4 4 (B_check_ahead i j k)) := fun w o l ps hw hl hp => by
  simp [B_check_ahead, h1 w o hw, h2 w l hw hl, h3 w ps hp]
theorem len_changedL (w : Web) (o : Bool) (ps : List Int) : (changedL w o ps).length ≤ (ps.map (reachL w o)).flatten.length := len_oddS _
def C_behind (F : Fn) : Prop := ∀ (w : Web) (o : Bool) (l ps : List Int), WebOk w → Lot w.1 l → Prs w.1 ps → F [.dat (dWeb w), .dat (kindD o), .dat (dI l), .dat (dI ps)] = some (.val (dI (oddS (l ++ changedL w o ps))), [])
theorem L_behind {Φ : Nat → Fn} {i j k : Nat} (h1 : C_check_ahead (Φ i)) (h2 : C_sum_by (Φ j)) (h3 : C_changed_by (Φ k)) : C_behind (semF Φ 4 4 (B_behind i j k)) := fun w o l ps hw hl hp => by
  have hp1 := hp.len
  have e3 := h3 w o ps hw (by omega)
  have c1 := len_changedL w o ps
  have c2 := flat_len (k := 257) (ls := ps.map (reachL w o)) fun l hl => by
    obtain ⟨r, _, rfl⟩ := List.mem_map.mp hl
    have := len_reachL w o r
    have := hw.len
    omega
  have c3 := hl.len
  have c4 := hw.hi
  rw [List.length_map] at c2
  have e2 := h2 _ _ _ _ (.l (ds := [dI l, dI (changedL w o ps)])) (lots_dI [l, changedL w o ps]) (by simp; omega)
  simp only [List.flatten_cons, List.flatten_nil, List.append_nil] at e2
  simp [B_behind, h1 w o l ps hw hl hp, e3, e2]
/-- step by step -/
def walkS (f : List Int → Int → List Int) : List Int → List Int → List (List Int)
  | l, [] => [l]
  | l, p :: ps => l :: walkS f (f l p) ps
theorem walkS_snoc (f : List Int → Int → List Int) (x : Int) : ∀ (ps l : List Int), walkS f l (ps ++ [x]) = walkS f l ps ++ [f (ps.foldl f l) x]
  | [], l => rfl
  | p :: ps, l => by
    rw [List.cons_append]
    unfold walkS
    rw [walkS_snoc f x ps]
    rfl
theorem walkS_last (f : List Int → Int → List Int) : ∀ (ps l : List Int), ∃ A, walkS f l ps = A ++ [ps.foldl f l]
  | [], l => ⟨[], rfl⟩
  | p :: ps, l => by
    obtain ⟨A, h⟩ := walkS_last f ps (f l p)
    exact ⟨l :: A, by unfold walkS; rw [h]; rfl⟩
theorem walkS_len (f : List Int → Int → List Int) : ∀ (ps l : List Int), (walkS f l ps).length = ps.length + 1
  | [], l => rfl
  | p :: ps, l => by unfold walkS; rw [List.length_cons, walkS_len f ps, List.length_cons]
theorem par_mem {l : List Int} {x : Int} (h : par l x = true) : x ∈ l := by
  unfold par at h
  refine List.count_pos_iff.mp ?_
  have : l.count x % 2 = 1 := by simpa using h
  omega
theorem lot_oddS {n : Int} {l : List Int} (h : ∀ x ∈ l, 0 ≤ x ∧ x < n) : Lot n (oddS l) := ⟨oddS_asc l, fun x hx => h x (par_mem (mem_oddS.mp hx))⟩
theorem mem_nearU {w : Web} {r x : Int} : x ∈ nearU w r ↔ ∃ p ∈ w.2, (r = p.1 ∧ x = p.2) ∨ (r = p.2 ∧ x = p.1) := by
  unfold nearU
  rw [List.mem_filterMap]
  constructor
  · rintro ⟨p, hp, h⟩
    refine ⟨p, hp, ?_⟩
    split at h
    · cases h
      omega
    · cases h
  · rintro ⟨p, hp, h⟩
    refine ⟨p, hp, ?_⟩
    rw [if_pos (by omega)]
    congr 1
    omega
theorem mem_nearL {w : Web} {r x : Int} : x ∈ nearL w r ↔ ∃ p ∈ w.2, (r = p.1 ∧ x = p.2) ∨ (r = p.2 ∧ x = p.1) := by
  unfold nearL
  rw [(sortI_perm _).mem_iff, mem_nearU]
theorem nodup_nearU {w : Web} (hw : WebOk w) (r : Int) : (nearU w r).Nodup := by
  unfold nearU
  have h1 := hw.asc
  have h2 := hw.dr
  generalize w.2 = ds at h1 h2
  induction ds with
  | nil => exact List.nodup_nil
  | cons p ds ih =>
    obtain ⟨a1, a2⟩ := List.pairwise_cons.mp h1
    have ih' := ih a2 fun q hq => h2 q (List.mem_cons_of_mem _ hq)
    rw [List.filterMap_cons]
    split
    · exact ih'
    · rename_i b hb
      refine List.nodup_cons.mpr ⟨fun hm => ?_, ih'⟩
      obtain ⟨q, hq, e⟩ := List.mem_filterMap.mp hm
      have l1 := a1 q hq
      have d1 := h2 p List.mem_cons_self
      have d2 := h2 q (List.mem_cons_of_mem _ hq)
      rw [ltP_iff] at l1
      split at hb
      · split at e
        · have e1 := Option.some.inj hb
          have e2 := Option.some.inj e
          omega
        · cases e
      · cases hb
theorem asc_nearL {w : Web} (hw : WebOk w) (r : Int) : Asc (nearL w r) := asc_sortI (nodup_nearU hw r)
theorem rng_nearL {w : Web} (hw : WebOk w) {r x : Int} (h : x ∈ nearL w r) : 0 ≤ x ∧ x < w.1 ∧ x ≠ r := by
  obtain ⟨p, hp, e⟩ := mem_nearL.mp h
  have := hw.dr p hp
  omega
theorem mem_reachL {w : Web} {o : Bool} {r x : Int} : x ∈ reachL w o r ↔ x ∈ nearL w r ∨ (o = true ∧ x = r) := by
  unfold reachL
  cases o with
  | false => simp
  | true => simp [(sortI_perm _).mem_iff]; exact or_comm
theorem asc_reachL {w : Web} (hw : WebOk w) (o : Bool) (r : Int) : Asc (reachL w o r) := by
  unfold reachL
  cases o with
  | false => exact asc_nearL hw r
  | true =>
    refine asc_sortI (List.nodup_cons.mpr ⟨fun h => (rng_nearL hw h).2.2 rfl, (asc_nearL hw r).imp fun z => by omega⟩)
theorem lot_reachL {w : Web} (hw : WebOk w) (o : Bool) {r : Int} (h0 : 0 ≤ r) (h1 : r < w.1) : Lot w.1 (reachL w o r) := ⟨asc_reachL hw o r, fun x hx => by
  rcases mem_reachL.mp hx with h | ⟨_, rfl⟩
  · have := rng_nearL hw h; omega
  · omega⟩
def stepF (w : Web) (o : Bool) (l : List Int) (p : Int) : List Int := oddS (l ++ reachL w o p)
def C_steps (F : Fn) : Prop := ∀ (w : Web) (o : Bool) (l ps : List Int), WebOk w → Lot w.1 l → Prs w.1 ps → F [.dat (dWeb w), .dat (kindD o), .dat (dI l), .dat (dI ps)] = some (.val (dLL (walkS (stepF w o) l ps)), [])
theorem fold_step {w : Web} (hw : WebOk w) (o : Bool) : ∀ {ps l : List Int}, (∀ x ∈ ps, 0 ≤ x ∧ x < w.1) → Lot w.1 l → Lot w.1 (ps.foldl (stepF w o) l)
  | [], l, _, h => h
  | p :: ps, l, hp, h => by
    have hr := hp p List.mem_cons_self
    refine fold_step (ps := ps) hw o (fun y hy => hp y (List.mem_cons_of_mem _ hy)) (lot_oddS fun x hx => ?_)
    rcases List.mem_append.mp hx with hx | hx
    · exact h.rng x hx
    · exact (lot_reachL hw o hr.1 hr.2).rng x hx
theorem L_steps {Φ : Nat → Fn} {i j k : Nat} (h1 : C_check_ahead (Φ i)) (h2 : C_sum_by (Φ j)) (h3 : C_reach_of (Φ k)) : C_steps (semF Φ 4 6 (B_steps i j k)) := fun w o l ps hw hl hp => by
  have hwl := hw.len
  have hwh := hw.hi
  have loop := forGo_run (f := forF Φ (.nm 5) (B_steps_s1 j k)) (e := D.int) (fun d e => e = [.dat (dWeb w), .dat (kindD o), .dat (dI l), .dat (dI ps), .own true (.lst ((walkS (stepF w o) l d).map dI)), .un]) (xs := ps) (done := []) rfl (by
    rintro d x r env he rfl
    refine ⟨_, ?_, rfl⟩
    rw [List.nil_append] at he
    have hd : ∀ y ∈ d, 0 ≤ y ∧ y < w.1 := fun y hy => hp.rng y (by rw [he]; simp [hy])
    have hx : 0 ≤ x ∧ x < w.1 := hp.rng x (by rw [he]; simp)
    obtain ⟨A, hA⟩ := walkS_last (stepF w o) d l
    have hlast := fold_step hw o hd hl
    have l1 := hlast.len
    have l2 := len_reachL w o x
    have e3 := h3 w o x (by omega)
    have e2 := h2 _ _ _ _ (.l (ds := [dI (d.foldl (stepF w o) l), lI (reachL w o x)])) (.cons (.inl rfl) (.cons (.inr rfl) .nil) : Paired LotD _ [d.foldl (stepF w o) l, reachL w o x]) (by simp; omega)
    have e4 : ixOp (.lst ((walkS (stepF w o) l d).map dI)) (.int (-1)) = some (dI (d.foldl (stepF w o) l)) := by
      rw [hA, List.map_append]
      exact ix_last.1
    have l3 : (walkS (stepF w o) l d).length < 4000000 := by
      rw [walkS_len]
      have := hp.len
      have : d.length ≤ ps.length := by rw [he]; simp
      omega
    simp only [List.flatten_cons, List.flatten_nil, List.append_nil] at e2
    rw [walkS_snoc]
    simp [forF, B_steps_s1, e4, e3, e2, l3, stepF])
  obtain ⟨e', hg, rfl⟩ := loop
  rw [List.nil_append] at hg
  have hg' : forGo (forF Φ (.nm 5) (B_steps_s1 j k)) (ps.map D.int) [.dat (dWeb w), .dat (kindD o), .dat (dI l), .dat (dI ps), .own true (.lst [dI l]), .un] = _ := hg
  simp [B_steps, h1 w o l ps hw hl hp, itStart, dictIt, hg']
def C_sum_of (F : Fn) : Prop := ∀ (w : Web) (ls : List (List Int)), WebOk w → ls.length ≤ 100 → (∀ l ∈ ls, Lot w.1 l) → F [.dat (dWeb w), .dat (dLL ls)] = some (.val (dI (oddS ls.flatten)), [])
theorem lots_len {n : Int} (hn : n ≤ 16) {ls : List (List Int)} (h : ∀ l ∈ ls, Lot n l) : ls.flatten.length ≤ ls.length * 16 := flat_len fun l hl => by have := (h l hl).len; omega
theorem L_sum_of {Φ : Nat → Fn} {i j k : Nat} (h1 : C_check_web (Φ i)) (h2 : C_sum_by (Φ j)) (h3 : C_is_lot_of (Φ k)) : C_sum_of (semF Φ 2 3 (B_sum_of i j k)) := fun w ls hw hl hs => by
  have e1 : evE Φ (B_sum_of_e1 k) [.dat (dWeb w), .dat (dLL ls), .un] = some (.new (.lst ((ls.map fun _ => true).map D.bl)), [.dat (dWeb w), .dat (dLL ls), .un]) :=
    lc_map dI D.bl _ (by simp [itStart, dictIt]) (by omega) rfl fun x hx => by
      have h4 := h3 w (dI x) (sz_dI (by have := (hs x hx).len; have := hw.hi; omega))
      rw [lotB_dI.mpr (hs x hx)] at h4
      simp [lcF, h4]
  have e2 := h2 _ _ _ _ (.t (ds := ls.map dI)) (lots_dI ls) (by have := lots_len hw.hi hs; omega)
  have c : ¬ (100 < (ls.length : Int)) := by omega
  have e3 : (ls.all fun _ => true) = true := by simp
  simp only [List.map_map] at e1
  simp [B_sum_of, h1 w hw, e1, c, e2, e3]
def C_is_quiet (F : Fn) : Prop := ∀ (w : Web) (o : Bool) (l : List Int), WebOk w → Lot w.1 l → F [.dat (dWeb w), .dat (kindD o), .dat (dI l)] = some (.val (.bl (decide (changedL w o l = []))), [])
theorem L_is_quiet {Φ : Nat → Fn} {i j k : Nat} (h1 : C_check_kind (Φ i)) (h2 : C_check_lot (Φ j)) (h3 : C_changed_by (Φ k)) : C_is_quiet (semF Φ 3 3 (B_is_quiet i j k)) := fun w o l hw hl => by
  have e3 := h3 w o l hw (by have := hl.len; have := hw.hi; omega)
  simp [B_is_quiet, h1 w o hw, h2 w l hw hl, e3]
def tableL (w : Web) (o : Bool) : List (List Int) := (upto w.1.toNat).map fun r => (upto w.1.toNat).map fun c => if c ∈ reachL w o r then 1 else 0
def C_table (F : Fn) : Prop := ∀ (w : Web) (o : Bool), WebOk w → F [.dat (dWeb w), .dat (kindD o)] = some (.val (dLL (tableL w o)), [])
theorem L_table {Φ : Nat → Fn} {i j : Nat} (h1 : C_check_kind (Φ i)) (h2 : C_reach_of (Φ j)) : C_table (semF Φ 2 5 (B_table i j)) := fun w o hw => by
  have hwl := hw.len
  have h0 : w.1 = (w.1.toNat : Int) := by have := hw.lo; omega
  have hn : w.1.toNat ≤ 16 := by have := hw.hi; omega
  have hr : rngOf [.int w.1] = some ((upto w.1.toNat).map D.int) := by
    rw [h0]
    exact rng_nat _ (by omega)
  have e1 : evE Φ (B_table_e1 j) [.dat (dWeb w), .dat (kindD o), .un, .un, .un] = some (.new (.lst (((upto w.1.toNat).map (reachL w o)).map lI)), [.dat (dWeb w), .dat (kindD o), .un, .un, .un]) :=
    lc_map D.int lI _ (by simp [itStart, dictIt, hr]) (by rw [len_upto]; omega) rfl fun x _ => by simp [lcF, h2 w o x (by omega)]
  have e2 : ∀ (row : List Int) (s : Slot), evE Φ (B_table_e2) [.dat (dWeb w), .dat (kindD o), s, .un, .dat (lI row)] = some (.new (.lst (((upto w.1.toNat).map fun c => if c ∈ row then (1 : Int) else 0).map D.int)), [.dat (dWeb w), .dat (kindD o), s, .un, .dat (lI row)]) := fun row s =>
    lc_map D.int D.int _ (by simp [itStart, dictIt, hr]) (by rw [len_upto]; omega) rfl fun x _ => by
      by_cases c : x ∈ row <;> simp [lcF, c]
  have e3 : evE Φ (B_table_e3) [.dat (dWeb w), .dat (kindD o), .own true (.lst (((upto w.1.toNat).map (reachL w o)).map lI)), .un, .un] = some (.new (.lst ((((upto w.1.toNat).map (reachL w o)).filterMap fun row => some ((upto w.1.toNat).map fun c => if c ∈ row then (1 : Int) else 0)).map dI)), [.dat (dWeb w), .dat (kindD o), .own true (.lst (((upto w.1.toNat).map (reachL w o)).map lI)), .un, .un]) :=
    lc_tpL lI dI _ rfl (by rw [List.length_map, len_upto]; omega) rfl (by decide) fun x _ => by
      have := e2 x (.lck true (.lst (((upto w.1.toNat).map (reachL w o)).map lI)))
      simp only [lcF, List.set_cons_succ, List.set_cons_zero, z_setD1, z_setS, List.getElem?_cons_succ, List.getElem?_cons_zero, free_un, if_true, qc_anil0, q_bi15, qa_acons1, this, qa_anil0, z_pks1, z_pks0, z_pk2, z_tuple1, z_fz1, z_wipe1, z_wipe0]
      rfl
  rw [List.filterMap_eq_map'] at e3
  simp only [List.map_map] at e1 e3
  simp [B_table, h1 w o hw, e1, e3, tableL]
end Mi

/-! MiLaw: what the laws draw and know. -/
namespace Mi
open PySem PySem.Spec PyProof.Rows L2

theorem pot_mono {c c' : Nat} {m : MO} (h : Pot c m) (hc : c ≤ c') : Pot c' m := by
  obtain ⟨o, s, n, e, h1, h2, h3, h4, h5⟩ := h
  exact ⟨o, s, n, e, h1, h2, h3, h4, by omega⟩
theorem sm_le {u : Int} (h0 : 0 ≤ u) (h : u ≤ 1000000) : sm u := by unfold sm; omega
/-- _law_of -/
def C_of (F : Fn) : Prop := ∀ (c : Nat) (mo : MO) (ds : List D) (a : Arg) (ms : List MO), Pot c mo → c < 2 ^ 20 → SqA ds a ms → ds ≠ [] → ds.length ≤ 100000 → ∃ (d : D) (mo' : MO), d ∈ ds ∧ Pot (c + 1) mo' ∧ F [.own mo, a] = some (.val d, mo' :: ms)
theorem L_of {Φ : Nat → Fn} {i : Nat} (h : C_take (Φ i)) : C_of (semF Φ 2 2 (B_q_of i)) := fun c mo ds a ms hm hc ha h0 hl => by
  have hp : 0 < ds.length := List.length_pos_iff.mpr h0
  obtain ⟨r, m', r0, r1, hm', e⟩ := h c mo hm hc ds.length (by omega) (sm_le (by omega) (by omega))
  have lt : r.toNat < ds.length := by omega
  refine ⟨ds[r.toNat], m', List.getElem_mem _, hm', ?_⟩
  have hr : ((r.toNat : Nat) : Int) = r := by omega
  obtain ⟨x1, x2⟩ := ix_nat (l := ds) r.toNat
  rw [hr, List.getElem?_eq_getElem lt] at x1 x2
  cases ha <;> simp [B_q_of, e, x1, x2]
theorem perm_erase : ∀ (l : List D) (i : Nat) (h : i < l.length), (l[i] :: l.eraseIdx i).Perm l
  | x :: l, 0, _ => .refl _
  | x :: l, i + 1, h => by
    have ih := perm_erase l i (by simpa using h)
    exact (List.Perm.swap _ _ _).trans (ih.cons x)
/-- _law_some -/
def C_some (F : Fn) : Prop := ∀ (c : Nat) (mo : MO) (ds : List D) (a : Arg) (ms : List MO) (k : Nat), Pot c mo → c + k < 2 ^ 20 → SqA ds a ms → k ≤ ds.length → ds.length ≤ 100000 →
  ∃ (fs rest : List D) (mo' : MO), (fs ++ rest).Perm ds ∧ fs.length = k ∧ Pot (c + k) mo' ∧ F [.own mo, a, .dat (.int k)] = some (.new (.lst fs), mo' :: ms)
theorem some_turn {Φ : Nat → Fn} {i : Nat} (h : C_take (Φ i)) {n : Nat} {m : MO} (hm : Pot n m) (hn : n < 2 ^ 20) {left found : List D} (s1 : Slot) (s2 : D) (x : D) (h0 : left ≠ []) (hl : left.length ≤ 100000) (hf : found.length ≤ 100000) :
    ∃ (d : D) (left' : List D) (m' : MO), (d :: left').Perm left ∧ Pot (n + 1) m' ∧ forF Φ (.nm 3) (B_q_some_s1 i) x [.own false m, s1, .dat s2, .un, .own true (.lst left), .own true (.lst found)] = some (.nx [.own false m', s1, .dat s2, .un, .own true (.lst left'), .own true (.lst (found ++ [d]))]) := by
  have hp : 0 < left.length := List.length_pos_iff.mpr h0
  obtain ⟨r, m', r0, r1, hm', e⟩ := h n m hm hn left.length (by omega) (sm_le (by omega) (by omega))
  have lt : r.toNat < left.length := by omega
  refine ⟨left[r.toNat], left.eraseIdx r.toNat, m', perm_erase left _ lt, hm', ?_⟩
  have hr : 0 ≤ r ∧ r ≤ 1099511627776 := by omega
  have hz : found.length < 4000000 := by omega
  simp [forF, B_q_some_s1, e, hr, lt, hz]
theorem some_loop {Φ : Nat → Fn} {i : Nat} (h : C_take (Φ i)) (s1 : Slot) (s2 : D) : ∀ (xs : List D) {n : Nat} {m : MO} {left found : List D}, Pot n m → n + xs.length < 2 ^ 20 → xs.length ≤ left.length → left.length ≤ 100000 → found.length + xs.length ≤ 100000 →
    ∃ (ds left' : List D) (m' : MO), (ds ++ left').Perm left ∧ ds.length = xs.length ∧ Pot (n + xs.length) m' ∧ forGo (forF Φ (.nm 3) (B_q_some_s1 i)) xs [.own false m, s1, .dat s2, .un, .own true (.lst left), .own true (.lst found)] = some (.nx [.own false m', s1, .dat s2, .un, .own true (.lst left'), .own true (.lst (found ++ ds))])
  | [], n, m, left, found, hm, _, _, _, _ => ⟨[], left, m, .refl _, rfl, hm, by simp [forGo]⟩
  | x :: xs, n, m, left, found, hm, hn, hx, hl, hf => by
    rw [List.length_cons] at hn hx hf
    obtain ⟨d, left1, m1, p1, hm1, e1⟩ := some_turn h hm (by omega) s1 s2 x (left := left) (found := found) (fun z => by rw [z] at hx; simp at hx) hl (by omega)
    have l1 := p1.length_eq
    rw [List.length_cons] at l1
    obtain ⟨ds, left', m', p2, q2, hm2, e2⟩ := some_loop h s1 s2 xs (left := left1) hm1 (by omega) (by omega) (by omega) (found := found ++ [d]) (by simp; omega)
    refine ⟨d :: ds, left', m', ?_, by simp [q2], by rw [List.length_cons, show n + (xs.length + 1) = n + 1 + xs.length by omega]; exact hm2, ?_⟩
    · rw [List.cons_append]
      exact (p2.cons d).trans p1
    · unfold forGo
      rw [e1]
      simp only
      rw [e2]
      simp
theorem L_some {Φ : Nat → Fn} {i : Nat} (h : C_take (Φ i)) : C_some (semF Φ 3 6 (B_q_some i)) := fun c mo ds a ms k hm hc ha hk hl => by
  have hlen : ((upto k).map D.int).length = k := by simp [len_upto]
  have hrg : rngOf [.int k] = some ((upto k).map D.int) := rng_nat k (by omega)
  have go : ∀ s1 : Slot, ∃ (fs left' : List D) (m' : MO), (fs ++ left').Perm ds ∧ fs.length = k ∧ Pot (c + k) m' ∧ forGo (forF Φ (.nm 3) (B_q_some_s1 i)) ((upto k).map D.int) [.own false mo, s1, .dat (.int k), .un, .own true (.lst ds), .own true (.lst [])] = some (.nx [.own false m', s1, .dat (.int k), .un, .own true (.lst left'), .own true (.lst fs)]) := fun s1 => by
    obtain ⟨fs, left', m', p, q, hm', e⟩ := some_loop h s1 (.int k) ((upto k).map D.int) (left := ds) (found := []) hm (by omega) (by omega) hl (by simp [len_upto]; omega)
    rw [hlen] at hm' q
    exact ⟨fs, left', m', p, q, hm', by simpa using e⟩
  cases ha with
  | l =>
    obtain ⟨fs, left', m', p, q, hm', e⟩ := go (.dat (.lst ds))
    exact ⟨fs, left', m', p, q, hm', by simp [B_q_some, itStart, dictIt, hrg, e]⟩
  | t =>
    obtain ⟨fs, left', m', p, q, hm', e⟩ := go (.dat (.tup ds))
    exact ⟨fs, left', m', p, q, hm', by simp [B_q_some, itStart, dictIt, hrg, e]⟩
  | o =>
    obtain ⟨fs, left', m', p, q, hm', e⟩ := go (.own false (.lst ds))
    exact ⟨fs, left', m', p, q, hm', by simp [B_q_some, itStart, dictIt, hrg, e]⟩
/-- _law_cells -/
def C_cells (F : Fn) : Prop := ∀ (ns : List Int) (k : Nat), k ≤ 100 → ∃ j : Nat, 1 ≤ j ∧ j ≤ 101 ∧ F [.dat (.scr ns), .dat (.int k)] = some (.new (.lst ((upto j).map D.int)), [])
theorem L_cells {Φ : Nat → Fn} : C_cells (semF Φ 2 2 B_q_cells) := fun ns k hk => by
  have hr : ∀ j : Nat, j ≤ 1000 → rngOf [.int (j : Int)] = some ((upto j).map D.int) := fun j hj => rng_nat j (by omega)
  have hl : ∀ j : Nat, j ≤ 1000 → (upto j).length ≤ 4000000 := fun j hj => by rw [len_upto]; omega
  have r1 : rngOf [.int 1] = some ((upto 1).map D.int) := hr 1 (by decide)
  have l1 := hl 1 (by decide)
  by_cases h1 : ns.length < k
  · by_cases h2 : 1 < ns.length
    · have h3 : (1 : Int) < ns.length := by omega
      have l2 := hl ns.length (by omega)
      exact ⟨ns.length, by omega, by omega, by simp [B_q_cells, h1, h2, h3, hr ns.length (by omega), l2]⟩
    · have h3 : ¬ (1 : Int) < ns.length := by omega
      exact ⟨1, by omega, by omega, by simp [B_q_cells, h1, h2, h3, r1, l1]⟩
  · by_cases h2 : 1 < k
    · have h3 : (1 : Int) < k := by omega
      have l2 := hl k (by omega)
      exact ⟨k, by omega, by omega, by simp [B_q_cells, h1, h2, h3, hr k (by omega), l2]⟩
    · have h3 : ¬ (1 : Int) < k := by omega
      exact ⟨1, by omega, by omega, by simp [B_q_cells, h1, h2, h3, r1, l1]⟩

/-! ### webs drawn -/
def seg (a : Int) (n : Nat) : List Int := (List.range n).map fun (i : Nat) => a + (i : Int)
theorem seg_D (a : Int) (n : Nat) : rangeD a n = (seg a n).map D.int := by
  unfold rangeD seg
  rw [List.map_map]
  rfl
theorem mem_seg {a x : Int} {n : Nat} : x ∈ seg a n ↔ a ≤ x ∧ x < a + n := by
  unfold seg
  rw [List.mem_map]
  constructor
  · rintro ⟨i, hi, rfl⟩
    have := List.mem_range.mp hi
    omega
  · intro h
    exact ⟨(x - a).toNat, List.mem_range.mpr (by omega), by omega⟩
theorem asc_seg (a : Int) (n : Nat) : Asc (seg a n) := by
  unfold seg
  rw [Asc, List.pairwise_map]
  exact List.pairwise_lt_range.imp fun h => by omega
theorem len_seg (a : Int) (n : Nat) : (seg a n).length = n := by simp [seg]
theorem rng_two {a b : Int} (ha : 0 ≤ a ∧ a ≤ 1000000) (hb : 0 ≤ b ∧ b ≤ 1000000) : rngOf [.int a, .int b] = some ((seg a (b - a).toNat).map D.int) := by
  rw [← seg_D]
  simp only [rngOf]
  rw [if_pos (by omega)]
/-- pairs of rooms below n, in order -/
structure PInv (n : Int) (ps : List (Int × Int)) : Prop where
  asc : AscS ps
  dr : ∀ p ∈ ps, 0 ≤ p.1 ∧ p.1 < p.2 ∧ p.2 < n
theorem ltP_irr {p : Int × Int} : ¬ ltP p p = true := fun h => by rw [ltP_iff] at h; omega
theorem PInv.nodup {n : Int} {ps : List (Int × Int)} (h : PInv n ps) : ps.Nodup := h.asc.imp fun {p q} z => by rintro rfl; exact ltP_irr z
theorem PInv.len {n : Int} (hn : n ≤ 16) {ps : List (Int × Int)} (h : PInv n ps) : ps.length ≤ 256 := by
  have := len_pairs (n := 16) h.nodup fun p hp => by
    have := h.dr p hp
    omega
  omega
theorem PInv.filter {n : Int} {ps : List (Int × Int)} (h : PInv n ps) (c : Int × Int → Bool) : PInv n (ps.filter c) := ⟨h.asc.filter _, fun p hp => h.dr p (List.mem_filter.mp hp).1⟩
theorem sortP_ascS {ps : List (Int × Int)} (h : ps.Nodup) : AscS (sortP ps) := by
  have h1 := sortP_asc ps
  have h2 : (sortP ps).Nodup := (sortP_perm ps).nodup_iff.mpr h
  refine (h1.and h2).imp fun {a b} ⟨x, y⟩ => ?_
  rw [leP_iff] at x
  rw [ltP_iff]
  have : ¬ (a.1 = b.1 ∧ a.2 = b.2) := fun z => y (Prod.ext z.1 z.2)
  omega
theorem web_of {n : Int} (h1 : 1 ≤ n) (h2 : n ≤ 16) {ps : List (Int × Int)} (hn : ps.Nodup) (hd : ∀ p ∈ ps, 0 ≤ p.1 ∧ p.1 < p.2 ∧ p.2 < n) : WebOk (n, sortP ps) :=
  ⟨h1, h2, fun p hp => hd p ((sortP_perm ps).mem_iff.mp hp), sortP_ascS hn⟩
theorem pairs_e1 {Φ : Nat → Fn} {n x : Int} {s0 s2 s5 s6 : Slot} (hx : 0 ≤ x ∧ x < n) (hn : n ≤ 16) : evE Φ B_q_web_e1 [s0, .dat (.int n), s2, .dat (.int x), .un, s5, s6, .un] = some (.new (.lst (((seg (x + 1) (n - (x + 1)).toNat).map fun b => (x, b)).map prD)), [s0, .dat (.int n), s2, .dat (.int x), .un, s5, s6, .un]) :=
  lc_map D.int prD _ (by simp [itStart, dictIt, rng_two (a := x + 1) (b := n) (by omega) (by omega)]) (by rw [len_seg]; omega) rfl fun b _ => by simp [lcF, prD]
theorem pinv_app {n x : Int} {d : List Int} {ps : List (Int × Int)} (h : PInv n ps) (hd : ∀ p ∈ ps, p.1 ∈ d) (hx : ∀ y ∈ d, y < x) (h0 : 0 ≤ x) : PInv n (ps ++ (seg (x + 1) (n - (x + 1)).toNat).map fun b => (x, b)) := by
  refine ⟨List.pairwise_append.mpr ⟨h.asc, ?_, fun p hp q hq => ?_⟩, fun p hp => ?_⟩
  · rw [List.pairwise_map]
    refine (asc_seg _ _).imp fun {a b} z => ?_
    rw [ltP_iff]
    omega
  · obtain ⟨b, _, rfl⟩ := List.mem_map.mp hq
    have := hx _ (hd p hp)
    rw [ltP_iff]
    omega
  · rcases List.mem_append.mp hp with hp | hp
    · exact h.dr p hp
    · obtain ⟨b, hb, rfl⟩ := List.mem_map.mp hp
      have := mem_seg.mp hb
      simp only
      omega
theorem upto_before {n : Nat} {d r : List Int} {x : Int} (h : upto n = d ++ x :: r) : (∀ y ∈ d, y < x) ∧ 0 ≤ x ∧ x < n := by
  have h1 := asc_upto n
  rw [h] at h1
  have h2 := List.pairwise_append.mp h1
  refine ⟨fun y hy => h2.2.2 y hy x List.mem_cons_self, ?_⟩
  have : x ∈ upto n := by rw [h]; simp
  exact mem_upto.mp this
def C_web4 (F : Fn) : Prop := ∀ (c : Nat) (mo : MO) (n : Int) (most : Int), Pot c mo → c + 300 < 2 ^ 20 → 1 ≤ n → n ≤ 16 → 0 ≤ most → most ≤ 1000 → ∃ (w : Web) (mo' : MO), WebOk w ∧ w.1 = n ∧ Pot (c + 300) mo' ∧ F [.own mo, .dat (.int n), .dat (.int most)] = some (.val (dWeb w), [mo'])
theorem L_web4 {Φ : Nat → Fn} {i j : Nat} (h1 : C_take (Φ i)) (h2 : C_some (Φ j)) : C_web4 (semF Φ 3 8 (B_q_web i j)) := fun c mo n most hm hc n1 n16 m0 m1 => by
  obtain ⟨way, mo1, w0, w5, hm1, e1⟩ := h1 c mo hm (by omega) 5 (by decide) (sm_le (by decide) (by decide))
  have hnn : ((n.toNat : Nat) : Int) = n := by omega
  have hr : rngOf [.int n] = some ((upto n.toNat).map D.int) := by
    have := rng_nat n.toNat (by omega)
    rwa [hnn] at this
  -- all pairs
  have loop := forGo_run (f := forF Φ (.nm 3) B_q_web_s1) (e := D.int) (fun d e => ∃ ps : List (Int × Int), PInv n ps ∧ (∀ p ∈ ps, p.1 ∈ d) ∧ e = [.own false mo1, .dat (.int n), .dat (.int most), .un, .un, .own true (.lst (ps.map prD)), .dat (.int way), .un]) (xs := upto n.toNat) (done := []) ⟨[], ⟨.nil, fun p hp => (by cases hp)⟩, fun p hp => (by cases hp), rfl⟩ (by
    rintro d x r env he ⟨ps, hi, hd, rfl⟩
    obtain ⟨b1, b2, b3⟩ := upto_before he
    have e2 := pairs_e1 (Φ := Φ) (n := n) (x := x) (s0 := .own false mo1) (s2 := .dat (.int most)) (s5 := .own true (.lst (ps.map prD))) (s6 := .dat (.int way)) (by omega) n16
    have hi' := pinv_app hi hd b1 b2
    have l1 := hi'.len n16
    rw [List.length_append, List.length_map] at l1
    have l2 : ps.length + (seg (x + 1) (n - (x + 1)).toNat).length ≤ 4000000 := by omega
    refine ⟨_, ?_, _, hi', fun p hp => ?_, rfl⟩
    · simp only [List.map_map] at e2
      simp [forF, B_q_web_s1, e2, l2]
    · rcases List.mem_append.mp hp with hp | hp
      · exact List.mem_append_left _ (hd p hp)
      · obtain ⟨b, _, rfl⟩ := List.mem_map.mp hp
        simp)
  obtain ⟨e', hg, ps, hi, _, rfl⟩ := loop
  -- neighbours alone
  obtain ⟨qs, hq, e3⟩ : ∃ qs : List (Int × Int), PInv n qs ∧ evS Φ B_q_web_t3 [.own false mo1, .dat (.int n), .dat (.int most), .un, .un, .own true (.lst (ps.map prD)), .dat (.int way), .un] = some (.nx [.own false mo1, .dat (.int n), .dat (.int most), .un, .un, .own true (.lst (qs.map prD)), .dat (.int way), .un]) := by
    by_cases hw : way = 0
    · subst hw
      refine ⟨ps.filter fun p => decide (p.2 = p.1 + 1), hi.filter _, ?_⟩
      have e4 : evE Φ B_q_web_e2 [.own false mo1, .dat (.int n), .dat (.int most), .un, .un, .own true (.lst (ps.map prD)), .dat (.int 0), .un] = some (.new (.lst ((ps.filter fun p => decide (p.2 = p.1 + 1)).map prD)), [.own false mo1, .dat (.int n), .dat (.int most), .un, .un, .own true (.lst (ps.map prD)), .dat (.int 0), .un]) := by
        refine lc_filterL prD _ rfl (by have := hi.len n16; omega) rfl (by decide) ?_
        rintro ⟨a, b⟩ _
        by_cases hc : b = a + 1
        · subst hc; simp [lcF, prD]
        · simp [lcF, prD, hc]
      simp [B_q_web_t3, e4]
    · exact ⟨ps, hi, by simp [B_q_web_t3, hw]⟩
  have hql := hq.len n16
  -- doors
  obtain ⟨ds, dsl, s5, mo2, hds, hm2, e5, s5f⟩ : ∃ (ds : List (Int × Int)) (dsl : Slot) (s5 : Slot) (mo2 : MO), (ds.Nodup ∧ ∀ p ∈ ds, 0 ≤ p.1 ∧ p.1 < p.2 ∧ p.2 < n) ∧ Pot (c + 300) mo2 ∧ evS Φ (B_q_web_t4 i j) [.own false mo1, .dat (.int n), .dat (.int most), .un, .un, .own true (.lst (qs.map prD)), .dat (.int way), .un] = some (.nx [.own false mo2, .dat (.int n), .dat (.int most), .un, dsl, s5, .dat (.int way), .un]) ∧ (dsl = .dat (.lst (ds.map prD)) ∨ dsl = .own true (.lst (ds.map prD))) := by
    by_cases hw : way < 2
    · exact ⟨qs, .dat (.lst (qs.map prD)), .dat (.lst (qs.map prD)), mo1, ⟨hq.nodup, hq.dr⟩, pot_mono hm1 (by omega), by simp [B_q_web_t4, hw], .inl rfl⟩
    · obtain ⟨r, mo2, r0, r1, hm2, e6⟩ := h1 (c + 1) mo1 hm1 (by omega) (most + 1) (by omega) (sm_le (by omega) (by omega))
      obtain ⟨k, hk, hk2⟩ : ∃ k : Nat, ((k : Nat) : Int) = (if r < (qs.length : Int) then r else (qs.length : Int)) ∧ k ≤ qs.length := by
        refine ⟨(if r < (qs.length : Int) then r else (qs.length : Int)).toNat, ?_, ?_⟩ <;> split <;> omega
      obtain ⟨fs, rest, mo3, hp, hfl, hm3, e7⟩ := h2 (c + 1 + 1) mo2 (qs.map prD) _ _ k hm2 (by omega) .o (by rw [List.length_map]; exact hk2) (by rw [List.length_map]; omega)
      obtain ⟨us, hu, hup⟩ := permD hp
      obtain ⟨vs, ws, rfl, rfl, hvw⟩ : ∃ vs ws : List (Int × Int), fs = vs.map prD ∧ rest = ws.map prD ∧ us = vs ++ ws := by
        obtain ⟨vs, ws, h1, h2, h3⟩ := List.map_eq_append_iff.mp hu.symm
        exact ⟨vs, ws, h2.symm, h3.symm, h1⟩
      have nd : (vs ++ ws).Nodup := by rw [← hvw]; exact hup.nodup_iff.mpr hq.nodup
      refine ⟨vs, .own true (.lst (vs.map prD)), .own true (.lst (qs.map prD)), mo3, ⟨(List.nodup_append.mp nd).1, fun p hp => hq.dr p (hup.mem_iff.mp (by rw [hvw]; exact List.mem_append_left _ hp))⟩, pot_mono hm3 (by omega), ?_, .inr rfl⟩
      rw [hk] at e7
      simp [B_q_web_t4, hw, e6, e7]
  refine ⟨(n, sortP ds), mo2, web_of n1 n16 hds.1 hds.2, rfl, hm2, ?_⟩
  have hg0 : forGo (forF Φ (.nm 3) B_q_web_s1) ((upto n.toNat).map D.int) [.own false mo1, .dat (.int n), .dat (.int most), .un, .un, .own true (.lst []), .dat (.int way), .un] = _ := hg
  have f1 : evS Φ (B_q_web_t1 i) [.own false mo, .dat (.int n), .dat (.int most), .un, .un, .un, .un, .un] = some (.nx [.own false mo1, .dat (.int n), .dat (.int most), .un, .un, .own true (.lst []), .dat (.int way), .un]) := by
    simp [B_q_web_t1, e1]
  have f2 : evS Φ B_q_web_t2 [.own false mo1, .dat (.int n), .dat (.int most), .un, .un, .own true (.lst []), .dat (.int way), .un] = some (.nx [.own false mo1, .dat (.int n), .dat (.int most), .un, .un, .own true (.lst (ps.map prD)), .dat (.int way), .un]) := by
    simp [B_q_web_t2, itStart, dictIt, hr, hg0]
  have f5 : evS Φ B_q_web_t5 [.own false mo2, .dat (.int n), .dat (.int most), .un, dsl, s5, .dat (.int way), .un] = some (.rt (.val (dWeb (n, sortP ds))) [.own false mo2, .dat (.int n), .dat (.int most), .un, dsl, s5, .dat (.int way), .un]) := by
    rcases s5f with rfl | rfl <;> simp [B_q_web_t5, bi_sortedP]
  simp [B_q_web, f1, f2, e3, e5, f5]

/-! ### the law's own reach, sum, lots -/
def lreachU (w : Web) (r : Int) : List Int := (upto w.1.toNat).filter fun x => decide ((if x < r then x else r, if x > r then x else r) ∈ w.2)
theorem lreachU_eq {w : Web} (hw : WebOk w) {r : Int} : lreachU w r = nearL w r := by
  refine asc_ext ((asc_upto _).filter _) (asc_nearL hw r) fun x => ?_
  unfold lreachU
  rw [List.mem_filter, mem_upto, decide_eq_true_eq, mem_nearL]
  have h1 := hw.lo
  constructor
  · rintro ⟨hx, h⟩
    refine ⟨_, h, ?_⟩
    have := hw.dr _ h
    simp only at this ⊢
    by_cases c : x < r
    · rw [if_pos c, if_neg (by omega)] at *
      omega
    · by_cases c2 : x > r
      · rw [if_neg c, if_pos c2] at *
        omega
      · rw [if_neg c, if_neg c2] at this
        omega
  · rintro ⟨p, hp, h⟩
    have hd := hw.dr p hp
    refine ⟨by omega, ?_⟩
    rcases h with ⟨rfl, rfl⟩ | ⟨rfl, rfl⟩
    · rw [if_neg (by omega), if_pos (by omega)]
      exact hp
    · rw [if_pos (by omega), if_neg (by omega)]
      exact hp
def C_lreach (F : Fn) : Prop := ∀ (w : Web) (o : Bool) (r : Int), WebOk w → F [.dat (dWeb w), .dat (kindD o), .dat (.int r)] = some (.new (.lst ((reachL w o r).map D.int)), [])
theorem sortI_perm_eq {a b : List Int} (h : a.Perm b) : sortI a = sortI b := sort_one ((sortI_perm a).trans (h.trans (sortI_perm b).symm)) (sortI_asc a) (sortI_asc b)
theorem L_lreach {Φ : Nat → Fn} : C_lreach (semF Φ 3 5 B_q_reach) := fun w o r hw => by
  have hwl := hw.len
  have hlo := hw.lo
  have hhi := hw.hi
  have h0 : ((w.1.toNat : Nat) : Int) = w.1 := by omega
  have hr : rngOf [.int w.1] = some ((upto w.1.toNat).map D.int) := by
    have := rng_nat w.1.toNat (by omega)
    rwa [h0] at this
  have e1 : evE Φ B_q_reach_e1 [.dat (dWeb w), .dat (kindD o), .dat (.int r), .un, .un] = some (.new (.lst ((lreachU w r).map D.int)), [.dat (dWeb w), .dat (kindD o), .dat (.int r), .un, .un]) := by
    refine lc_filter D.int _ (by simp [itStart, dictIt, hr]) (by rw [len_upto]; omega) rfl fun x _ => ?_
    have := in_prs (if x < r then x else r) (if x > r then x else r) w.2
    by_cases c : (if x < r then x else r, if x > r then x else r) ∈ w.2
    · simp only [gt_iff_lt] at this c
      simp [lcF, this, c]
    · simp only [gt_iff_lt] at this c
      simp [lcF, this, c]
  rw [lreachU_eq hw] at e1
  have l1 := len_nearL w r
  cases o with
  | false => simp [B_q_reach, e1, reachL]
  | true =>
    have e2 : biOp .sorted [.lst ((nearL w r).map D.int ++ [D.int r])] = some (.new (.lst ((sortI (r :: nearL w r)).map D.int))) := by
      have := bi_sorted (nearL w r ++ [r])
      rw [List.map_append] at this
      rw [show (List.map D.int [r] : List D) = [D.int r] from rfl] at this
      rw [this, sortI_perm_eq (List.perm_append_singleton r (nearL w r))]
    have l2 : (nearL w r).length + 1 ≤ 4000000 := by omega
    simp [B_q_reach, e1, reachL, binOp, l2, e2]
def C_lchanged (F : Fn) : Prop := ∀ (w : Web) (o : Bool) (ps : List Int), WebOk w → ps.length ≤ 1000 → F [.dat (dWeb w), .dat (kindD o), .dat (dI ps)] = some (.val (dI (changedL w o ps)), [])
theorem L_lchanged {Φ : Nat → Fn} {i j : Nat} (h1 : C_sum_by (Φ i)) (h2 : C_lreach (Φ j)) : C_lchanged (semF Φ 3 4 (B_q_changed i j)) := fun w o ps hw hp => by
  have e1 : evE Φ (B_q_changed_e1 j) [.dat (dWeb w), .dat (kindD o), .dat (dI ps), .un] = some (.new (.lst ((ps.map (reachL w o)).map lI)), [.dat (dWeb w), .dat (kindD o), .dat (dI ps), .un]) :=
    lc_map D.int lI _ (by simp [itStart, dictIt]) (by omega) rfl fun x _ => by simp [lcF, h2 w o x hw]
  have e2 := h1 _ _ _ _ (.l (ds := (ps.map (reachL w o)).map lI)) (lots_lI _) (changed_len hw o hp)
  simp only [List.map_map] at e1 e2
  simp [B_q_changed, e1, e2, changedL]
/-- all lots of rooms below n, by doubling -/
def lotsU : Nat → List (List Int)
  | 0 => [[]]
  | n + 1 => lotsU n ++ (lotsU n).map (· ++ [(n : Int)])
theorem lotsU_len (n : Nat) : (lotsU n).length = 2 ^ n := by
  induction n with
  | zero => rfl
  | succ n ih => unfold lotsU; rw [List.length_append, List.length_map, ih, Nat.pow_succ]; omega
theorem lotsU_lot : ∀ {n : Nat} {l : List Int}, l ∈ lotsU n → Lot n l
  | 0, l, h => by
    unfold lotsU at h
    simp at h
    subst h
    exact ⟨.nil, fun x hx => by cases hx⟩
  | n + 1, l, h => by
    unfold lotsU at h
    rcases List.mem_append.mp h with h | h
    · have := lotsU_lot h
      exact ⟨this.asc, fun x hx => by have := this.rng x hx; omega⟩
    · obtain ⟨l', h', rfl⟩ := List.mem_map.mp h
      have q := lotsU_lot h'
      refine ⟨List.pairwise_append.mpr ⟨q.asc, List.pairwise_singleton _ _, fun a ha b hb => ?_⟩, fun x hx => ?_⟩
      · have := q.rng a ha
        simp at hb
        omega
      · rcases List.mem_append.mp hx with hx | hx
        · have := q.rng x hx; omega
        · simp at hx; omega
theorem mem_lotsU : ∀ {n : Nat} {l : List Int}, Lot n l → l ∈ lotsU n
  | 0, l, h => by
    cases l with
    | nil => simp [lotsU]
    | cons x l => have := h.rng x List.mem_cons_self; omega
  | n + 1, l, h => by
    unfold lotsU
    rw [List.mem_append]
    by_cases hn : (n : Int) ∈ l
    · refine .inr (List.mem_map.mpr ⟨l.filter fun x => decide (x < n), mem_lotsU ⟨h.asc.filter _, fun x hx => ?_⟩, ?_⟩)
      · obtain ⟨h1, h2⟩ := List.mem_filter.mp hx
        have := h.rng x h1
        simp at h2
        omega
      · refine asc_ext (List.pairwise_append.mpr ⟨h.asc.filter _, List.pairwise_singleton _ _, fun a ha b hb => ?_⟩) h.asc fun x => ?_
        · simp at ha hb
          omega
        · simp only [List.mem_append, List.mem_filter, List.mem_singleton, decide_eq_true_eq]
          constructor
          · rintro (z | rfl)
            · exact z.1
            · exact hn
          · intro z
            have := h.rng x z
            by_cases c : x = n
            · exact .inr c
            · exact .inl ⟨z, by omega⟩
    · exact .inl (mem_lotsU ⟨h.asc, fun x hx => by
        have := h.rng x hx
        have : x ≠ n := fun z => hn (z ▸ hx)
        omega⟩)
def C_lots (F : Fn) : Prop := ∀ n : Nat, n ≤ 16 → F [.dat (.int n)] = some (.new (.lst ((lotsU n).map dI)), [])
theorem L_lots {Φ : Nat → Fn} : C_lots (semF Φ 1 4 B_q_lots) := fun n hn => by
  have hr := rng_nat n (by omega)
  have loop := forGo_run (f := forF Φ (.nm 2) B_q_lots_s1) (e := D.int) (fun d e => e = [.dat (.int n), .own true (.lst ((lotsU d.length).map dI)), .un, .un]) (xs := upto n) (done := []) rfl (by
    rintro d x r env he rfl
    rw [List.nil_append] at he
    have hd : (d.length : Int) = x := by
      have h1 : (upto n)[d.length]? = some x := by rw [he]; simp
      unfold upto at h1
      rw [List.getElem?_map] at h1
      cases q : (List.range n)[d.length]? with
      | none => rw [q] at h1; cases h1
      | some y =>
        rw [q] at h1
        cases h1
        obtain ⟨_, hy⟩ := List.getElem?_eq_some_iff.mp q
        rw [List.getElem_range] at hy
        rw [hy]
    have hdn : d.length < n := by
      have := congrArg List.length he
      rw [len_upto] at this
      simp at this
      omega
    have hl : (lotsU d.length).length ≤ 65536 := by
      rw [lotsU_len]
      exact Nat.le_trans (Nat.pow_le_pow_right (by decide) (show d.length ≤ 16 by omega)) (by decide)
    have e1 : evE Φ B_q_lots_e1 [.dat (.int n), .own true (.lst ((lotsU d.length).map dI)), .dat (.int x), .un] = some (.new (.lst (((lotsU d.length).filterMap fun l => some (l ++ [x])).map dI)), [.dat (.int n), .own true (.lst ((lotsU d.length).map dI)), .dat (.int x), .un]) := by
      refine lc_tpL dI dI _ rfl (by omega) rfl (by decide) fun l hl' => ?_
      have h5 := (lotsU_lot hl').len
      have h6 : l.length + 1 ≤ 4000000 := by omega
      simp [lcF, binOp, h6]
    rw [List.filterMap_eq_map'] at e1
    refine ⟨_, ?_, rfl⟩
    have h7 : (lotsU d.length).length + (lotsU d.length).length ≤ 4000000 := by omega
    simp only [List.map_map] at e1
    rw [List.length_append, List.length_singleton, show lotsU (d.length + 1) = lotsU d.length ++ (lotsU d.length).map (· ++ [(d.length : Int)]) from rfl, hd]
    simp [forF, B_q_lots_s1, e1, binOp, h7])
  obtain ⟨e', hg, rfl⟩ := loop
  rw [List.nil_append, len_upto] at hg
  have hg0 : forGo (forF Φ (.nm 2) B_q_lots_s1) ((upto n).map D.int) [.dat (.int n), .own true (.lst [.tup []]), .un, .un] = _ := hg
  have hn2 : n ≤ 1000000 := by omega
  simp [B_q_lots, itStart, dictIt, hr, hg0, hn2]
end Mi

/-! MiXor: oddness over lists; what presses change depends on how often each is pressed, oddly. Plain Lean. -/
namespace Mi
def xr (f : Int → Bool) (l : List Int) : Bool := l.foldr (fun p b => f p ^^ b) false
theorem xr_nil (f : Int → Bool) : xr f [] = false := rfl
theorem xr_cons (f : Int → Bool) (a : Int) (l : List Int) : xr f (a :: l) = (f a ^^ xr f l) := rfl
theorem xr_app (f : Int → Bool) : ∀ a b : List Int, xr f (a ++ b) = (xr f a ^^ xr f b)
  | [], b => by simp [xr]
  | x :: a, b => by rw [List.cons_append, xr_cons, xr_cons, xr_app f a b, Bool.xor_assoc]
theorem xr_perm {f : Int → Bool} {a b : List Int} (h : a.Perm b) : xr f a = xr f b := by
  induction h with
  | nil => rfl
  | cons x _ ih => rw [xr_cons, xr_cons, ih]
  | swap x y l => rw [xr_cons, xr_cons, xr_cons, xr_cons, Bool.xor_left_comm]
  | trans _ _ i1 i2 => rw [i1, i2]
theorem xr_zero (f : Int → Bool) : ∀ (n : Nat) (l : List Int), l.length ≤ n → (∀ x, par l x = false) → xr f l = false
  | _, [], _, _ => rfl
  | 0, x :: l, h, _ => by simp at h
  | n + 1, x :: l, h, hp => by
    have h1 := hp x
    rw [par_cons] at h1
    have h2 : par l x = true := by simpa using h1
    have hm : x ∈ l := par_mem h2
    have hperm := List.perm_cons_erase hm
    have ih := xr_zero f n (l.erase x) (by have := hperm.length_eq; simp at this h; omega) fun y => by
      have e := hp y
      rw [par_cons, par_perm hperm y, par_cons, ← Bool.xor_assoc, Bool.xor_self, Bool.false_xor] at e
      exact e
    rw [xr_cons, xr_perm hperm, xr_cons, ih]
    simp
/-- only oddness counts -/
theorem xr_par (f : Int → Bool) {a b : List Int} (h : ∀ x, par a x = par b x) : xr f a = xr f b := by
  have := xr_zero f (a ++ b).length (a ++ b) (Nat.le_refl _) fun x => by rw [par_app, h x, Bool.xor_self]
  rw [xr_app] at this
  revert this
  cases xr f a <;> cases xr f b <;> simp
theorem xr_oddS (f : Int → Bool) (l : List Int) : xr f (oddS l) = xr f l := xr_par f fun x => par_oddS l x
theorem par_flat (g : Int → List Int) (x : Int) : ∀ ps : List Int, par (ps.map g).flatten x = xr (fun p => par (g p) x) ps
  | [] => rfl
  | p :: ps => by rw [List.map_cons, List.flatten_cons, par_app, par_flat g x ps, xr_cons]
theorem xr_flat (f : Int → Bool) : ∀ ls : List (List Int), xr f ls.flatten = (ls.map (xr f)).foldr (fun a b => a ^^ b) false
  | [] => rfl
  | l :: ls => by rw [List.flatten_cons, xr_app, xr_flat f ls]; rfl
theorem par_flatL (x : Int) : ∀ ls : List (List Int), par ls.flatten x = (ls.map fun l => par l x).foldr (fun a b => a ^^ b) false
  | [] => rfl
  | l :: ls => by rw [List.flatten_cons, par_app, par_flatL x ls]; rfl
theorem changed_par {w : Web} {o : Bool} {a b : List Int} (h : ∀ x, par a x = par b x) : changedL w o a = changedL w o b :=
  oddS_congr fun x => by rw [par_flat, par_flat]; exact xr_par _ h
theorem changed_sum (w : Web) (o : Bool) (ls : List (List Int)) : changedL w o (oddS ls.flatten) = oddS (ls.map (changedL w o)).flatten := by
  refine oddS_congr fun x => ?_
  rw [par_flat, xr_oddS, xr_flat, par_flatL, List.map_map]
  congr 1
  refine List.map_congr_left fun l _ => ?_
  show xr _ l = par (changedL w o l) x
  rw [changedL, par_oddS, par_flat]
theorem once_par {n : Nat} {ps : List Int} (h : ∀ x ∈ ps, 0 ≤ x ∧ x < n) (x : Int) : par ((upto n).filter fun x => par ps x) x = par ps x := by
  rw [par_asc ((asc_upto n).filter _)]
  cases c : par ps x with
  | false => simp [List.mem_filter, c]
  | true =>
    have := h x (par_mem c)
    simp [List.mem_filter, c, mem_upto, this]
theorem mem_near_sym {w : Web} {r x : Int} : x ∈ nearL w r ↔ r ∈ nearL w x := by
  rw [mem_nearL, mem_nearL]
  constructor
  · rintro ⟨p, hp, h⟩; exact ⟨p, hp, by omega⟩
  · rintro ⟨p, hp, h⟩; exact ⟨p, hp, by omega⟩
theorem mem_reach_sym {w : Web} {o : Bool} {r x : Int} : x ∈ reachL w o r ↔ r ∈ reachL w o x := by
  rw [mem_reachL, mem_reachL, mem_near_sym]
  constructor
  · rintro (h | ⟨h, e⟩)
    · exact .inl h
    · exact .inr ⟨h, e.symm⟩
  · rintro (h | ⟨h, e⟩)
    · exact .inl h
    · exact .inr ⟨h, e.symm⟩
end Mi

/-! MiShow: what may be shown, and that the same is shown the same. -/
namespace Mi
open PySem PySem.Spec PyProof.Rows L2

mutual
def fi : D → Bool
  | .int i => decide (0 ≤ i) && decide (i < 1000)
  | .bl _ => true
  | .non => true
  | .tup ds => fiA ds
  | .lst ds => fiA ds
  | _ => false
def fiA : List D → Bool
  | [] => true
  | d :: ds => fi d && fiA ds
end
theorem nat_fi : ((List.range 1000).all fun (i : Nat) => (PyData.int (i : Int)).intsShort 13 && (PyData.int (i : Int)).showable && decide ((PyData.int (i : Int)).weight ≤ 10) && PyData.strOk (PyData.int (i : Int)).shown) = true := by decide +kernel
theorem int_fi {i : Int} (h : 0 ≤ i ∧ i < 1000) : (PyData.int i).intsShort 13 = true ∧ (PyData.int i).showable = true ∧ (PyData.int i).weight ≤ 10 ∧ PyData.strOk (PyData.int i).shown = true := by
  have := List.all_eq_true.mp nat_fi i.toNat (List.mem_range.mpr (by omega))
  rw [show ((i.toNat : Nat) : Int) = i by omega] at this
  simp only [Bool.and_eq_true, decide_eq_true_eq] at this
  exact ⟨this.1.1.1, this.1.1.2, this.1.2, this.2⟩
mutual
theorem fi_ok : ∀ d : D, fi d = true → d.py.canLay0 = true ∧ d.py.intsShort 13 = true ∧ d.py.showable = true ∧ d.py.hasDict = false
  | .int i, h => by
    have h' : 0 ≤ i ∧ i < 1000 := by simpa [fi] using h
    exact ⟨rfl, (int_fi h').1, (int_fi h').2.1, rfl⟩
  | .tup ds, h => by
    obtain ⟨a, b, c, d⟩ := fiA_ok ds (by simpa [fi] using h)
    simp only [D.py]
    exact ⟨by simpa [PyData.canLay0] using a, by simpa [PyData.intsShort] using b, by simpa [PyData.showable] using c, by simpa [PyData.hasDict] using d⟩
  | .lst ds, h => by
    obtain ⟨a, b, c, d⟩ := fiA_ok ds (by simpa [fi] using h)
    simp only [D.py]
    exact ⟨by simpa [PyData.canLay0] using a, by simpa [PyData.intsShort] using b, by simpa [PyData.showable] using c, by simpa [PyData.hasDict] using d⟩
  | .non, h => ⟨rfl, rfl, rfl, rfl⟩
  | .bl b, h => ⟨rfl, rfl, by cases b <;> decide +kernel, rfl⟩
  | .str _, h => by simp [fi] at h
  | .scr _, h => by simp [fi] at h
theorem fiA_ok : ∀ ds : List D, fiA ds = true → PyData.canLayAll0 (D.pyA ds) = true ∧ PyData.intsShortAll 13 (D.pyA ds) = true ∧ PyData.showableAll (D.pyA ds) = true ∧ PyData.hasDictAll (D.pyA ds) = false
  | [], _ => ⟨rfl, rfl, rfl, rfl⟩
  | d :: ds, h => by
    have h' : fi d = true ∧ fiA ds = true := by simpa [fiA] using h
    obtain ⟨a, b, c, e⟩ := fi_ok d h'.1
    obtain ⟨a', b', c', e'⟩ := fiA_ok ds h'.2
    simp only [D.pyA]
    exact ⟨by simp [PyData.canLayAll0, a, a'], by simp [PyData.intsShortAll, b, b'], by simp [PyData.showableAll, c, c'], by simp [PyData.hasDictAll, e, e']⟩
end
theorem strOk_app (x y : Str) : PyData.strOk (x ++ y) = (PyData.strOk x && PyData.strOk y) := by
  show (x.cps ++ y.cps).all _ = _
  rw [Array.all_append]
  rfl
theorem strOk_join (sep : Str) (hs : PyData.strOk sep = true) : ∀ ts : List Str, (∀ t ∈ ts, PyData.strOk t = true) → PyData.strOk (Str.join sep ts) = true
  | [], _ => by
    show PyData.strOk ⟨#[]⟩ = true
    decide +kernel
  | [t], h => h t List.mem_cons_self
  | t :: u :: r, h => by
    have ih := strOk_join sep hs (u :: r) fun x hx => h x (List.mem_cons_of_mem _ hx)
    show PyData.strOk (t ++ sep ++ Str.join sep (u :: r)) = true
    rw [strOk_app, strOk_app, h t List.mem_cons_self, hs, ih]
    rfl
theorem strOk_tup (ts : List Str) (h : ∀ t ∈ ts, PyData.strOk t = true) : PyData.strOk (tupleText ts) = true := by
  unfold tupleText
  rw [strOk_app, strOk_app, strOk_join _ (by decide +kernel) ts h]
  have h1 : PyData.strOk (Str.ofString "(") = true := by decide +kernel
  rw [h1]
  split
  · decide +kernel
  · decide +kernel
theorem strOk_from : ∀ (ts : List Str) (i : Nat) (acc : Str), PyData.strOk acc = true → (∀ t ∈ ts, PyData.strOk t = true) → PyData.strOk (textFrom i acc ts) = true
  | [], i, acc, ha, _ => ha
  | t :: ts, i, acc, ha, h => by
    unfold textFrom
    refine strOk_from ts _ _ ?_ fun x hx => h x (List.mem_cons_of_mem _ hx)
    rw [strOk_app, strOk_app, ha, h t List.mem_cons_self]
    split <;> decide +kernel
theorem strOk_lst (ts : List Str) (h : ∀ t ∈ ts, PyData.strOk t = true) : PyData.strOk (listText ts) = true := by
  unfold listText
  rw [strOk_app, strOk_from ts _ _ (by decide +kernel) h]
  decide +kernel
mutual
theorem fi_str : ∀ d : D, fi d = true → PyData.strOk d.py.shown = true
  | .int i, h => (int_fi (by simpa [fi] using h)).2.2.2
  | .tup ds, h => by
    simp only [D.py, PyData.shown]
    exact strOk_tup _ (fiA_str ds (by simpa [fi] using h))
  | .lst ds, h => by
    simp only [D.py, PyData.shown]
    exact strOk_lst _ (fiA_str ds (by simpa [fi] using h))
  | .non, h => by decide +kernel
  | .bl b, h => by cases b <;> decide +kernel
  | .str _, h => by simp [fi] at h
  | .scr _, h => by simp [fi] at h
theorem fiA_str : ∀ ds : List D, fiA ds = true → ∀ t ∈ PyData.shownAll (D.pyA ds), PyData.strOk t = true
  | [], _, t, ht => by simp [D.pyA, PyData.shownAll] at ht
  | d :: ds, h, t, ht => by
    have h' : fi d = true ∧ fiA ds = true := by simpa [fiA] using h
    simp only [D.pyA, PyData.shownAll, List.mem_cons] at ht
    rcases ht with rfl | ht
    · exact fi_str d h'.1
    · exact fiA_str ds h'.2 t ht
end
/-- the same is shown the same -/
theorem cmp_shown {d : D} (h : fi d = true) : eqOp (.str d.py.shown) (.str d.py.shown) = some true := by
  unfold eqOp
  have h1 := fi_str d h
  rw [if_pos (by simp only [D.ok]; rw [h1]; rfl)]
  simp [D.py, PyData.eqv]
theorem depthA {n : Nat} : ∀ {ds : List D}, (∀ d ∈ ds, d.py.depth ≤ n) → PyData.depthAll (D.pyA ds) ≤ n
  | [], _ => Nat.zero_le _
  | d :: ds, h => by
    have h1 := h d List.mem_cons_self
    have h2 := depthA (n := n) (ds := ds) fun x hx => h x (List.mem_cons_of_mem _ hx)
    simp only [D.pyA, PyData.depthAll]
    omega
theorem weightA {w : Nat} : ∀ {ds : List D}, (∀ d ∈ ds, d.py.weight ≤ w) → PyData.weightAll (D.pyA ds) ≤ ds.length * (w + 1)
  | [], _ => Nat.zero_le _
  | d :: ds, h => by
    have h1 := h d List.mem_cons_self
    have h2 := weightA (w := w) (ds := ds) fun x hx => h x (List.mem_cons_of_mem _ hx)
    simp only [D.pyA, PyData.weightAll, List.length_cons]
    rw [Nat.add_mul]
    omega
theorem fiA_all : ∀ {ds : List D}, (∀ d ∈ ds, fi d = true) → fiA ds = true
  | [], _ => rfl
  | d :: ds, h => by
    unfold fiA
    rw [h d List.mem_cons_self, fiA_all fun x hx => h x (List.mem_cons_of_mem _ hx)]
    rfl
/-- data that may be shown: depth, weight -/
structure Sh (n w : Nat) (d : D) : Prop where
  ok : fi d = true
  dep : d.py.depth ≤ n
  wt : d.py.weight ≤ w
theorem Sh.int {i : Int} (h : 0 ≤ i ∧ i < 1000) : Sh 0 10 (.int i) := ⟨by simp [fi, h], Nat.le_refl _, (int_fi h).2.2.1⟩
theorem Sh.bl (b : Bool) : Sh 0 10 (.bl b) := ⟨rfl, Nat.le_refl _, by show 0 ≤ 10; omega⟩
theorem Sh.tup {n w : Nat} {ds : List D} (h : ∀ d ∈ ds, Sh n w d) : Sh (n + 1) (ds.length * (w + 1)) (.tup ds) := by
  refine ⟨by simp only [fi]; exact fiA_all fun d hd => (h d hd).ok, ?_, ?_⟩
  · have := depthA fun d hd => (h d hd).dep
    simp only [D.py, PyData.depth]
    omega
  · have := weightA fun d hd => (h d hd).wt
    simpa [D.py, PyData.weight] using this
theorem Sh.lst {n w : Nat} {ds : List D} (h : ∀ d ∈ ds, Sh n w d) : Sh (n + 1) (ds.length * (w + 1)) (.lst ds) := by
  refine ⟨by simp only [fi]; exact fiA_all fun d hd => (h d hd).ok, ?_, ?_⟩
  · have := depthA fun d hd => (h d hd).dep
    simp only [D.py, PyData.depth]
    omega
  · have := weightA fun d hd => (h d hd).wt
    simpa [D.py, PyData.weight] using this
theorem Sh.up {n w n' w' : Nat} {d : D} (h : Sh n w d) (a : n ≤ n') (b : w ≤ w') : Sh n' w' d := ⟨h.ok, Nat.le_trans h.dep a, Nat.le_trans h.wt b⟩
theorem Sh.dI {l : List Int} (h : ∀ x ∈ l, 0 ≤ x ∧ x < 1000) {k : Nat} (hk : l.length ≤ k) : Sh 1 (k * 11) (dI l) := by
  have := Sh.tup (n := 0) (w := 10) (ds := l.map D.int) fun d hd => by
    obtain ⟨x, hx, rfl⟩ := List.mem_map.mp hd
    exact Sh.int (h x hx)
  rw [List.length_map] at this
  exact this.up (by omega) (Nat.mul_le_mul_right 11 hk)
theorem Sh.dLL {ls : List (List Int)} {k m : Nat} (h : ∀ l ∈ ls, (∀ x ∈ l, 0 ≤ x ∧ x < 1000) ∧ l.length ≤ k) (hm : ls.length ≤ m) : Sh 2 (m * (k * 11 + 1)) (dLL ls) := by
  have := Sh.tup (n := 1) (w := k * 11) (ds := ls.map Mi.dI) fun d hd => by
    obtain ⟨x, hx, rfl⟩ := List.mem_map.mp hd
    exact Sh.dI (h x hx).1 (h x hx).2
  rw [List.length_map] at this
  exact this.up (by omega) (Nat.mul_le_mul_right _ hm)
theorem Sh.show_ {n w : Nat} {d : D} (h : Sh n w d) (a : n ≤ 64) (b : w ≤ 2 ^ 20) : d.okRepr = true ∧ eqOp (.str d.py.shown) (.str d.py.shown) = some true := by
  refine ⟨?_, cmp_shown h.ok⟩
  obtain ⟨x, y, z, e⟩ := fi_ok _ h.ok
  have hd : d.py.depth ≤ 64 := Nat.le_trans h.dep a
  have hl : PyData.layable0 d.py = true := by
    unfold PyData.layable0
    rw [x]
    simp [hd, Nat.le_trans h.wt b]
  have hs := shown_le13 hl y
  have hz : (15728653 : Nat) ≤ sizeLine := by decide
  unfold D.okRepr
  rw [z, e, decide_eq_true (Nat.le_trans hs hz), decide_eq_true hd]
  have ok := h.ok
  cases d with
  | int i =>
    have h' : 0 ≤ i ∧ i < 1000 := by simpa [fi] using ok
    have : i.natAbs.log2 < 1920 := Nat.lt_of_le_of_lt (lg2 (k := 10) (by omega)) (by decide)
    simp [this]
  | str _ => simp [fi] at ok
  | scr _ => simp [fi] at ok
  | wtup _ => simp [fi] at ok
  | _ => rfl
end Mi

/-! K05: the question of law k05, statement by statement. -/
namespace Mi
open PySem PySem.Spec PyProof.Rows L2

/-- draws, one an item -/
theorem lcGo_draw {β : Type} {f : D → En → Option (Option D × En)} {en : MO → En} {e' : β → D} (P : β → Prop) (k : Nat) : ∀ (xs : List D) {c : Nat} {m : MO}, Pot c m → c + k * xs.length < 2 ^ 20 →
    (∀ x ∈ xs, ∀ c m, Pot c m → c + k < 2 ^ 20 → ∃ (y : β) (m' : MO), P y ∧ Pot (c + k) m' ∧ f x (en m) = some (some (e' y), en m')) →
    ∃ (ys : List β) (m' : MO), (∀ y ∈ ys, P y) ∧ ys.length = xs.length ∧ Pot (c + k * xs.length) m' ∧ lcGo f xs (en m) = some (ys.map e', en m')
  | [], c, m, hm, _, _ => ⟨[], m, fun y h => (by cases h), rfl, by simpa using hm, rfl⟩
  | x :: xs, c, m, hm, hc, h => by
    rw [List.length_cons, Nat.mul_add] at hc
    obtain ⟨y, m1, p1, hm1, e1⟩ := h x List.mem_cons_self c m hm (by omega)
    obtain ⟨ys, m2, p2, l2, hm2, e2⟩ := lcGo_draw P k xs (c := c + k) hm1 (by omega) fun x hx => h x (List.mem_cons_of_mem _ hx)
    refine ⟨y :: ys, m2, fun z hz => ?_, by simp [l2], by rw [List.length_cons, Nat.mul_add, show c + (k * xs.length + k * 1) = c + k + k * xs.length by omega]; exact hm2, ?_⟩
    · rcases List.mem_cons.mp hz with rfl | hz
      · exact p1
      · exact p2 z hz
    · unfold lcGo
      rw [e1]
      simp only
      rw [e2]
      rfl

abbrev E5 (m : MO) (many rows presses lit due each once other lots sme web kind : Slot) : En := [.own false m, many, .un, rows, presses, lit, due, each, once, other, lots, sme, web, kind, .un, .un, .un, .un, .un]
section
variable {Φ : Nat → Fn} {m : MO} {w : Web} {o : Bool} {rows presses lit due each once other lots sme : Slot}
theorem k05_t1 {i j k : Nat} (h1 : C_of (Φ i)) (h2 : C_web4 (Φ j)) (h3 : C_take (Φ k)) {c : Nat} (hm : Pot c m) (hc : c + 302 < 2 ^ 20) : ∃ (w : Web) (o : Bool) (m' : MO), WebOk w ∧ w.1 ≤ 7 ∧ Pot (c + 302) m' ∧
    evS Φ (B_q_right_t1 i j k) (E5 m .un .un .un .un .un .un .un .un .un .un .un .un) = some (.nx (E5 m' .un .un .un .un .un .un .un .un .un .un (.dat (dWeb w)) (.dat (kindD o)))) := by
  obtain ⟨r, m1, r0, r7, hm1, e1⟩ := h3 c m hm (by omega) 7 (by decide) (sm_le (by decide) (by decide))
  obtain ⟨w, m2, hw, hw1, hm2, e2⟩ := h2 (c + 1) m1 (1 + r) 12 hm1 (by omega) (by omega) (by omega) (by omega) (by omega)
  obtain ⟨d, m3, hd, hm3, e3⟩ := h1 _ m2 [.str (Str.ofString "own"), .str (Str.ofString "own"), .str (Str.ofString "shut")] _ _ hm2 (by omega) .l (by simp) (by decide)
  obtain ⟨o, rfl⟩ : ∃ o, d = kindD o := by
    simp at hd
    rcases hd with rfl | rfl
    · exact ⟨true, rfl⟩
    · exact ⟨false, rfl⟩
  refine ⟨w, o, m3, hw, by omega, pot_mono hm3 (by omega), ?_⟩
  simp [B_q_right_t1, e1, e2, e3]
theorem sh_lot {n : Int} (hn : n ≤ 16) {l : List Int} (h : Lot n l) : Sh 1 176 (dI l) := Sh.dI (k := 16) (fun x hx => by have := h.rng x hx; omega) (by have := h.len; omega)
theorem show_lot {n : Int} (hn : n ≤ 16) {l : List Int} (h : Lot n l) : (dI l).okRepr = true ∧ eqOp (.str (dI l).py.shown) (.str (dI l).py.shown) = Option.some true := (sh_lot hn h).show_ (by decide) (by decide)
theorem k05_t3 {i j k : Nat} (h1 : C_near (Φ i)) (h2 : C_reach (Φ j)) (h3 : C_lreach (Φ k)) (hw : WebOk w) : evS Φ (B_q_right_t3 i j k) (E5 m (.dat (.int w.1)) rows presses lit due each once other lots sme (.dat (dWeb w)) (.dat (kindD o))) = Option.some (.nx (E5 m (.dat (.int w.1)) rows presses lit due each once other lots sme (.dat (dWeb w)) (.dat (kindD o)))) := by
  have hlo := hw.lo
  have hhi := hw.hi
  have h0 : ((w.1.toNat : Nat) : Int) = w.1 := by omega
  have hr : rngOf [.int w.1] = Option.some ((upto w.1.toNat).map D.int) := by
    have := rng_nat w.1.toNat (by omega)
    rwa [h0] at this
  obtain ⟨e', hg, rfl⟩ := forGo_run (f := forF Φ (.nm 2) (B_q_right_s1 i j k)) (e := D.int) (fun d e => e = E5 m (.dat (.int w.1)) rows presses lit due each once other lots sme (.dat (dWeb w)) (.dat (kindD o))) (xs := upto w.1.toNat) (done := []) rfl (by
    rintro d x r env he rfl
    refine ⟨_, ?_, rfl⟩
    have hx : 0 ≤ x ∧ x < w.1 := by
      have : x ∈ upto w.1.toNat := by rw [List.nil_append] at he; rw [he]; simp
      have := mem_upto.mp this
      omega
    have q1 := h1 w x hw hx.1 hx.2
    have q2 := h2 w o x hw hx.1 hx.2
    have q3 := h3 w false x hw
    have q4 := h3 w o x hw
    have l1 := len_reachL w o x
    have l2 := len_nearL w x
    have l3 := hw.len
    rw [show kindD false = .str (Str.ofString "shut") from rfl, show reachL w false x = nearL w x from rfl] at q3
    have s1 := show_lot hhi (lot_reachL hw false hx.1 hx.2)
    rw [show reachL w false x = nearL w x from rfl] at s1
    have s2 := show_lot hhi (lot_reachL hw o hx.1 hx.2)
    have e1 : evE Φ (B_q_right_e1 k) [.own false m, .dat (.int w.1), .dat (.int x), rows, presses, lit, due, each, once, other, lots, sme, .dat (dWeb w), .dat (kindD o), .un, .un, .un, .un, .un] = Option.some (.new (.lst (((nearL w x).map id).map D.int)), [.own false m, .dat (.int w.1), .dat (.int x), rows, presses, lit, due, each, once, other, lots, sme, .dat (dWeb w), .dat (kindD o), .un, .un, .un, .un, .un]) :=
      lc_map D.int D.int id (by simp [itStart, dictIt, q3]) (by omega) rfl fun y _ => by simp [lcF]
    have e2 : evE Φ (B_q_right_e2 k) [.own false m, .dat (.int w.1), .dat (.int x), rows, presses, lit, due, each, once, other, lots, sme, .dat (dWeb w), .dat (kindD o), .un, .un, .un, .un, .un] = Option.some (.new (.lst (((reachL w o x).map id).map D.int)), [.own false m, .dat (.int w.1), .dat (.int x), rows, presses, lit, due, each, once, other, lots, sme, .dat (dWeb w), .dat (kindD o), .un, .un, .un, .un, .un]) :=
      lc_map D.int D.int id (by simp [itStart, dictIt, q4]) (by omega) rfl fun y _ => by simp [lcF]
    rw [List.map_id] at e1 e2
    simp [forF, B_q_right_s1, q1, q2, e1, e2, s1.1, s1.2, s2.1, s2.2])
  have hg' : forGo (forF Φ (.nm 2) (B_q_right_s1 i j k)) ((upto w.1.toNat).map D.int) [.own false m, .dat (.int w.1), .un, rows, presses, lit, due, each, once, other, lots, sme, .dat (dWeb w), .dat (kindD o), .un, .un, .un, .un, .un] = _ := hg
  simp [B_q_right_t3, itStart, dictIt, hr, hg']
theorem sh_table {w : Web} (hw : WebOk w) (o : Bool) : (dLL (tableL w o)).okRepr = true ∧ eqOp (.str (dLL (tableL w o)).py.shown) (.str (dLL (tableL w o)).py.shown) = Option.some true := by
  have hhi := hw.hi
  refine (Sh.dLL (k := 16) (m := 16) (fun l hl => ?_) ?_).show_ (by decide) (by decide)
  · obtain ⟨r, _, rfl⟩ := List.mem_map.mp hl
    refine ⟨fun x hx => ?_, by rw [List.length_map, len_upto]; omega⟩
    obtain ⟨c, _, rfl⟩ := List.mem_map.mp hx
    split <;> omega
  · unfold tableL
    rw [List.length_map, len_upto]
    omega
theorem k05_t5 {k : Nat} (h3 : C_lreach (Φ k)) (hw : WebOk w) : evS Φ (B_q_right_t5 k) (E5 m (.dat (.int w.1)) (.dat (dLL (tableL w o))) presses lit due each once .un lots sme (.dat (dWeb w)) (.dat (kindD o))) = Option.some (.nx (E5 m (.dat (.int w.1)) (.dat (dLL (tableL w o))) presses lit due each once .un lots sme (.dat (dWeb w)) (.dat (kindD o)))) := by
  · have hlo := hw.lo
    have hhi := hw.hi
    have h0 : ((w.1.toNat : Nat) : Int) = w.1 := by omega
    have hr : rngOf [.int w.1] = Option.some ((upto w.1.toNat).map D.int) := by
      have := rng_nat w.1.toNat (by omega)
      rwa [h0] at this
    have hl : (upto w.1.toNat).length ≤ 4000000 := by rw [len_upto]; omega
    have e3 : ∀ x : Int, evE Φ (B_q_right_e3 k) [.own false m, .dat (.int w.1), .dat (.int x), .dat (dLL (tableL w o)), presses, lit, due, each, once, .un, lots, sme, .dat (dWeb w), .dat (kindD o), .un, .un, .un, .un, .un] = Option.some (.new (.lst (((upto w.1.toNat).map fun c => if c ∈ reachL w o x then (1 : Int) else 0).map D.int)), [.own false m, .dat (.int w.1), .dat (.int x), .dat (dLL (tableL w o)), presses, lit, due, each, once, .un, lots, sme, .dat (dWeb w), .dat (kindD o), .un, .un, .un, .un, .un]) := fun x =>
      lc_map D.int D.int _ (by simp [itStart, dictIt, hr]) hl rfl fun y _ => by
        have q := h3 w o x hw
        by_cases c : y ∈ reachL w o x <;> simp [lcF, q, c]
    have e4 : evE Φ (B_q_right_e4 k) (E5 m (.dat (.int w.1)) (.dat (dLL (tableL w o))) presses lit due each once .un lots sme (.dat (dWeb w)) (.dat (kindD o))) = Option.some (.new (.lst ((tableL w o).map dI)), E5 m (.dat (.int w.1)) (.dat (dLL (tableL w o))) presses lit due each once .un lots sme (.dat (dWeb w)) (.dat (kindD o))) := by
      unfold tableL
      refine lc_map D.int dI _ (by simp [itStart, dictIt, hr]) hl rfl fun y _ => ?_
      have := e3 y
      unfold tableL at this
      simp only [List.map_map] at this
      simp [lcF, this]
    obtain ⟨s1, s2⟩ := sh_table hw o
    simp [B_q_right_t5, e4, s1, s2]
theorem k05_t6 (hw : WebOk w) : evS Φ B_q_right_t6 (E5 m (.dat (.int w.1)) (.dat (dLL (tableL w o))) presses lit due each once other lots sme (.dat (dWeb w)) (.dat (kindD o))) = Option.some (.nx (E5 m (.dat (.int w.1)) (.dat (dLL (tableL w o))) presses lit due each once other lots sme (.dat (dWeb w)) (.dat (kindD o)))) := by
  have hlo := hw.lo
  have hhi := hw.hi
  have h0 : ((w.1.toNat : Nat) : Int) = w.1 := by omega
  have hr : rngOf [.int w.1] = Option.some ((upto w.1.toNat).map D.int) := by
    have := rng_nat w.1.toNat (by omega)
    rwa [h0] at this
  have hl : (upto w.1.toNat).length ≤ 4000000 := by rw [len_upto]; omega
  have hat : ∀ (l : Nat) (x : Int), 0 ≤ x → x < l → (upto l)[x.toNat]? = Option.some x := fun l x a b => by
    unfold upto
    rw [List.getElem?_map, List.getElem?_range (by omega)]
    simp; omega
  have hrow : ∀ x ∈ upto w.1.toNat, ixOp (dLL (tableL w o)) (.int x) = Option.some (dI ((upto w.1.toNat).map fun c => if c ∈ reachL w o x then (1 : Int) else 0)) := fun x hx => by
    have hx := mem_upto.mp hx
    have h := (ix_nat (l := (tableL w o).map dI) x.toNat).1
    rw [show ((x.toNat : Nat) : Int) = x by omega] at h
    rw [h, List.getElem?_map]
    unfold tableL
    rw [List.getElem?_map, hat _ x hx.1 hx.2]
    rfl
  have hcell : ∀ x ∈ upto w.1.toNat, ∀ y, ixOp (dI ((upto w.1.toNat).map fun c => if c ∈ reachL w o y then (1 : Int) else 0)) (.int x) = Option.some (.int (if x ∈ reachL w o y then 1 else 0)) := fun x hx y => by
    have hx := mem_upto.mp hx
    have h := (ix_nat (l := ((upto w.1.toNat).map fun c => if c ∈ reachL w o y then (1 : Int) else 0).map D.int) x.toNat).1
    rw [show ((x.toNat : Nat) : Int) = x by omega] at h
    rw [h, List.getElem?_map, List.getElem?_map, hat _ x hx.1 hx.2]
    rfl
  have e5 : ∀ x ∈ upto w.1.toNat, evE Φ B_q_right_e5 [.own false m, .dat (.int w.1), .dat (.int x), .dat (dLL (tableL w o)), presses, lit, due, each, once, other, lots, sme, .dat (dWeb w), .dat (kindD o), .un, .un, .un, .un, .un] = Option.some (.new (.lst (((upto w.1.toNat).map fun y => if x ∈ reachL w o y then (1 : Int) else 0).map D.int)), [.own false m, .dat (.int w.1), .dat (.int x), .dat (dLL (tableL w o)), presses, lit, due, each, once, other, lots, sme, .dat (dWeb w), .dat (kindD o), .un, .un, .un, .un, .un]) := fun x hx =>
    lc_map (fun y : Int => dI ((upto w.1.toNat).map fun c => if c ∈ reachL w o y then (1 : Int) else 0)) D.int _ (xs := upto w.1.toNat) (by simp [itStart, dictIt, tableL]) hl rfl fun y _ => by
      have := hcell x hx y
      simp [lcF, this]
  have e6 : evE Φ B_q_right_e6 (E5 m (.dat (.int w.1)) (.dat (dLL (tableL w o))) presses lit due each once other lots sme (.dat (dWeb w)) (.dat (kindD o))) = Option.some (.new (.lst (((upto w.1.toNat).map fun _ => true).map D.bl)), E5 m (.dat (.int w.1)) (.dat (dLL (tableL w o))) presses lit due each once other lots sme (.dat (dWeb w)) (.dat (kindD o))) := by
    refine lc_map D.int D.bl _ (by simp [itStart, dictIt, hr]) hl rfl fun x hx => ?_
    have a1 := e5 x hx
    have a2 := hrow x hx
    have a3 : ((upto w.1.toNat).map fun y => if x ∈ reachL w o y then (1 : Int) else 0) = (upto w.1.toNat).map fun c => if c ∈ reachL w o x then (1 : Int) else 0 := by
      refine List.map_congr_left fun y _ => ?_
      by_cases c : x ∈ reachL w o y
      · rw [if_pos c, if_pos (mem_reach_sym.mp c)]
      · rw [if_neg c, if_neg fun z => c (mem_reach_sym.mp z)]
    rw [a3] at a1
    have a4 := eq_lot ((upto w.1.toNat).map fun c => if c ∈ reachL w o x then (1 : Int) else 0) ((upto w.1.toNat).map fun c => if c ∈ reachL w o x then (1 : Int) else 0)
    simp only [lcF, z_setD1, z_setS, List.getElem?_cons_succ, List.getElem?_cons_zero, free_un, if_true, List.set_cons_succ, List.set_cons_zero, qc_anil0, q_cmp6, q_bi15, qa_acons1, a1, qa_anil0, z_pks1, z_pks0, z_pk2, z_tuple1, q_ix12, q_var0, z_pk1, a2, z_eq, a4, z_fz1, z_wipe1, z_wipe0, decide_true]
  simp only [List.map_map] at e6
  have e7 : ((upto w.1.toNat).all fun _ => true) = true := by simp
  simp [B_q_right_t6, e6, e7]
end
end Mi

/-! K05b: the question of law k05 to its end. -/
namespace Mi
open PySem PySem.Spec PyProof.Rows L2
section
variable {Φ : Nat → Fn} {m : MO} {w : Web} {o : Bool} {rows presses lit due each once other lots sme : Slot}
/-- a comprehension of draws over range(draw) -/
theorem lc_draws {β : Type} {vs : List Nat} {it cs elt : E} {tg : T} {en : MO → En} {e' : β → D} (P : β → Prop) (k : Nat) {c n : Nat} {m m1 : MO} (hit : itStart Φ it (en m) = some ((upto n).map D.int, none, en m1)) (hn : n ≤ 1000) (hm : Pot c m1) (hc : c + k * n < 2 ^ 20) (hw : ∀ m, wipeS (en m) vs = en m) (hb : ∀ m m', backS (en m) (en m') vs = en m')
    (h : ∀ x ∈ (upto n).map D.int, ∀ c m, Pot c m → c + k < 2 ^ 20 → ∃ (y : β) (m' : MO), P y ∧ Pot (c + k) m' ∧ lcF Φ vs tg cs elt x (en m) = some (some (e' y), en m')) :
    ∃ (ys : List β) (m' : MO), (∀ y ∈ ys, P y) ∧ ys.length = n ∧ Pot (c + k * n) m' ∧ evE Φ (.lc vs tg it cs elt) (en m) = some (.new (.lst (ys.map e')), en m') := by
  have hl : ((upto n).map D.int).length = n := by rw [List.length_map, len_upto]
  obtain ⟨ys, m', h1, h2, h3, h4⟩ := lcGo_draw (f := lcF Φ vs tg cs elt) (en := en) P k ((upto n).map D.int) hm (by rw [hl]; exact hc) h
  rw [hl] at h2 h3
  refine ⟨ys, m', h1, h2, h3, ?_⟩
  rw [q_lc, hit]
  simp only
  rw [if_pos (by rw [hl, z_lim]; omega), hw, h4]
  simp only [hb, z_free0]
theorem k05_t7 {k : Nat} (h3 : C_take (Φ k)) {c : Nat} (hm : Pot c m) (hc : c + 20 < 2 ^ 20) (hw : WebOk w) : ∃ (ps : List Int) (m' : MO), Prs w.1 ps ∧ ps.length ≤ 13 ∧ Pot (c + 14) m' ∧ evS Φ (B_q_right_t7 k) (E5 m (.dat (.int w.1)) rows .un lit due each once other lots sme (.dat (dWeb w)) (.dat (kindD o))) = some (.nx (E5 m' (.dat (.int w.1)) rows (.dat (dI ps)) lit due each once other lots sme (.dat (dWeb w)) (.dat (kindD o)))) := by
  obtain ⟨r, m1, r0, r1, hm1, e1⟩ := h3 c m hm (by omega) 13 (by decide) (sm_le (by decide) (by decide))
  have hlo := hw.lo
  have hhi := hw.hi
  have hr : rngOf [.int r] = some ((upto r.toNat).map D.int) := by
    have := rng_nat r.toNat (by omega)
    rwa [show ((r.toNat : Nat) : Int) = r by omega] at this
  obtain ⟨ps, m2, p1, p2, hm2, e2⟩ := lc_draws (Φ := Φ) (vs := [14]) (tg := .nm 14) (it := .rng (.acons (.call k (.acons (.var 0) (.acons (.cst (.int 13)) .anil))) .anil)) (cs := .anil) (elt := .bi .int (.acons (.call k (.acons (.var 0) (.acons (.var 1) .anil))) .anil)) (en := fun m => E5 m (.dat (.int w.1)) rows .un lit due each once other lots sme (.dat (dWeb w)) (.dat (kindD o))) (e' := D.int) (fun x => 0 ≤ x ∧ x < w.1) 1 (m := m) (m1 := m1) (c := c + 1) (n := r.toNat) (by simp [itStart, dictIt, e1, hr]) (by omega) hm1 (by omega) (fun _ => rfl) (fun _ _ => rfl) (fun x _ c m hm hc => by
    obtain ⟨y, m', y0, y1, hm', e⟩ := h3 c m hm (by omega) w.1 (by omega) (sm_le (by omega) (by omega))
    exact ⟨y, m', ⟨y0, y1⟩, hm', by simp [lcF, e]⟩)
  refine ⟨ps, m2, ⟨p1, by omega⟩, by omega, pot_mono hm2 (by omega), ?_⟩
  have e3 : evE Φ (B_q_right_e7 k) (E5 m (.dat (.int w.1)) rows .un lit due each once other lots sme (.dat (dWeb w)) (.dat (kindD o))) = _ := e2
  simp [B_q_right_t7, e3]
theorem k05_t8 {i j : Nat} (h1 : C_of (Φ i)) (h2 : C_lots (Φ j)) {c : Nat} (hm : Pot c m) (hc : c + 20 < 2 ^ 20) (hw : WebOk w) : ∃ (l : List Int) (m' : MO), Lot w.1 l ∧ Pot (c + 1) m' ∧ evS Φ (B_q_right_t8 i j) (E5 m (.dat (.int w.1)) rows presses .un due each once other lots sme (.dat (dWeb w)) (.dat (kindD o))) = some (.nx (E5 m' (.dat (.int w.1)) rows presses (.dat (dI l)) due each once other lots sme (.dat (dWeb w)) (.dat (kindD o)))) := by
  have hlo := hw.lo
  have hhi := hw.hi
  have h0 : ((w.1.toNat : Nat) : Int) = w.1 := by omega
  have e2 := h2 w.1.toNat (by omega)
  rw [h0] at e2
  have hlen : (lotsU w.1.toNat).length ≤ 65536 := by
    rw [lotsU_len]
    exact Nat.le_trans (Nat.pow_le_pow_right (by decide) (show w.1.toNat ≤ 16 by omega)) (by decide)
  obtain ⟨d, m', hd, hm', e1⟩ := h1 c m ((lotsU w.1.toNat).map dI) _ _ hm (by omega) .l (fun z => by
    have := congrArg List.length z
    rw [List.length_map, lotsU_len] at this
    exact absurd this (Nat.ne_of_gt (Nat.two_pow_pos _))) (by rw [List.length_map]; omega)
  obtain ⟨l, hl, rfl⟩ := List.mem_map.mp hd
  have := lotsU_lot hl
  rw [h0] at this
  exact ⟨l, m', this, hm', by simp [B_q_right_t8, e2, e1]⟩
theorem lot_changed {w : Web} (hw : WebOk w) (o : Bool) {ps : List Int} (h : ∀ x ∈ ps, 0 ≤ x ∧ x < w.1) : Lot w.1 (changedL w o ps) := lot_oddS fun x hx => by
  obtain ⟨l, hl, hx⟩ := List.mem_flatten.mp hx
  obtain ⟨r, hr, rfl⟩ := List.mem_map.mp hl
  have := h r hr
  exact (lot_reachL hw o this.1 this.2).rng x hx
theorem lot_app {n : Int} {a b : List Int} (ha : Lot n a) (hb : Lot n b) : Lot n (oddS (a ++ b)) := lot_oddS fun x hx => by
  rcases List.mem_append.mp hx with hx | hx
  · exact ha.rng x hx
  · exact hb.rng x hx
theorem k05_t9 {k : Nat} (h : C_lchanged (Φ k)) (hw : WebOk w) {ps : List Int} (hp : Prs w.1 ps) : evS Φ (B_q_right_t9 k) (E5 m (.dat (.int w.1)) rows (.dat (dI ps)) lit .un each once other lots sme (.dat (dWeb w)) (.dat (kindD o))) = some (.nx (E5 m (.dat (.int w.1)) rows (.dat (dI ps)) lit (.dat (dI (changedL w o ps))) each once other lots sme (.dat (dWeb w)) (.dat (kindD o)))) := by
  have e := h w o ps hw (by have := hp.len; omega)
  simp [B_q_right_t9, e]
theorem two_len {n : Int} (hn : n ≤ 16) {a b : List Int} (ha : Lot n a) (hb : Lot n b) : ([a, b] : List (List Int)).flatten.length ≤ 1000000 := by
  have := ha.len
  have := hb.len
  simp
  omega
theorem k05_t10 {i j k : Nat} (h1 : C_changed (Φ i)) (h2 : C_sum_by (Φ j)) (h3 : C_behind (Φ k)) (hw : WebOk w) {ps l : List Int} (hp : Prs w.1 ps) (hl : Lot w.1 l) : evS Φ (B_q_right_t10 i j k) (E5 m (.dat (.int w.1)) rows (.dat (dI ps)) (.dat (dI l)) (.dat (dI (changedL w o ps))) each once other lots sme (.dat (dWeb w)) (.dat (kindD o))) = some (.nx (E5 m (.dat (.int w.1)) rows (.dat (dI ps)) (.dat (dI l)) (.dat (dI (changedL w o ps))) each once other lots sme (.dat (dWeb w)) (.dat (kindD o)))) := by
  have hhi := hw.hi
  have q1 := h1 w o ps hw hp
  have q3 := h3 w o l ps hw hl hp
  have hc := lot_changed hw o hp.rng
  have q2 := h2 _ _ _ _ (.l (ds := [dI l, dI (changedL w o ps)])) (lots_dI [l, changedL w o ps]) (two_len hhi hl hc)
  have s1 := show_lot hhi hc
  have s2 := show_lot hhi (lot_app hl hc)
  simp only [List.flatten_cons, List.flatten_nil, List.append_nil] at q2
  simp [B_q_right_t10, q1, q2, q3, s1.1, s1.2, s2.1, s2.2]
theorem k05_t12 {i j : Nat} (h1 : C_sum_by (Φ i)) (h2 : C_lreach (Φ j)) (hw : WebOk w) {ps l : List Int} (hp : Prs w.1 ps) (hl : Lot w.1 l) : evS Φ (B_q_right_t12 i j) (E5 m (.dat (.int w.1)) rows (.dat (dI ps)) lit due (.own true (.lst [dI l])) once other lots sme (.dat (dWeb w)) (.dat (kindD o))) = some (.nx (E5 m (.dat (.int w.1)) rows (.dat (dI ps)) lit due (.own true (.lst ((walkS (stepF w o) l ps).map dI))) once other lots sme (.dat (dWeb w)) (.dat (kindD o)))) := by
  have hwh := hw.hi
  have loop := forGo_run (f := forF Φ (.nm 2) (B_q_right_s2 i j)) (e := D.int) (fun d e => e = E5 m (.dat (.int w.1)) rows (.dat (dI ps)) lit due (.own true (.lst ((walkS (stepF w o) l d).map dI))) once other lots sme (.dat (dWeb w)) (.dat (kindD o))) (xs := ps) (done := []) rfl (by
    rintro d x r env he rfl
    refine ⟨_, ?_, rfl⟩
    rw [List.nil_append] at he
    have hd : ∀ y ∈ d, 0 ≤ y ∧ y < w.1 := fun y hy => hp.rng y (by rw [he]; simp [hy])
    have hx : 0 ≤ x ∧ x < w.1 := hp.rng x (by rw [he]; simp)
    obtain ⟨A, hA⟩ := walkS_last (stepF w o) d l
    have hlast := fold_step hw o hd hl
    have l1 := hlast.len
    have l2 := (lot_reachL hw o hx.1 hx.2).len
    have e3 := h2 w o x hw
    have e2 := h1 _ _ _ _ (.l (ds := [dI (d.foldl (stepF w o) l), lI (reachL w o x)])) (.cons (.inl rfl) (.cons (.inr rfl) .nil) : Paired LotD _ [d.foldl (stepF w o) l, reachL w o x]) (by simp; omega)
    have e4 : ixOp (.lst ((walkS (stepF w o) l d).map dI)) (.int (-1)) = some (dI (d.foldl (stepF w o) l)) := by
      rw [hA, List.map_append]
      exact ix_last.1
    have l3 : (walkS (stepF w o) l d).length < 4000000 := by
      rw [walkS_len]
      have := hp.len
      have : d.length ≤ ps.length := by rw [he]; simp
      omega
    simp only [List.flatten_cons, List.flatten_nil, List.append_nil] at e2
    rw [walkS_snoc]
    simp [forF, B_q_right_s2, e4, e3, e2, l3, stepF])
  obtain ⟨e', hg, rfl⟩ := loop
  rw [List.nil_append] at hg
  have hg' : forGo (forF Φ (.nm 2) (B_q_right_s2 i j)) (ps.map D.int) (E5 m (.dat (.int w.1)) rows (.dat (dI ps)) lit due (.own true (.lst [dI l])) once other lots sme (.dat (dWeb w)) (.dat (kindD o))) = _ := hg
  simp [B_q_right_t12, itStart, dictIt, hg']
theorem walk_lots {w : Web} (hw : WebOk w) (o : Bool) : ∀ {ps l : List Int}, (∀ x ∈ ps, 0 ≤ x ∧ x < w.1) → Lot w.1 l → ∀ q ∈ walkS (stepF w o) l ps, Lot w.1 q
  | [], l, _, h, q, hq => by
    simp [walkS] at hq
    subst hq
    exact h
  | p :: ps, l, hp, h, q, hq => by
    unfold walkS at hq
    rcases List.mem_cons.mp hq with rfl | hq
    · exact h
    · exact walk_lots (ps := ps) hw o (fun y hy => hp y (List.mem_cons_of_mem _ hy)) (fold_step (ps := [p]) hw o (fun y hy => hp y (by simp at hy; simp [hy])) h) q hq
theorem show_lots {n : Int} (hn : n ≤ 16) {ls : List (List Int)} (h : ∀ l ∈ ls, Lot n l) (hl : ls.length ≤ 200) : (dLL ls).okRepr = true ∧ eqOp (.str (dLL ls).py.shown) (.str (dLL ls).py.shown) = some true :=
  (Sh.dLL (k := 16) (m := 200) (fun l hx => ⟨fun x hy => by have := (h l hx).rng x hy; omega, by have := (h l hx).len; omega⟩) hl).show_ (by decide) (by decide)
theorem k05_t13 {i : Nat} (h : C_steps (Φ i)) (hw : WebOk w) {ps l : List Int} (hp : Prs w.1 ps) (hl : Lot w.1 l) : evS Φ (B_q_right_t13 i) (E5 m (.dat (.int w.1)) rows (.dat (dI ps)) (.dat (dI l)) due (.own true (.lst ((walkS (stepF w o) l ps).map dI))) once other lots sme (.dat (dWeb w)) (.dat (kindD o))) = some (.nx (E5 m (.dat (.int w.1)) rows (.dat (dI ps)) (.dat (dI l)) due (.own true (.lst ((walkS (stepF w o) l ps).map dI))) once other lots sme (.dat (dWeb w)) (.dat (kindD o)))) := by
  have q := h w o l ps hw hl hp
  have s := show_lots hw.hi (walk_lots hw o hp.rng hl) (by rw [walkS_len]; have := hp.len; omega)
  simp [B_q_right_t13, q, s.1, s.2]
theorem k05_t14 (hw : WebOk w) {ps : List Int} (hp : Prs w.1 ps) : evS Φ B_q_right_t14 (E5 m (.dat (.int w.1)) rows (.dat (dI ps)) lit due each .un other lots sme (.dat (dWeb w)) (.dat (kindD o))) = some (.nx (E5 m (.dat (.int w.1)) rows (.dat (dI ps)) lit due each (.dat (dI ((upto w.1.toNat).filter fun x => par ps x))) other lots sme (.dat (dWeb w)) (.dat (kindD o)))) := by
  have hlo := hw.lo
  have hhi := hw.hi
  have hr : rngOf [.int w.1] = some ((upto w.1.toNat).map D.int) := by
    have := rng_nat w.1.toNat (by omega)
    rwa [show ((w.1.toNat : Nat) : Int) = w.1 by omega] at this
  have e8 : evE Φ B_q_right_e8 (E5 m (.dat (.int w.1)) rows (.dat (dI ps)) lit due each .un other lots sme (.dat (dWeb w)) (.dat (kindD o))) = some (.new (.lst (((upto w.1.toNat).filter fun x => par ps x).map D.int)), E5 m (.dat (.int w.1)) rows (.dat (dI ps)) lit due each .un other lots sme (.dat (dWeb w)) (.dat (kindD o))) := by
    refine lc_filter D.int _ (by simp [itStart, dictIt, hr]) (by rw [len_upto]; omega) rfl fun x _ => ?_
    have m2 := mod2 (i := ps.count x)
    have hp : decide (((ps.count x : Nat) : Int) % 2 = 1) = par ps x := by
      unfold par
      rw [Bool.eq_iff_iff]
      simp only [decide_eq_true_eq, beq_iff_eq]
      omega
    cases hq : par ps x
    · rw [hq] at hp
      have hp : ¬ ((ps.count x : Nat) : Int) % 2 = 1 := by simpa only [decide_eq_false_iff_not] using hp
      simp [lcF, intsOf_mapI, m2, hp]
    · rw [hq] at hp
      have hp : ((ps.count x : Nat) : Int) % 2 = 1 := by simpa only [decide_eq_true_eq] using hp
      simp [lcF, intsOf_mapI, m2, hp]
  simp [B_q_right_t14, e8]
end
end Mi

/-! K05c: the question of law k05, its last statements. -/
namespace Mi
open PySem PySem.Spec PyProof.Rows L2
section
variable {Φ : Nat → Fn} {m : MO} {w : Web} {o : Bool} {rows presses lit due each once other lots sme : Slot}
def unI : D → Int
  | .int i => i
  | _ => 0
/-- a sequence of ints in another order -/
theorem perm_ints {fs rest : List D} {ps : List Int} (h : (fs ++ rest).Perm (ps.map D.int)) (hl : fs.length = ps.length) : ∃ qs : List Int, fs = qs.map D.int ∧ qs.Perm ps := by
  have l := h.length_eq
  rw [List.length_append, List.length_map] at l
  have hr : rest = [] := List.eq_nil_of_length_eq_zero (by omega)
  subst hr
  rw [List.append_nil] at h
  refine ⟨fs.map unI, ?_, ?_⟩
  · rw [List.map_map]
    have : ∀ d ∈ fs, (D.int ∘ unI) d = d := fun d hd => by
      obtain ⟨i, _, rfl⟩ := List.mem_map.mp (h.mem_iff.mp hd)
      rfl
    exact (List.map_id' fs).symm.trans (List.map_congr_left fun d hd => (this d hd).symm)
  · have := h.map unI
    rw [List.map_map] at this
    have e : (unI ∘ D.int) = id := rfl
    rw [e, List.map_id] at this
    exact this
theorem k05_t15 {i : Nat} (h : C_some (Φ i)) {ps : List Int} (hp : Prs w.1 ps) {c : Nat} (hm : Pot c m) (hc : c + 100 < 2 ^ 20) : ∃ (qs : List Int) (m' : MO), qs.Perm ps ∧ Pot (c + 100) m' ∧ evS Φ (B_q_right_t15 i) (E5 m (.dat (.int w.1)) rows (.dat (dI ps)) lit due each once .un lots sme (.dat (dWeb w)) (.dat (kindD o))) = some (.nx (E5 m' (.dat (.int w.1)) rows (.dat (dI ps)) lit due each once (.dat (dI qs)) lots sme (.dat (dWeb w)) (.dat (kindD o)))) := by
  have hl := hp.len
  obtain ⟨fs, rest, m', h1, h2, h3, e⟩ := h c m (ps.map D.int) _ _ ps.length hm (by omega) .l (by rw [List.length_map]; exact Nat.le_refl _) (by rw [List.length_map]; omega)
  obtain ⟨qs, rfl, hq⟩ := perm_ints h1 h2
  exact ⟨qs, m', hq, pot_mono h3 (by omega), by simp [B_q_right_t15, e]⟩
theorem perm_prs {n : Int} {a b : List Int} (h : a.Perm b) (hb : Prs n b) : Prs n a := ⟨fun x hx => hb.rng x (h.mem_iff.mp hx), by rw [h.length_eq]; exact hb.len⟩
theorem show_bl (b : Bool) : (D.bl b).okRepr = true ∧ eqOp (.str (D.bl b).py.shown) (.str (D.bl b).py.shown) = some true := (Sh.bl b).show_ (by decide) (by decide)
theorem k05_t16 {i j : Nat} (h1 : C_changed (Φ i)) (h2 : C_is_quiet (Φ j)) (hw : WebOk w) {ps qs : List Int} (hp : Prs w.1 ps) (hq : qs.Perm ps) : evS Φ (B_q_right_t16 i j) (E5 m (.dat (.int w.1)) rows (.dat (dI ps)) lit (.dat (dI (changedL w o ps))) each (.dat (dI ((upto w.1.toNat).filter fun x => par ps x))) (.dat (dI qs)) lots sme (.dat (dWeb w)) (.dat (kindD o))) = some (.nx (E5 m (.dat (.int w.1)) rows (.dat (dI ps)) lit (.dat (dI (changedL w o ps))) each (.dat (dI ((upto w.1.toNat).filter fun x => par ps x))) (.dat (dI qs)) lots sme (.dat (dWeb w)) (.dat (kindD o)))) := by
  have hlo := hw.lo
  have hhi := hw.hi
  have h0 : ((w.1.toNat : Nat) : Int) = w.1 := by omega
  have ho : Lot w.1 ((upto w.1.toNat).filter fun x => par ps x) := ⟨(asc_upto _).filter _, fun x hx => by
    have := mem_upto.mp (List.mem_filter.mp hx).1
    omega⟩
  have a1 := h1 w o qs hw (perm_prs hq hp)
  have a2 := h1 w o _ hw (ho.prs hhi)
  have a3 := h2 w o _ hw ho
  rw [changed_par fun x => par_perm hq x] at a1
  rw [changed_par fun x => once_par (n := w.1.toNat) (fun x hx => by have := hp.rng x hx; omega) x] at a2 a3
  have s := show_bl (decide (changedL w o ps = []))
  simp [B_q_right_t16, a1, a2, a3, s.1, s.2]
theorem k05_t17 {i j k : Nat} (h1 : C_of (Φ i)) (h2 : C_lots (Φ j)) (h3 : C_take (Φ k)) {c : Nat} (hm : Pot c m) (hc : c + 20 < 2 ^ 20) (hw : WebOk w) : ∃ (ls : List (List Int)) (m' : MO), (∀ l ∈ ls, Lot w.1 l) ∧ ls.length ≤ 5 ∧ Pot (c + 10) m' ∧ evS Φ (B_q_right_t17 i j k) (E5 m (.dat (.int w.1)) rows presses lit due each once other .un sme (.dat (dWeb w)) (.dat (kindD o))) = some (.nx (E5 m' (.dat (.int w.1)) rows presses lit due each once other (.dat (dLL ls)) sme (.dat (dWeb w)) (.dat (kindD o)))) := by
  obtain ⟨r, m1, r0, r1, hm1, e1⟩ := h3 c m hm (by omega) 5 (by decide) (sm_le (by decide) (by decide))
  have hlo := hw.lo
  have hhi := hw.hi
  have h0 : ((w.1.toNat : Nat) : Int) = w.1 := by omega
  have hr : rngOf [.int r] = some ((upto r.toNat).map D.int) := by
    have := rng_nat r.toNat (by omega)
    rwa [show ((r.toNat : Nat) : Int) = r by omega] at this
  have e2 := h2 w.1.toNat (by omega)
  rw [h0] at e2
  have hlen : (lotsU w.1.toNat).length ≤ 65536 := by
    rw [lotsU_len]
    exact Nat.le_trans (Nat.pow_le_pow_right (by decide) (show w.1.toNat ≤ 16 by omega)) (by decide)
  obtain ⟨ls, m2, p1, p2, hm2, e3⟩ := lc_draws (Φ := Φ) (vs := [14]) (tg := .nm 14) (it := .rng (.acons (.call k (.acons (.var 0) (.acons (.cst (.int 5)) .anil))) .anil)) (cs := .anil) (elt := .call i (.acons (.var 0) (.acons (.call j (.acons (.var 1) .anil)) .anil))) (en := fun m => E5 m (.dat (.int w.1)) rows presses lit due each once other .un sme (.dat (dWeb w)) (.dat (kindD o))) (e' := dI) (fun l => Lot w.1 l) 1 (m := m) (m1 := m1) (c := c + 1) (n := r.toNat) (by simp [itStart, dictIt, e1, hr]) (by omega) hm1 (by omega) (fun _ => rfl) (fun _ _ => rfl) (fun x _ c m hm hc => by
    obtain ⟨d, m', hd, hm', e⟩ := h1 c m ((lotsU w.1.toNat).map dI) _ _ hm (by omega) .l (fun z => by
      have := congrArg List.length z
      rw [List.length_map, lotsU_len] at this
      exact absurd this (Nat.ne_of_gt (Nat.two_pow_pos _))) (by rw [List.length_map]; omega)
    obtain ⟨l, hl, rfl⟩ := List.mem_map.mp hd
    have := lotsU_lot hl
    rw [h0] at this
    exact ⟨l, m', this, hm', by simp [lcF, e2, e]⟩)
  refine ⟨ls, m2, p1, by omega, pot_mono hm2 (by omega), ?_⟩
  have e4 : evE Φ (B_q_right_e9 i j k) (E5 m (.dat (.int w.1)) rows presses lit due each once other .un sme (.dat (dWeb w)) (.dat (kindD o))) = _ := e3
  simp [B_q_right_t17, e4]
theorem k05_t18 {i j : Nat} (h1 : C_sum_by (Φ i)) (h2 : C_sum_of (Φ j)) (hw : WebOk w) {ls : List (List Int)} (hs : ∀ l ∈ ls, Lot w.1 l) (hl : ls.length ≤ 5) : evS Φ (B_q_right_t18 i j) (E5 m (.dat (.int w.1)) rows presses lit due each once other (.dat (dLL ls)) sme (.dat (dWeb w)) (.dat (kindD o))) = some (.nx (E5 m (.dat (.int w.1)) rows presses lit due each once other (.dat (dLL ls)) sme (.dat (dWeb w)) (.dat (kindD o)))) := by
  have e1 := h1 _ _ _ _ (.t (ds := ls.map dI)) (lots_dI ls) (by have := lots_len hw.hi hs; omega)
  have e2 := h2 w ls hw (by omega) hs
  have s := show_lot hw.hi (lot_oddS (n := w.1) (l := ls.flatten) fun x hx => by
    obtain ⟨l, hl, hx⟩ := List.mem_flatten.mp hx
    exact (hs l hl).rng x hx)
  simp [B_q_right_t18, e1, e2, s.1, s.2]
theorem k05_t19 {i j k l : Nat} (h1 : C_lchanged (Φ i)) (h2 : C_changed (Φ j)) (h3 : C_sum_by (Φ k)) (h4 : C_sum_of (Φ l)) (hw : WebOk w) {ls : List (List Int)} (hs : ∀ l ∈ ls, Lot w.1 l) (hl : ls.length ≤ 5) : evS Φ (B_q_right_t19 i j k l) (E5 m (.dat (.int w.1)) rows presses lit due each once other (.dat (dLL ls)) sme (.dat (dWeb w)) (.dat (kindD o))) = some (.nx (E5 m (.dat (.int w.1)) rows presses lit due each once other (.dat (dLL ls)) sme (.dat (dWeb w)) (.dat (kindD o)))) := by
  have hhi := hw.hi
  have hsum : Lot w.1 (oddS ls.flatten) := lot_oddS fun x hx => by
    obtain ⟨l, hl, hx⟩ := List.mem_flatten.mp hx
    exact (hs l hl).rng x hx
  have e4 := h4 w ls hw (by omega) hs
  have e2 := h2 w o _ hw (hsum.prs hhi)
  have e1 : evE Φ (B_q_right_e10 i) (E5 m (.dat (.int w.1)) rows presses lit due each once other (.dat (dLL ls)) sme (.dat (dWeb w)) (.dat (kindD o))) = some (.new (.lst ((ls.map (changedL w o)).map dI)), E5 m (.dat (.int w.1)) rows presses lit due each once other (.dat (dLL ls)) sme (.dat (dWeb w)) (.dat (kindD o))) :=
    lc_map dI dI _ (by simp [itStart, dictIt]) (by omega) rfl fun x hx => by
      have := h1 w o x hw (by have := (hs x hx).len; omega)
      simp [lcF, this]
  have hs2 : ∀ l ∈ ls.map (changedL w o), Lot w.1 l := fun l hl => by
    obtain ⟨x, hx, rfl⟩ := List.mem_map.mp hl
    exact lot_changed hw o (hs x hx).rng
  have e3 := h3 _ _ _ _ (.l (ds := (ls.map (changedL w o)).map dI)) (lots_dI (ls.map (changedL w o))) (by have := lots_len hw.hi hs2; rw [List.length_map] at this; omega)
  rw [changed_sum] at e2
  simp only [List.map_map] at e1 e3
  simp [B_q_right_t19, e1, e2, e3, e4]
/-- things that are no webs, behind one that is -/
def someL (w : Web) : List D := [dWeb w, .lst [.int w.1, .tup (w.2.map prD)], .tup [.int w.1], .tup [.int w.1, .lst (w.2.map prD)], .tup [.int 0, .tup []], .tup [.int 17, .tup []], .tup [.int w.1, .tup [.tup [.int 0, .int 0]]], .tup [.int w.1, .tup [.tup [.int 1, .int 0]]], .tup [.int w.1, .tup [.tup [.int 0, .int w.1]]], .tup [.bl true, .tup []], .non, .tup [.int 16, .tup [.tup [.int 0, .int 2], .tup [.int 0, .int 1]]]]
theorem k05_t20 : evS Φ B_q_right_t20 (E5 m (.dat (.int w.1)) rows presses lit due each once other lots .un (.dat (dWeb w)) (.dat (kindD o))) = some (.nx (E5 m (.dat (.int w.1)) rows presses lit due each once other lots (.own true (.lst (someL w))) (.dat (dWeb w)) (.dat (kindD o)))) := by
  have e1 : ixOp (dWeb w) (.int 1) = some (.tup (w.2.map prD)) := rfl
  simp [B_q_right_t20, someL, e1]
theorem web_some (hw : WebOk w) : ((someL w).map webB) = true :: List.replicate 11 false := by
  have h0 := webB_ok.mpr hw
  unfold someL
  simp only [List.map_cons, List.map_nil, h0, List.replicate]
  have hb : ∀ a b n : Int, doorB n (.tup [.int a, .int b]) = (decide (0 ≤ a) && decide (a < b) && decide (b < n)) := fun a b n => by
    show doorP n (a, b) = _
    simp [doorP]
  have hp : prsOf [D.tup [D.int 0, D.int 2], D.tup [D.int 0, D.int 1]] = some [(0, 2), (0, 1)] := rfl
  have ha : ascG ltP [(0, 2), (0, 1)] = false := by decide +kernel
  simp [webB, hb, hp, ha]
theorem k05_t21 {i : Nat} (h : C_is_web (Φ i)) (hw : WebOk w) : evS Φ (B_q_right_t21 i) (E5 m (.dat (.int w.1)) rows presses lit due each once other lots (.own true (.lst (someL w))) (.dat (dWeb w)) (.dat (kindD o))) = some (.rt (.val (.bl true)) (E5 m (.dat (.int w.1)) rows presses lit due each once other lots (.own true (.lst (someL w))) (.dat (dWeb w)) (.dat (kindD o)))) := by
  have hl := hw.len
  have hz : ∀ d ∈ someL w, sz d = true := by
    intro d hd
    unfold someL at hd
    simp at hd
    rcases hd with rfl | rfl | rfl | rfl | rfl | rfl | rfl | rfl | rfl | rfl | rfl | rfl
    · exact sz_web (by omega)
    all_goals simp [szn]
  have e1 : evE Φ (B_q_right_e11 i) (E5 m (.dat (.int w.1)) rows presses lit due each once other lots (.own true (.lst (someL w))) (.dat (dWeb w)) (.dat (kindD o))) = some (.new (.lst (((someL w).map webB).map D.bl)), E5 m (.dat (.int w.1)) rows presses lit due each once other lots (.own true (.lst (someL w))) (.dat (dWeb w)) (.dat (kindD o))) := by
    refine lc_mapL (fun d : D => d) D.bl webB (f := true) (xs := someL w) (by rw [List.map_id']; rfl) (by simp [someL]) rfl (by decide) fun d hd => ?_
    have := h d (hz d hd)
    simp [lcF, this]
  rw [web_some hw] at e1
  have e2 : eqOp (.lst [.bl true, .bl false, .bl false, .bl false, .bl false, .bl false, .bl false, .bl false, .bl false, .bl false, .bl false, .bl false]) (.lst [.bl true, .bl false, .bl false, .bl false, .bl false, .bl false, .bl false, .bl false, .bl false, .bl false, .bl false, .bl false]) = some true := by decide +kernel
  have e3 : binOp .mul (.lst [D.bl false]) (.int 11) = some (.new (.lst [.bl false, .bl false, .bl false, .bl false, .bl false, .bl false, .bl false, .bl false, .bl false, .bl false, .bl false])) := rfl
  simp only [List.replicate, List.map_cons, List.map_nil] at e1
  have e4 : binOp .add (.lst [D.bl true]) (.lst [.bl false, .bl false, .bl false, .bl false, .bl false, .bl false, .bl false, .bl false, .bl false, .bl false, .bl false]) = some (.new (.lst [.bl true, .bl false, .bl false, .bl false, .bl false, .bl false, .bl false, .bl false, .bl false, .bl false, .bl false, .bl false])) := rfl
  simp [B_q_right_t21, e1, e3, e4, e2]
end
end Mi

/-! K05d: the question and the law k05 whole. -/
namespace Mi
open PySem PySem.Spec PyProof.Rows L2
theorem sq_nx {Φ : Nat → Fn} {a b : S} {e e' : En} (h : evS Φ a e = some (.nx e')) : evS Φ (.seq a b) e = evS Φ b e' := by rw [qs_seq4, h]
/-- a question that answers True, with k draws at most -/
def C_right (k : Nat) (F : Fn) : Prop := ∀ (c : Nat) (m : MO), Pot c m → c + k < 2 ^ 20 → ∃ m', Pot (c + k) m' ∧ F [.own m] = some (.val (.bl true), [m'])
/-- a law that asks the question n times in each cell -/
theorem law_laps {Φ : Nat → Fn} {i k : Nat} (h : C_right k (Φ i)) (s0 s1 : Slot) : ∀ (xs : List D) {c : Nat} {m : MO}, Pot c m → c + k * xs.length < 2 ^ 20 →
    ∃ m', lcGo (lcF Φ [3] (.nm 3) .anil (.call i (.acons (.var 2) .anil))) xs [s0, s1, .own true m, .un] = some ((xs.map fun _ => true).map D.bl, [s0, s1, .own true m', .un])
  | [], c, m, _, _ => ⟨m, rfl⟩
  | x :: xs, c, m, hm, hc => by
    rw [List.length_cons, Nat.mul_add] at hc
    obtain ⟨m1, hm1, e⟩ := h c m hm (by omega)
    obtain ⟨m', e2⟩ := law_laps h s0 s1 xs hm1 (by omega)
    refine ⟨m', ?_⟩
    have e1 : lcF Φ [3] (.nm 3) .anil (.call i (.acons (.var 2) .anil)) x [s0, s1, .own true m, .un] = some (some (.bl true), [s0, s1, .own true m1, .un]) := by
      simp [lcF, e]
    unfold lcGo
    rw [e1]
    simp only
    rw [e2]
    rfl
def lapB (n : Int) (p i : Nat) : S := (.seq (.seq (.asg (.nm 2) (.call p (.acons (.var 0) (.acons (.var 1) .anil)))) (.seq (.ite (.not (.bi .all (.acons (.lc [3] (.nm 3) (.rng (.acons (.cst (.int n)) .anil)) .anil (.call i (.acons (.var 2) .anil))) .anil))) (.seq (.ret (.cst (.bl false))) .nop) .nop) .nop)) (.wipe [1, 2]))
def lawB (q : Nat) (k n : Int) (p i : Nat) : S := (.seq (.seq (.for_ (.nm 1) (.call q (.acons (.var 0) (.acons (.cst (.int k)) .anil))) (lapB n p i)) (.wipe [1, 2])) (.seq (.ret (.cst (.bl true))) .nop))
theorem law_gen {Φ : Nat → Fn} {q p i k : Nat} {cells n : Nat} (h0 : C_cells (Φ q)) (h1 : C_pot (Φ p)) (h2 : C_right k (Φ i)) (hc : cells ≤ 100) (hn : n ≤ 1000) (hk : k * n < 2 ^ 20) (ns : List Int) : semF Φ 1 4 (lawB q cells n p i) [.dat (.scr ns)] = some (.val (.bl true), []) := by
  obtain ⟨j, j1, j2, e0⟩ := h0 ns cells hc
  have hr : rngOf [.int (n : Int)] = some ((upto n).map D.int) := rng_nat n (by omega)
  obtain ⟨e', hg, rfl⟩ := forGo_run (f := forF Φ (.nm 1) (lapB n p i)) (e := D.int) (fun d e => e = [.dat (.scr ns), .un, .un, .un]) (xs := upto j) (done := []) (env := [.dat (.scr ns), .un, .un, .un]) rfl (by
    rintro d x r env he rfl
    refine ⟨_, ?_, rfl⟩
    have hx : x ∈ upto j := by rw [List.nil_append] at he; rw [he]; simp
    have hx := mem_upto.mp hx
    obtain ⟨m, hm, e⟩ := h1 ns x.toNat (by omega)
    rw [show ((x.toNat : Nat) : Int) = x by omega] at e
    obtain ⟨m', e2⟩ := law_laps h2 (.dat (.scr ns)) (.dat (.int x)) ((upto n).map D.int) hm (by rw [List.length_map, len_upto]; omega)
    have hl : (upto n).length ≤ 4000000 := by rw [len_upto]; omega
    have e3 : evE Φ (.lc [3] (.nm 3) (.rng (.acons (.cst (.int n)) .anil)) .anil (.call i (.acons (.var 2) .anil))) [.dat (.scr ns), .dat (.int x), .own true m, .un] = some (.new (.lst ((((upto n).map D.int).map fun _ => true).map D.bl)), [.dat (.scr ns), .dat (.int x), .own true m', .un]) := by
      rw [q_lc]
      have hit : itStart Φ (.rng (.acons (.cst (.int n)) .anil)) [.dat (.scr ns), .dat (.int x), .own true m, .un] = some ((upto n).map D.int, none, [.dat (.scr ns), .dat (.int x), .own true m, .un]) := by simp [itStart, dictIt, hr]
      have hw : wipeS [.dat (.scr ns), .dat (.int x), .own true m, Slot.un] [3] = [.dat (.scr ns), .dat (.int x), .own true m, .un] := rfl
      rw [hit]
      simp only
      rw [if_pos (by rw [List.length_map, z_lim]; exact hl), hw, e2]
      rfl
    have e4 : (((upto n).map D.int).map fun _ => true).all id = true := by simp
    generalize (((upto n).map D.int).map fun _ => true) = bs at *
    simp [forF, lapB, e, e3, e4])
  have hg' : forGo (forF Φ (.nm 1) (lapB n p i)) ((upto j).map D.int) [.dat (.scr ns), .un, .un, .un] = _ := hg
  simp [lawB, itStart, dictIt, e0, hg']
section
variable {Φ : Nat → Fn}
theorem L_right5 {a b c d e f g h i j k l m n o p q : Nat} (h1 : C_table (Φ a)) (h2 : C_of (Φ b)) (h3 : C_lchanged (Φ c)) (h4 : C_web4 (Φ d)) (h5 : C_lots (Φ e)) (h6 : C_some (Φ f)) (h7 : C_changed (Φ g)) (h8 : C_sum_by (Φ h)) (h9 : C_steps (Φ i)) (h10 : C_sum_of (Φ j)) (h11 : C_is_web (Φ k)) (h12 : C_take (Φ l)) (h13 : C_near (Φ m)) (h14 : C_reach (Φ n)) (h15 : C_behind (Φ o)) (h16 : C_is_quiet (Φ p)) (h17 : C_lreach (Φ q)) :
    C_right 1000 (semF Φ 1 19 (B_q_right a b c d e f g h i j k l m n o p q)) := by
  intro cc mo hm hc
  obtain ⟨w, ow, m1, hw, hw7, hm1, e1⟩ := k05_t1 (Φ := Φ) (i := b) (j := d) (k := l) h2 h4 h12 hm (by omega)
  have e2 : ∀ {m : MO}, evS Φ B_q_right_t2 (E5 m .un .un .un .un .un .un .un .un .un .un (.dat (dWeb w)) (.dat (kindD ow))) = some (.nx (E5 m (.dat (.int w.1)) .un .un .un .un .un .un .un .un .un (.dat (dWeb w)) (.dat (kindD ow)))) := fun {m} => by
    have : ixOp (dWeb w) (.int 0) = some (.int w.1) := rfl
    simp [B_q_right_t2, this]
  have e4 : ∀ {m : MO}, evS Φ (B_q_right_t4 a) (E5 m (.dat (.int w.1)) .un .un .un .un .un .un .un .un .un (.dat (dWeb w)) (.dat (kindD ow))) = some (.nx (E5 m (.dat (.int w.1)) (.dat (dLL (tableL w ow))) .un .un .un .un .un .un .un .un (.dat (dWeb w)) (.dat (kindD ow)))) := fun {m} => by
    simp [B_q_right_t4, h1 w ow hw]
  obtain ⟨ps, m7, hp, hp13, hm7, e7⟩ := k05_t7 (Φ := Φ) (k := l) (o := ow) (rows := .dat (dLL (tableL w ow))) (lit := .un) (due := .un) (each := .un) (once := .un) (other := .un) (lots := .un) (sme := .un) h12 hm1 (by omega) hw
  obtain ⟨lt, m8, hl, hm8, e8⟩ := k05_t8 (Φ := Φ) (i := b) (j := e) (o := ow) (rows := .dat (dLL (tableL w ow))) (presses := .dat (dI ps)) (due := .un) (each := .un) (once := .un) (other := .un) (lots := .un) (sme := .un) h2 h5 hm7 (by omega) hw
  have e11 : evS Φ B_q_right_t11 (E5 m8 (.dat (.int w.1)) (.dat (dLL (tableL w ow))) (.dat (dI ps)) (.dat (dI lt)) (.dat (dI (changedL w ow ps))) .un .un .un .un .un (.dat (dWeb w)) (.dat (kindD ow))) = some (.nx (E5 m8 (.dat (.int w.1)) (.dat (dLL (tableL w ow))) (.dat (dI ps)) (.dat (dI lt)) (.dat (dI (changedL w ow ps))) (.own true (.lst [dI lt])) .un .un .un .un (.dat (dWeb w)) (.dat (kindD ow)))) := by
    simp [B_q_right_t11]
  obtain ⟨qs, m15, hq, hm15, e15⟩ := k05_t15 (Φ := Φ) (i := f) (o := ow) (rows := .dat (dLL (tableL w ow))) (lit := .dat (dI lt)) (due := .dat (dI (changedL w ow ps))) (each := .own true (.lst ((walkS (stepF w ow) lt ps).map dI))) (once := .dat (dI ((upto w.1.toNat).filter fun x => par ps x))) (lots := .un) (sme := .un) h6 hp hm8 (by omega)
  obtain ⟨ls, m17, hs, hl5, hm17, e17⟩ := k05_t17 (Φ := Φ) (i := b) (j := e) (k := l) (o := ow) (rows := .dat (dLL (tableL w ow))) (presses := .dat (dI ps)) (lit := .dat (dI lt)) (due := .dat (dI (changedL w ow ps))) (each := .own true (.lst ((walkS (stepF w ow) lt ps).map dI))) (once := .dat (dI ((upto w.1.toNat).filter fun x => par ps x))) (other := .dat (dI qs)) (sme := .un) h2 h5 h12 hm15 (by omega) hw
  refine ⟨m17, pot_mono hm17 (by omega), ?_⟩
  have hE : evS Φ (B_q_right a b c d e f g h i j k l m n o p q) (E5 mo .un .un .un .un .un .un .un .un .un .un .un .un) = some (.rt (.val (.bl true)) (E5 m17 (.dat (.int w.1)) (.dat (dLL (tableL w ow))) (.dat (dI ps)) (.dat (dI lt)) (.dat (dI (changedL w ow ps))) (.own true (.lst ((walkS (stepF w ow) lt ps).map dI))) (.dat (dI ((upto w.1.toNat).filter fun x => par ps x))) (.dat (dI qs)) (.dat (dLL ls)) (.own true (.lst (someL w))) (.dat (dWeb w)) (.dat (kindD ow)))) := by
    unfold B_q_right
    rw [sq_nx e1, sq_nx e2, sq_nx (k05_t3 h13 h14 h17 hw), sq_nx e4, sq_nx (k05_t5 h17 hw), sq_nx (k05_t6 hw), sq_nx e7, sq_nx e8, sq_nx (k05_t9 h3 hw hp), sq_nx (k05_t10 h7 h8 h15 hw hp hl), sq_nx e11, sq_nx (k05_t12 h8 h17 hw hp hl), sq_nx (k05_t13 h9 hw hp hl), sq_nx (k05_t14 hw hp), sq_nx e15, sq_nx (k05_t16 h7 h16 hw hp hq), sq_nx e17, sq_nx (k05_t18 h8 h10 hw hs hl5), sq_nx (k05_t19 h3 h7 h8 h10 hw hs hl5), sq_nx k05_t20, qs_seq4, k05_t21 h11 hw]
  unfold semF
  rw [if_pos (show [Arg.own mo].length = 1 from rfl)]
  have : evS Φ (B_q_right a b c d e f g h i j k l m n o p q) ([Arg.own mo].map Arg.slot ++ List.replicate (19 - 1) Slot.un) = _ := hE
  rw [this]
  rfl
end
end Mi

namespace Lw
open PySem PySem.Spec PyProof.Rows L2 Mi G
theorem v0 : C_cells (semF (PhiR ds0) 2 2 (B_q_cells )) := L_cells (Φ := PhiR ds0)
theorem v1 : C_pot (semF (PhiR ds1) 2 5 (B_q_pot )) := by first | exact pot_gen (cellA_ok (by decide) (by decide) (by decide)) (by decide) (by decide) (by decide) | exact pot_gen (cellC_ok (by decide) (by decide) (by decide)) (by decide) (by decide) (by decide) | exact pot_gen (cellB_ok (by decide) (by decide)) (by decide) (by decide) (by decide)
theorem v2 : C_is_ascending (semF (PhiR ds2) 1 3 (B_is_ascending )) := L_is_ascending (Φ := PhiR ds2)
theorem v3 : C_is_integer (semF (PhiR ds3) 1 1 (B_is_integer )) := L_is_integer (Φ := PhiR ds3)
theorem v4 : C_is_between (semF (PhiR ds4) 3 3 (B_is_between 3)) := L_is_between (Φ := PhiR ds4) (show C_is_integer (PhiR ds4 3) from v3)
theorem v5 : C_are_between (semF (PhiR ds5) 3 4 (B_are_between 4)) := L_are_between (Φ := PhiR ds5) (show C_is_between (PhiR ds5 4) from v4)
theorem v6 : C_is_door (semF (PhiR ds6) 2 2 (B_is_door 5)) := L_is_door (Φ := PhiR ds6) (show C_are_between (PhiR ds6 5) from v5)
theorem v7 : C_is_web (semF (PhiR ds7) 1 2 (B_is_web 2 4 6)) := L_is_web (Φ := PhiR ds7) (show C_is_ascending (PhiR ds7 2) from v2) (show C_is_between (PhiR ds7 4) from v4) (show C_is_door (PhiR ds7 6) from v6)
theorem v8 : C_check_web (semF (PhiR ds8) 1 1 (B_check_web 7)) := L_check_web (Φ := PhiR ds8) (show C_is_web (PhiR ds8 7) from v7)
theorem v9 : C_check_kind (semF (PhiR ds9) 2 2 (B_check_kind 8)) := L_check_kind (Φ := PhiR ds9) (show C_check_web (PhiR ds9 8) from v8)
theorem v10 : C_near_of (semF (PhiR ds10) 2 4 (B_near_of )) := L_near_of (Φ := PhiR ds10)
theorem v11 : C_reach_of (semF (PhiR ds11) 3 3 (B_reach_of 10)) := L_reach_of (Φ := PhiR ds11) (show C_near_of (PhiR ds11 10) from v10)
theorem v12 : C_table (semF (PhiR ds12) 2 5 (B_table 9 11)) := L_table (Φ := PhiR ds12) (show C_check_kind (PhiR ds12 9) from v9) (show C_reach_of (PhiR ds12 11) from v11)
theorem v13 : C_take (semF (PhiR ds13) 2 5 (B_q_take )) := by first | exact take4 (by decide) (by decide) (by decide) (by decide) (by decide) (by decide) (by decide) (by decide) (by decide) (by decide) | exact take5 (by decide) (by decide) (by decide) (by decide) (by decide) (by decide) (by decide) (by decide) (by decide) (by decide) (by decide) (by decide)
theorem v14 : C_of (semF (PhiR ds14) 2 2 (B_q_of 13)) := L_of (Φ := PhiR ds14) (show C_take (PhiR ds14 13) from v13)
theorem v15 : C_sum_by (semF (PhiR ds15) 1 4 (B_q_sum )) := L_q_sum (Φ := PhiR ds15)
theorem v16 : C_lreach (semF (PhiR ds16) 3 5 (B_q_reach )) := L_lreach (Φ := PhiR ds16)
theorem v17 : C_lchanged (semF (PhiR ds17) 3 4 (B_q_changed 15 16)) := L_lchanged (Φ := PhiR ds17) (show C_sum_by (PhiR ds17 15) from v15) (show C_lreach (PhiR ds17 16) from v16)
theorem v18 : C_some (semF (PhiR ds18) 3 6 (B_q_some 13)) := L_some (Φ := PhiR ds18) (show C_take (PhiR ds18 13) from v13)
theorem v19 : C_web4 (semF (PhiR ds19) 3 8 (B_q_web 13 18)) := L_web4 (Φ := PhiR ds19) (show C_take (PhiR ds19 13) from v13) (show C_some (PhiR ds19 18) from v18)
theorem v20 : C_lots (semF (PhiR ds20) 1 4 (B_q_lots )) := L_lots (Φ := PhiR ds20)
theorem v21 : C_check_presses (semF (PhiR ds21) 2 2 (B_check_presses 5)) := L_check_presses (Φ := PhiR ds21) (show C_are_between (PhiR ds21 5) from v5)
theorem v22 : C_sum_by (semF (PhiR ds22) 1 4 (B_sum_by )) := L_sum_by (Φ := PhiR ds22)
theorem v23 : C_changed_by (semF (PhiR ds23) 3 4 (B_changed_by 22 11)) := L_changed_by (Φ := PhiR ds23) (show C_sum_by (PhiR ds23 22) from v22) (show C_reach_of (PhiR ds23 11) from v11)
theorem v24 : C_changed (semF (PhiR ds24) 3 3 (B_changed 9 21 23)) := L_changed (Φ := PhiR ds24) (show C_check_kind (PhiR ds24 9) from v9) (show C_check_presses (PhiR ds24 21) from v21) (show C_changed_by (PhiR ds24 23) from v23)
theorem v25 : C_is_lot_of (semF (PhiR ds25) 2 2 (B_is_lot_of 5 2)) := L_is_lot_of (Φ := PhiR ds25) (show C_are_between (PhiR ds25 5) from v5) (show C_is_ascending (PhiR ds25 2) from v2)
theorem v26 : C_check_lot (semF (PhiR ds26) 2 2 (B_check_lot 25)) := L_check_lot (Φ := PhiR ds26) (show C_is_lot_of (PhiR ds26 25) from v25)
theorem v27 : C_check_ahead (semF (PhiR ds27) 4 4 (B_check_ahead 9 26 21)) := L_check_ahead (Φ := PhiR ds27) (show C_check_kind (PhiR ds27 9) from v9) (show C_check_lot (PhiR ds27 26) from v26) (show C_check_presses (PhiR ds27 21) from v21)
theorem v28 : C_steps (semF (PhiR ds28) 4 6 (B_steps 27 22 11)) := L_steps (Φ := PhiR ds28) (show C_check_ahead (PhiR ds28 27) from v27) (show C_sum_by (PhiR ds28 22) from v22) (show C_reach_of (PhiR ds28 11) from v11)
theorem v29 : C_sum_of (semF (PhiR ds29) 2 3 (B_sum_of 8 22 25)) := L_sum_of (Φ := PhiR ds29) (show C_check_web (PhiR ds29 8) from v8) (show C_sum_by (PhiR ds29 22) from v22) (show C_is_lot_of (PhiR ds29 25) from v25)
theorem v30 : C_check_room (semF (PhiR ds30) 2 2 (B_check_room 4)) := L_check_room (Φ := PhiR ds30) (show C_is_between (PhiR ds30 4) from v4)
theorem v31 : C_near (semF (PhiR ds31) 2 2 (B_near 8 30 10)) := L_near (Φ := PhiR ds31) (show C_check_web (PhiR ds31 8) from v8) (show C_check_room (PhiR ds31 30) from v30) (show C_near_of (PhiR ds31 10) from v10)
theorem v32 : C_reach (semF (PhiR ds32) 3 3 (B_reach 9 30 11)) := L_reach (Φ := PhiR ds32) (show C_check_kind (PhiR ds32 9) from v9) (show C_check_room (PhiR ds32 30) from v30) (show C_reach_of (PhiR ds32 11) from v11)
theorem v33 : C_behind (semF (PhiR ds33) 4 4 (B_behind 27 22 23)) := L_behind (Φ := PhiR ds33) (show C_check_ahead (PhiR ds33 27) from v27) (show C_sum_by (PhiR ds33 22) from v22) (show C_changed_by (PhiR ds33 23) from v23)
theorem v34 : C_is_quiet (semF (PhiR ds34) 3 3 (B_is_quiet 9 26 23)) := L_is_quiet (Φ := PhiR ds34) (show C_check_kind (PhiR ds34 9) from v9) (show C_check_lot (PhiR ds34 26) from v26) (show C_changed_by (PhiR ds34 23) from v23)
theorem v35 : C_right 1000 (semF (PhiR ds35) 1 19 (B_q_right 12 14 17 19 20 18 24 15 28 29 7 13 31 32 33 34 16)) := L_right5 (Φ := PhiR ds35) (show C_table (PhiR ds35 12) from v12) (show C_of (PhiR ds35 14) from v14) (show C_lchanged (PhiR ds35 17) from v17) (show C_web4 (PhiR ds35 19) from v19) (show C_lots (PhiR ds35 20) from v20) (show C_some (PhiR ds35 18) from v18) (show C_changed (PhiR ds35 24) from v24) (show C_sum_by (PhiR ds35 15) from v15) (show C_steps (PhiR ds35 28) from v28) (show C_sum_of (PhiR ds35 29) from v29) (show C_is_web (PhiR ds35 7) from v7) (show C_take (PhiR ds35 13) from v13) (show C_near (PhiR ds35 31) from v31) (show C_reach (PhiR ds35 32) from v32) (show C_behind (PhiR ds35 33) from v33) (show C_is_quiet (PhiR ds35 34) from v34) (show C_lreach (PhiR ds35 16) from v16)
theorem law_true : ∀ ns : List Int, ns.length ≤ 63 → (∀ z ∈ ns, Builtin.Int.intBits z ≤ 1048576) → semF (PhiR ds36) 1 n36.length b36 [.dat (.scr ns)] = some (.val (.bl true), []) := fun ns _ _ =>
  law_gen (Φ := PhiR ds36) (cells := 3) (n := 4) (show C_cells (PhiR ds36 0) from v0) (show C_pot (PhiR ds36 1) from v1) (show C_right 1000 (PhiR ds36 35) from v35) (by decide) (by decide) (by decide) ns
end Lw

open PySem PySem.W PyProof.Rows in
set_option maxRecDepth 100000 in
set_option maxHeartbeats 0 in
theorem PySem.Challenge.cw_whicheverlit_k05_whole_presses_and_lamps_holds : PySem.Challenge.rw_whicheverlit_k05_whole_presses_and_lamps.Holds := by
  w_on; o_law; k_head; (case hw => w_witness2)
  k_fill
  refine Mi.walk_G (l := PySem.Challenge.rw_whicheverlit_k05_whole_presses_and_lamps) (n := 63) (k := 37) (x := Str.ofString "script") rfl (by decide) rfl ⟨rfl, by decide, by decide⟩ (fun w h Y => PySem.W.kIn_of Y) ?F Lw.law_true
  case F =>
    intro w mg fa h KX G hmg
    refine' _root_.G.finish KX G hmg (Mi.blt_cons ?z0 (Mi.blt_cons ?z1 (Mi.blt_cons ?z2 (Mi.blt_cons ?z3 (Mi.blt_cons ?z4 (Mi.blt_cons ?z5 (Mi.blt_cons ?z6 (Mi.blt_cons ?z7 (Mi.blt_cons ?z8 (Mi.blt_cons ?z9 (Mi.blt_cons ?z10 (Mi.blt_cons ?z11 (Mi.blt_cons ?z12 (Mi.blt_cons ?z13 (Mi.blt_cons ?z14 (Mi.blt_cons ?z15 (Mi.blt_cons ?z16 (Mi.blt_cons ?z17 (Mi.blt_cons ?z18 Mi.blt_nil))))))))))))))))))) (Mi.cst_cons (Mi.cst_int KX G ?e0) (Mi.cst_cons (Mi.cst_str KX G ?e1) (Mi.cst_cons (Mi.cst_str KX G ?e2) (Mi.cst_cons (Mi.cst_int KX G ?e3) Mi.cst_nil)))) (Mi.df_mk ?a0 ?l0 ?c0 ?k0) (Mi.df_mk ?a1 ?l1 ?c1 ?k1) (Mi.df_mk ?a2 ?l2 ?c2 ?k2) (Mi.df_mk ?a3 ?l3 ?c3 ?k3) (Mi.df_mk ?a4 ?l4 ?c4 ?k4) (Mi.df_mk ?a5 ?l5 ?c5 ?k5) (Mi.df_mk ?a6 ?l6 ?c6 ?k6) (Mi.df_mk ?a7 ?l7 ?c7 ?k7) (Mi.df_mk ?a8 ?l8 ?c8 ?k8) (Mi.df_mk ?a9 ?l9 ?c9 ?k9) (Mi.df_mk ?a10 ?l10 ?c10 ?k10) (Mi.df_mk ?a11 ?l11 ?c11 ?k11) (Mi.df_mk ?a12 ?l12 ?c12 ?k12) (Mi.df_mk ?a13 ?l13 ?c13 ?k13) (Mi.df_mk ?a14 ?l14 ?c14 ?k14) (Mi.df_mk ?a15 ?l15 ?c15 ?k15) (Mi.df_mk ?a16 ?l16 ?c16 ?k16) (Mi.df_mk ?a17 ?l17 ?c17 ?k17) (Mi.df_mk ?a18 ?l18 ?c18 ?k18) (Mi.df_mk ?a19 ?l19 ?c19 ?k19) (Mi.df_mk ?a20 ?l20 ?c20 ?k20) (Mi.df_mk ?a21 ?l21 ?c21 ?k21) (Mi.df_mk ?a22 ?l22 ?c22 ?k22) (Mi.df_mk ?a23 ?l23 ?c23 ?k23) (Mi.df_mk ?a24 ?l24 ?c24 ?k24) (Mi.df_mk ?a25 ?l25 ?c25 ?k25) (Mi.df_mk ?a26 ?l26 ?c26 ?k26) (Mi.df_mk ?a27 ?l27 ?c27 ?k27) (Mi.df_mk ?a28 ?l28 ?c28 ?k28) (Mi.df_mk ?a29 ?l29 ?c29 ?k29) (Mi.df_mk ?a30 ?l30 ?c30 ?k30) (Mi.df_mk ?a31 ?l31 ?c31 ?k31) (Mi.df_mk ?a32 ?l32 ?c32 ?k32) (Mi.df_mk ?a33 ?l33 ?c33 ?k33) (Mi.df_mk ?a34 ?l34 ?c34 ?k34) (Mi.df_mk ?a35 ?l35 ?c35 ?k35) (Mi.df_mk ?a36 ?l36 ?c36 ?k36)
    (case z0 => k_is)
    (case z1 => k_is)
    (case z2 => k_is)
    (case z3 => k_is)
    (case z4 => k_is)
    (case z5 => k_is)
    (case z6 => k_is)
    (case z7 => k_is)
    (case z8 => k_is)
    (case z9 => k_is)
    (case z10 => k_is)
    (case z11 => k_is)
    (case z12 => k_is)
    (case z13 => k_is)
    (case z14 => k_is)
    (case z15 => k_is)
    (case z16 => k_is)
    (case z17 => k_is)
    (case z18 => k_is)
    (case e0 => k_is)
    (case e1 => k_is)
    (case e2 => k_is)
    (case e3 => k_is)
    (case a0 => k_is); (case l0 => k_is); (case c0 => k_is); (case k0 => k_is)
    (case a1 => k_is); (case l1 => k_is); (case c1 => k_is); (case k1 => k_is)
    (case a2 => k_is); (case l2 => k_is); (case c2 => k_is); (case k2 => k_is)
    (case a3 => k_is); (case l3 => k_is); (case c3 => k_is); (case k3 => k_is)
    (case a4 => k_is); (case l4 => k_is); (case c4 => k_is); (case k4 => k_is)
    (case a5 => k_is); (case l5 => k_is); (case c5 => k_is); (case k5 => k_is)
    (case a6 => k_is); (case l6 => k_is); (case c6 => k_is); (case k6 => k_is)
    (case a7 => k_is); (case l7 => k_is); (case c7 => k_is); (case k7 => k_is)
    (case a8 => k_is); (case l8 => k_is); (case c8 => k_is); (case k8 => k_is)
    (case a9 => k_is); (case l9 => k_is); (case c9 => k_is); (case k9 => k_is)
    (case a10 => k_is); (case l10 => k_is); (case c10 => k_is); (case k10 => k_is)
    (case a11 => k_is); (case l11 => k_is); (case c11 => k_is); (case k11 => k_is)
    (case a12 => k_is); (case l12 => k_is); (case c12 => k_is); (case k12 => k_is)
    (case a13 => k_is); (case l13 => k_is); (case c13 => k_is); (case k13 => k_is)
    (case a14 => k_is); (case l14 => k_is); (case c14 => k_is); (case k14 => k_is)
    (case a15 => k_is); (case l15 => k_is); (case c15 => k_is); (case k15 => k_is)
    (case a16 => k_is); (case l16 => k_is); (case c16 => k_is); (case k16 => k_is)
    (case a17 => k_is); (case l17 => k_is); (case c17 => k_is); (case k17 => k_is)
    (case a18 => k_is); (case l18 => k_is); (case c18 => k_is); (case k18 => k_is)
    (case a19 => k_is); (case l19 => k_is); (case c19 => k_is); (case k19 => k_is)
    (case a20 => k_is); (case l20 => k_is); (case c20 => k_is); (case k20 => k_is)
    (case a21 => k_is); (case l21 => k_is); (case c21 => k_is); (case k21 => k_is)
    (case a22 => k_is); (case l22 => k_is); (case c22 => k_is); (case k22 => k_is)
    (case a23 => k_is); (case l23 => k_is); (case c23 => k_is); (case k23 => k_is)
    (case a24 => k_is); (case l24 => k_is); (case c24 => k_is); (case k24 => k_is)
    (case a25 => k_is); (case l25 => k_is); (case c25 => k_is); (case k25 => k_is)
    (case a26 => k_is); (case l26 => k_is); (case c26 => k_is); (case k26 => k_is)
    (case a27 => k_is); (case l27 => k_is); (case c27 => k_is); (case k27 => k_is)
    (case a28 => k_is); (case l28 => k_is); (case c28 => k_is); (case k28 => k_is)
    (case a29 => k_is); (case l29 => k_is); (case c29 => k_is); (case k29 => k_is)
    (case a30 => k_is); (case l30 => k_is); (case c30 => k_is); (case k30 => k_is)
    (case a31 => k_is); (case l31 => k_is); (case c31 => k_is); (case k31 => k_is)
    (case a32 => k_is); (case l32 => k_is); (case c32 => k_is); (case k32 => k_is)
    (case a33 => k_is); (case l33 => k_is); (case c33 => k_is); (case k33 => k_is)
    (case a34 => k_is); (case l34 => k_is); (case c34 => k_is); (case k34 => k_is)
    (case a35 => k_is); (case l35 => k_is); (case c35 => k_is); (case k35 => k_is)
    (case a36 => k_is); (case l36 => k_is); (case c36 => k_is); (case k36 => k_is)

