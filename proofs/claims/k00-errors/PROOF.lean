import PyProof.Rows.All
import Wide.All
import OpenK.AllK
import Wide.FinOn
import HandS.ForMost
import KE.KDictKeyed
import HandS.Lambda
import HandS.ExcInit
import HandS.ExcValue
import HandS.EndTab
import HandS.WordsExc
import HandS.IsInst
import HandS.Flow
import HandS.TupAny
import HandS.TupMul
import HandS.Style
import HandS.ForExc
import HandS.Conv
import HandS.Star
import HandS.Comp
import HandS.Deep
import KE.KExcSuper
import HandS.ExcSuper
import HandS.Nested
import HandS.TryMany
import HandS.ExcField
import HandS.RaiseMore
import HandS.Iter
import KE.GoesMore
import KE.KDictDisplayH
import HandS.DictComp
import HandS.TupLen
import KE.DataMinMax
import KE.SortKeyHeap
import KE.KDictPairs
import PyProof.ReprRoads
import HandS.SortKw
import KE.KExcIs
import HandS.Text
import HandS.Dict
import PySem.Challenge.RW_lampfolk_k00_errors_alone
set_option Elab.async false
set_option linter.all false
set_option maxRecDepth 100000
set_option maxHeartbeats 4000000
/-! PL1: plain data D, what it looks like in the heap, environments, denotations of expressions and statements. -/
namespace PL
open PySem L2

inductive D where
  | non | bl (b : Bool) | int (i : Int) | str (x : Str)
  | tup (l : List D) | lst (l : List D) | dct (ks ds : List D) | ins (c : Str) (ns : List Str) (ds : List D) | fn (x : Str)
  /-- other objects that stay as they are: t 0: an exception of the class x -/
  | ext (t : Nat) (x : Str) (ns : List Str) (ds : List D)
  deriving Inhabited

structure Pot where
  cells : List Int
  used : Int
  mix : Int
  great : Int

/-- an exception: its class's name, its fields' names and values -/
structure Exc where
  c : Str
  ns : List Str
  as : List D
inductive Out (α : Type) where
  | ok (a : α) | exc (x : Exc) | bad

def Out.bind {α β : Type} (x : Out α) (f : α → Out β) : Out β := match x with
  | .ok a => f a
  | .exc x => .exc x
  | .bad => .bad
instance : Monad Out where
  pure := .ok
  bind := Out.bind

def M (α : Type) : Type := Pot → Out (α × Pot)
def M.bind {α β : Type} (m : M α) (f : α → M β) : M β := fun p => match m p with
  | .ok (a, q) => f a q
  | .exc x => .exc x
  | .bad => .bad
instance : Monad M where
  pure a := fun p => .ok (a, p)
  bind := M.bind
def M.lift {α : Type} (x : Out α) : M α := fun p => match x with
  | .ok a => .ok (a, p)
  | .exc x => .exc x
  | .bad => .bad
def M.bad {α : Type} : M α := fun _ => .bad
/-- an exception is not wanted here -/
def M.nox {α : Type} (m : M α) : M α := fun p => match m p with
  | .ok a => .ok a
  | _ => .bad

/-- the world's facts -/
structure Wd where
  P : Program
  w : World
  K : PySem.W.Frag
  mg : Str → Option Value

/-! ### keys of dicts -/
mutual
/-- a key as the library's nested key -/
def nkey : D → Option NestedKey
  | .non => some NestedKey.none
  | .bl b => some (NestedKey.num (if b then 1 else 0))
  | .int i => some (NestedKey.num i)
  | .str x => some (NestedKey.text x)
  | .tup l => (nkeys l).map NestedKey.tup
  | .lst _ => none
  | .dct _ _ => none
  | .ins _ _ _ => none
  | .fn _ => none
  | .ext _ _ _ _ => none
def nkeys : List D → Option (List NestedKey)
  | [] => some []
  | d :: l => match nkey d, nkeys l with
    | some k, some r => some (k :: r)
    | _, _ => none
end

/-- the entries of a dict whose keys are tuples -/
def DicPhi (W : Wd) (a : Addr) (es : List (NestedKey × Addr × V)) : Heap → Prop := fun h =>
  (a == sysModules) = false ∧ es.length ≤ sizeLine ∧ (∀ e ∈ es, e.1.depth ≤ 8) ∧ ∃ xs : List (NestedKey × Addr × Value), Paired (fun (p : NestedKey × Addr × V) (q : NestedKey × Addr × Value) => p.1 = q.1 ∧ p.2.1 = q.2.1 ∧ RelV p.2.2 q.2.2) es xs ∧
    ∃ o ep, h.get? a = some o ∧ o.ExactDict ∧ o.data = .dict (xs.map (entryOfKey (nestedKind W.P W.w))).toArray ep
abbrev HOd (W : Wd) (a : Addr) (es : List (NestedKey × Addr × V)) : HO := .ext (DicPhi W a es)
def keyD : Key → D
  | .inl i => .int i
  | .inr x => .str x

/-- all but a code object's table -/
def NT (o : HO) : Prop := ∀ ps, o ≠ .tbl ps
/-- no code object stands there, nor a table -/
def NC (a : Addr) (o : HO) : Prop := (∀ q, o ≠ LamX.CodeO a q) ∧ NT o
/-- the objects that make up another object, and the values in it -/
def Shape (W : Wd) : Nat → Str → List Str → Addr → List V → List (Addr × HO) → Prop
  | 0, x, ns, a, vs, L => ∃ C, W.mg x = some (.ref C) ∧ ((ns = [] ∧ vs = [] ∧ L = [(a, exo a C none)]) ∨ (ns = [] ∧ vs = [] ∧ L = [(a, ExO (.ref C) a)]) ∨ ∃ (dx : Addr) (fs : List (Str × V)), L = [(a, exo a C (some dx)), (dx, exd dx fs)] ∧ fs.map (·.1) = ns ∧ fs.map (·.2) = vs)
  | _ + 1, _, _, _, _, _ => False
/-! ### what data looks like: S, the addresses that may change -/
mutual
def Rep (W : Wd) (S : Addr → Prop) (H : Hp) : D → V → Prop
  | .non, v => v = .non
  | .bl b, v => v = .bl b
  | .int i, v => v = .int i
  | .str x, v => v = .str x
  | .tup l, v => ∃ a vs, v = .ref a ∧ SqT W.K H a vs ∧ Reps W S H l vs
  | .lst l, v => ∃ a, v = .ref a ∧ ¬ S a ∧ ∃ vs, H a = some (.lst vs) ∧ Reps W S H l vs
  | .dct ks ds, v => ∃ a, v = .ref a ∧ ¬ S a ∧ ((∃ kvs : List (Key × V), H a = some (.dK kvs) ∧ ks = kvs.map (fun p => keyD p.1) ∧ (kvs.map (·.1)).Nodup ∧ Reps W S H ds (kvs.map (·.2))) ∨
      ∃ es : List (NestedKey × Addr × V), H a = some (HOd W a es) ∧ nkeys ks = some (es.map (·.1)) ∧ (es.map (·.1)).Nodup ∧ Reps W S H ks (es.map (fun e => V.ref e.2.1)) ∧ Reps W S H ds (es.map (·.2.2)))
  | .fn x, v => ∃ a, v = .ref a ∧ W.mg x = some (.ref a)
  | .ext t x ns ds, v => ∃ a vs L, v = .ref a ∧ Shape W t x ns a vs L ∧ (∀ p ∈ L, ¬ S p.1 ∧ NC p.1 p.2 ∧ H p.1 = some p.2) ∧ Reps W S H ds vs
  | .ins c ns ds, v => ∃ a, v = .ref a ∧ ¬ S a ∧ ∃ C dx fs, W.mg c = some (.ref C) ∧ H a = some (.ins C dx fs) ∧ fs.map (·.1) = ns ∧ Reps W S H ds (fs.map (·.2))
def Reps (W : Wd) (S : Addr → Prop) (H : Hp) : List D → List V → Prop
  | [], vs => vs = []
  | d :: l, vs => ∃ v r, vs = v :: r ∧ Rep W S H d v ∧ Reps W S H l r
end
/-- a container's content at a, whoever may change it -/
def OwnAt (W : Wd) (S : Addr → Prop) (H : Hp) (a : Addr) : D → Prop
  | .lst l => ∃ vs, H a = some (.lst vs) ∧ Reps W S H l vs
  | .dct ks ds => (∃ kvs : List (Key × V), H a = some (.dK kvs) ∧ ks = kvs.map (fun p => keyD p.1) ∧ (kvs.map (·.1)).Nodup ∧ Reps W S H ds (kvs.map (·.2))) ∨
      ∃ es : List (NestedKey × Addr × V), H a = some (HOd W a es) ∧ nkeys ks = some (es.map (·.1)) ∧ (es.map (·.1)).Nodup ∧ Reps W S H ks (es.map (fun e => V.ref e.2.1)) ∧ Reps W S H ds (es.map (·.2.2))
  | .ins c ns ds => ∃ C dx fs, W.mg c = some (.ref C) ∧ H a = some (.ins C dx fs) ∧ fs.map (·.1) = ns ∧ Reps W S H ds (fs.map (·.2))
  | _ => False
section
variable {W : Wd} {S S' : Addr → Prop} {H H' : Hp}
theorem Rep.own {d : D} {v : V} (h : Rep W S H d v) (hc : ∀ l, d ≠ .tup l) (he : ∀ t x ns ds, d ≠ .ext t x ns ds) : (∃ a, v = .ref a ∧ ¬ S a ∧ OwnAt W S H a d) ∨ (∀ S' H', Rep W S' H' d v) := by
  cases d with
  | non => exact .inr fun _ _ => by unfold Rep at h ⊢; exact h
  | bl b => exact .inr fun _ _ => by unfold Rep at h ⊢; exact h
  | int b => exact .inr fun _ _ => by unfold Rep at h ⊢; exact h
  | str b => exact .inr fun _ _ => by unfold Rep at h ⊢; exact h
  | tup l => exact absurd rfl (hc l)
  | lst l => unfold Rep at h; exact .inl h
  | dct k l => unfold Rep at h; exact .inl h
  | ins c n l => unfold Rep at h; exact .inl h
  | fn x => exact .inr fun _ _ => by unfold Rep at h ⊢; exact h
  | ext t x ns ds => exact absurd rfl (he _ _ _ _)
theorem OwnAt.rep {d : D} {a : Addr} (h : OwnAt W S H a d) (hs : ¬ S a) : Rep W S H d (.ref a) := by
  cases d with
  | non => exact h.elim
  | bl b => exact h.elim
  | int b => exact h.elim
  | str b => exact h.elim
  | tup l => exact h.elim
  | lst l => unfold Rep; exact ⟨a, rfl, hs, h⟩
  | dct k l => unfold Rep; exact ⟨a, rfl, hs, h⟩
  | ins c n l => unfold Rep; exact ⟨a, rfl, hs, h⟩
  | fn x => exact h.elim
  | ext _ _ _ _ => exact h.elim
theorem OwnAt.there {d : D} {a : Addr} (h : OwnAt W S H a d) : Mut (H a) := by
  cases d with
  | non => exact h.elim
  | bl b => exact h.elim
  | int b => exact h.elim
  | str b => exact h.elim
  | tup l => exact h.elim
  | lst l => obtain ⟨vs, e, _⟩ := h; rw [e]; trivial
  | dct k l =>
    rcases h with ⟨_, e, _⟩ | ⟨_, e, _⟩
    · rw [e]; trivial
    · rw [e]; trivial
  | ins c n l => obtain ⟨_, _, _, _, e, _⟩ := h; rw [e]; trivial
  | fn x => exact h.elim
  | ext _ _ _ _ => exact h.elim

/-- the tables of code objects, each with the name that its code objects bear -/
class TabL where
  T : List (Addr × Str)
variable [TabL]
/-- what is not in X stays; a table may grow -/
structure Kept (X : Addr → Prop) (H H' : Hp) : Prop where
  get : ∀ a o, H a = some o → ¬ X a → NT o → H' a = some o
  dom : ∀ a ps, H a = some (.tbl ps) → ∃ ps', H' a = some (.tbl ps')
  tab : LamX.Tabs TabL.T H → LamX.Tabs TabL.T H'
theorem Kept.refl {X : Addr → Prop} {H : Hp} : Kept X H H := ⟨fun _ _ h _ _ => h, fun _ _ h => ⟨_, h⟩, fun h => h⟩
theorem Kept.full {X : Addr → Prop} {H H' : Hp} (h : ∀ a o, H a = some o → H' a = some o) : Kept X H H' := ⟨fun a o e _ _ => h a o e, fun a ps e => ⟨_, h _ _ e⟩, fun t => LamX.Tabs.ext t h⟩
/-- one address is written -/
theorem Kept.set1 {X : Addr → Prop} {H : Hp} {a : Addr} {o u : HO} (e : H a = some o) (nc : NC a o) (x : X a) : Kept X H (upd H a u) := by
  refine ⟨fun b w h n _ => ?_, fun b ps h => ?_, fun t0 z0 hz0 => ?_⟩
  · rw [upd_ne (fun z => n (by rw [z]; exact x))]; exact h
  · have hb : b ≠ a := fun z => by
      rw [z, e] at h
      exact nc.2 ps (Option.some.inj h)
    exact ⟨ps, by rw [upd_ne hb]; exact h⟩
  · obtain ⟨P, q⟩ := z0
    obtain ⟨ps, h1, h2, h3⟩ := t0 _ hz0
    dsimp only at h1 h3
    have hP : P ≠ a := fun z => by
      rw [z, e] at h1
      exact nc.2 ps (Option.some.inj h1)
    refine ⟨ps, by rw [upd_ne hP]; exact h1, h2, fun pos cv hc => ?_⟩
    obtain ⟨c, e1, e2⟩ := h3 pos cv hc
    have hc : c ≠ a := fun z => by
      rw [z, e] at e2
      exact nc.1 q (Option.some.inj e2)
    exact ⟨c, e1, by rw [upd_ne hc]; exact e2⟩
theorem Kept.setF {X : Addr → Prop} {H H1 : Hp} {a : Addr} {o : HO} (e : H a = some o) (nc : NC a o) (hk : ∀ b, b ≠ a → H1 b = H b) (hm : Mut (H1 a)) (x : X a) : Kept X H H1 := by
  cases g : H1 a with
  | none => rw [g] at hm; exact hm.elim
  | some u =>
    have : H1 = upd H a u := by
      funext b
      by_cases hb : b = a
      · rw [hb, upd_same, g]
      · rw [upd_ne hb, hk b hb]
    rw [this]
    exact Kept.set1 e nc x
theorem nc_lst {a : Addr} {vs : List V} : NC a (.lst vs) := ⟨fun q h => (by unfold LamX.CodeO at h; cases h), fun _ h => nomatch h⟩
theorem nc_ins {a C dx : Addr} {fs : List (Str × V)} : NC a (.ins C dx fs) := ⟨fun q h => (by unfold LamX.CodeO at h; cases h), fun _ h => nomatch h⟩
theorem nc_dK {a : Addr} {kvs : List (Key × V)} : NC a (.dK kvs) := ⟨fun q h => (by unfold LamX.CodeO at h; cases h), fun _ h => nomatch h⟩
theorem nc_HOd {W : Wd} {a : Addr} {es : List (NestedKey × Addr × V)} : NC a (HOd W a es) := by
  refine ⟨fun q h => ?_, fun _ h => nomatch h⟩
  unfold HOd LamX.CodeO at h
  have h2 := HO.ext.inj h
  have hh : (⟨Array.replicate (a + 1) ({ cls := .none, data := .fields #[.none, .str q 0] } : Obj), {}⟩ : Heap).get? a = some ({ cls := .none, data := .fields #[.none, .str q 0] } : Obj) := by
    unfold Heap.get?
    simp
  have h3 := congrFun h2 ⟨Array.replicate (a + 1) ({ cls := .none, data := .fields #[.none, .str q 0] } : Obj), {}⟩
  have h4 : DicPhi W a es ⟨Array.replicate (a + 1) ({ cls := .none, data := .fields #[.none, .str q 0] } : Obj), {}⟩ := by
    rw [h3]
    exact ⟨_, _, 0, hh, rfl, rfl⟩
  obtain ⟨_, _, _, xs, _, o, ep, ho, _, hd⟩ := h4
  rw [hh] at ho
  cases ho
  cases hd
theorem Kept.trans {X : Addr → Prop} {H H1 H2 : Hp} (a : Kept X H H1) (b : Kept X H1 H2) : Kept X H H2 := by
  refine ⟨fun c o h n nt => b.get c o (a.get c o h n nt) n nt, fun c ps h => ?_, fun t => b.tab (a.tab t)⟩
  obtain ⟨ps', h1⟩ := a.dom c ps h
  exact b.dom c ps' h1
theorem Kept.trans2 {X Y : Addr → Prop} {H H1 H2 : Hp} (a : Kept X H H1) (b : Kept Y H1 H2) (h : ∀ c o, H c = some o → Y c → X c) : Kept X H H2 := by
  refine ⟨fun c o e n nt => b.get c o (a.get c o e n nt) (fun y => n (h c o e y)) nt, fun c ps e => ?_, fun t => b.tab (a.tab t)⟩
  obtain ⟨ps', h1⟩ := a.dom c ps e
  exact b.dom c ps' h1
theorem Kept.imp {X Y : Addr → Prop} {H H1 : Hp} (a : Kept X H H1) (h : ∀ b o, H b = some o → X b → Y b) : Kept Y H H1 := ⟨fun c o e n nt => a.get c o e (fun x => n (h c o e x)) nt, a.dom, a.tab⟩
theorem Kept.none {X : Addr → Prop} {H H1 : Hp} (k : Kept X H H1) {a : Addr} (hx : X a → H1 a ≠ Option.none) (h : H1 a = Option.none) : H a = Option.none := by
  cases g : H a with
  | none => rfl
  | some o =>
    by_cases x : X a
    · exact absurd h (hx x)
    · by_cases nt : NT o
      · rw [k.get a o g x nt] at h; cases h
      · unfold NT at nt
        have : ∃ ps, o = .tbl ps := Classical.byContradiction fun z => nt fun ps e => z ⟨ps, e⟩
        obtain ⟨ps, rfl⟩ := this
        obtain ⟨ps', e⟩ := k.dom a ps g
        rw [e] at h; cases h
abbrev Same (H H' : Hp) : Prop := Kept (fun _ => False) H H'
theorem Same.refl (H : Hp) : Same H H := Kept.refl
theorem Same.of {H H' : Hp} (h : L2.Same H H') : Same H H' := Kept.full h
theorem Same.kept {X : Addr → Prop} {H H' : Hp} (s : Same H H') : Kept X H H' := s.imp fun _ _ _ z => z.elim
theorem nt_lst {vs : List V} : NT (.lst vs) := fun _ h => nomatch h
theorem nt_tup {vs : List V} : NT (.tup vs) := fun _ h => nomatch h
theorem nt_ins {C dx : Addr} {fs : List (Str × V)} : NT (.ins C dx fs) := fun _ h => nomatch h
theorem nt_dK {kvs : List (Key × V)} : NT (.dK kvs) := fun _ h => nomatch h
theorem nt_xd {kvs : List (Str × V)} : NT (.xd kvs) := fun _ h => nomatch h
theorem nt_frz {o : Obj} {u : HO} : NT (.frz o u) := fun _ h => nomatch h
theorem nt_ext {f : Heap → Prop} : NT (.ext f) := fun _ h => nomatch h
/-- how the heap may go on: what is not in S stays; S' is of S and new ones -/
structure Goes (S S' : Addr → Prop) (H H' : Hp) : Prop where
  keep : ∀ a o, H a = some o → ¬ S a → NT o → H' a = some o
  sub : ∀ a, S' a → S a ∨ H a = none
  mt : ∀ a, S a → Mut (H a)
theorem Goes.sqt (g : Goes S S' H H') {K : PySem.W.Frag} {a : Addr} {vs : List V} (h : SqT K H a vs) : SqT K H' a vs := by
  rcases h with (h | ⟨o, h⟩) | h
  · exact .inl (.inl (g.keep _ _ h (fun s => by have := g.mt a s; rw [h] at this; exact this) nt_tup))
  · exact .inl (.inr ⟨o, g.keep _ _ h (fun s => by have := g.mt a s; rw [h] at this; exact this) nt_frz⟩)
  · exact .inr h
theorem Goes.nS (g : Goes S S' H H') {a : Addr} {o : HO} (h : H a = some o) (n : ¬ S a) : ¬ S' a := fun s => by
  rcases g.sub a s with q | q
  · exact n q
  · rw [h] at q; cases q
mutual
theorem Rep.goes (g : Goes S S' H H') : ∀ (d : D) (v : V), Rep W S H d v → Rep W S' H' d v
  | .non, v, h => by unfold Rep at h ⊢; exact h
  | .bl b, v, h => by unfold Rep at h ⊢; exact h
  | .int i, v, h => by unfold Rep at h ⊢; exact h
  | .str x, v, h => by unfold Rep at h ⊢; exact h
  | .tup l, v, h => by
    unfold Rep at h ⊢
    obtain ⟨a, vs, e, q, r⟩ := h
    exact ⟨a, vs, e, g.sqt q, Reps.goes g l vs r⟩
  | .lst l, v, h => by
    unfold Rep at h ⊢
    obtain ⟨a, e, n, vs, q, r⟩ := h
    exact ⟨a, e, g.nS q n, vs, g.keep _ _ q n nt_lst, Reps.goes g l vs r⟩
  | .dct ks ds, v, h => by
    unfold Rep at h ⊢
    obtain ⟨a, e, n, q⟩ := h
    rcases q with ⟨kvs, q, e2, nd, r⟩ | ⟨es, q, e2, nd, r1, r2⟩
    · exact ⟨a, e, g.nS q n, .inl ⟨kvs, g.keep _ _ q n nt_dK, e2, nd, Reps.goes g ds _ r⟩⟩
    · exact ⟨a, e, g.nS q n, .inr ⟨es, g.keep _ _ q n nt_ext, e2, nd, Reps.goes g ks _ r1, Reps.goes g ds _ r2⟩⟩
  | .fn x, v, h => by unfold Rep at h ⊢; exact h
  | .ext t x ns ds, v, h => by
    unfold Rep at h ⊢
    obtain ⟨a, vs, L, e, s, hL, r⟩ := h
    exact ⟨a, vs, L, e, s, fun p hp => ⟨g.nS (hL p hp).2.2 (hL p hp).1, (hL p hp).2.1, g.keep _ _ (hL p hp).2.2 (hL p hp).1 (hL p hp).2.1.2⟩, Reps.goes g ds _ r⟩
  | .ins c ns ds, v, h => by
    unfold Rep at h ⊢
    obtain ⟨a, e, n, C, dx, fs, m, q, e2, r⟩ := h
    exact ⟨a, e, g.nS q n, C, dx, fs, m, g.keep _ _ q n nt_ins, e2, Reps.goes g ds _ r⟩
theorem Reps.goes (g : Goes S S' H H') : ∀ (l : List D) (vs : List V), Reps W S H l vs → Reps W S' H' l vs
  | [], vs, h => by unfold Reps at h ⊢; exact h
  | d :: l, vs, h => by
    unfold Reps at h ⊢
    obtain ⟨v, r, e, h1, h2⟩ := h
    exact ⟨v, r, e, Rep.goes g d v h1, Reps.goes g l r h2⟩
end
/-- what is owned and stays -/
theorem OwnAt.goes (g : Goes S S' H H') {a : Addr} {d : D} (h : OwnAt W S H a d) (hk : ∀ o, H a = some o → NT o → H' a = some o) : OwnAt W S' H' a d := by
  cases d with
  | non => exact h.elim
  | bl b => exact h.elim
  | int b => exact h.elim
  | str b => exact h.elim
  | tup l => exact h.elim
  | lst l => obtain ⟨vs, e, r⟩ := h; exact ⟨vs, hk _ e nt_lst, Reps.goes g _ _ r⟩
  | dct k l =>
    rcases h with ⟨kvs, q, e2, nd, r⟩ | ⟨es, q, e2, nd, r1, r2⟩
    · exact .inl ⟨kvs, hk _ q nt_dK, e2, nd, Reps.goes g _ _ r⟩
    · exact .inr ⟨es, hk _ q nt_ext, e2, nd, Reps.goes g _ _ r1, Reps.goes g _ _ r2⟩
  | ins c n l => obtain ⟨C, dx, fs, m, e, e2, r⟩ := h; exact ⟨C, dx, fs, m, hk _ e nt_ins, e2, Reps.goes g _ _ r⟩
  | fn x => exact h.elim
  | ext _ _ _ _ => exact h.elim
/-- where a container of ours stands, no code object does -/
theorem OwnAt.nc {d : D} {a : Addr} (h : OwnAt W S H a d) : ∃ o, H a = some o ∧ NC a o := by
  cases d with
  | non => exact h.elim
  | bl b => exact h.elim
  | int b => exact h.elim
  | str b => exact h.elim
  | tup l => exact h.elim
  | lst l => obtain ⟨vs, e, _⟩ := h; exact ⟨_, e, nc_lst⟩
  | dct k l =>
    rcases h with ⟨_, e, _⟩ | ⟨_, e, _⟩
    · exact ⟨_, e, nc_dK⟩
    · exact ⟨_, e, nc_HOd⟩
  | ins c n l => obtain ⟨_, _, _, _, e, _⟩ := h; exact ⟨_, e, nc_ins⟩
  | fn x => exact h.elim
  | ext _ _ _ _ => exact h.elim
theorem Reps.length : ∀ {l : List D} {vs : List V}, Reps W S H l vs → l.length = vs.length
  | [], _, h => by unfold Reps at h; rw [h]; rfl
  | _ :: l, _, h => by
    unfold Reps at h
    obtain ⟨v, r, rfl, _, h2⟩ := h
    simp [Reps.length h2]
theorem Reps.nil : Reps W S H [] [] := by unfold Reps; rfl
theorem Reps.cons {d : D} {v : V} {l : List D} {vs : List V} (h : Rep W S H d v) (r : Reps W S H l vs) : Reps W S H (d :: l) (v :: vs) := by
  rw [Reps]; exact ⟨v, vs, rfl, h, r⟩
theorem Reps.get : ∀ {l : List D} {vs : List V} {i : Nat} {d : D}, Reps W S H l vs → l[i]? = some d → ∃ v, vs[i]? = some v ∧ Rep W S H d v
  | [], _, _, _, _, e => by simp at e
  | d :: l, _, i, d', h, e => by
    unfold Reps at h
    obtain ⟨v, r, rfl, h1, h2⟩ := h
    cases i with
    | zero => simp at e; subst e; exact ⟨v, rfl, h1⟩
    | succ i => simp at e; simpa using Reps.get h2 e
theorem Reps.get' : ∀ {l : List D} {vs : List V} {i : Nat} {v : V}, Reps W S H l vs → vs[i]? = some v → ∃ d, l[i]? = some d ∧ Rep W S H d v
  | [], _, _, _, h, e => by unfold Reps at h; subst h; simp at e
  | d :: l, _, i, v', h, e => by
    unfold Reps at h
    obtain ⟨v, r, rfl, h1, h2⟩ := h
    cases i with
    | zero => simp at e; subst e; exact ⟨d, rfl, h1⟩
    | succ i => simp at e; simpa using Reps.get' h2 e
theorem Reps.append : ∀ {l l' : List D} {vs vs' : List V}, Reps W S H l vs → Reps W S H l' vs' → Reps W S H (l ++ l') (vs ++ vs')
  | [], _, _, _, h, r => by unfold Reps at h; subst h; exact r
  | d :: l, _, _, _, h, r => by
    unfold Reps at h
    obtain ⟨v, r', rfl, h1, h2⟩ := h
    exact Reps.cons h1 (Reps.append h2 r)
theorem Reps.take (n : Nat) : ∀ {l : List D} {vs : List V}, Reps W S H l vs → Reps W S H (l.take n) (vs.take n) := by
  induction n with
  | zero => intro l vs h; simp only [List.take_zero]; exact .nil
  | succ n ih =>
    intro l vs h
    cases l with
    | nil => unfold Reps at h; subst h; exact .nil
    | cons d l =>
      unfold Reps at h
      obtain ⟨v, r, rfl, h1, h2⟩ := h
      exact .cons h1 (ih h2)
theorem Reps.drop (n : Nat) : ∀ {l : List D} {vs : List V}, Reps W S H l vs → Reps W S H (l.drop n) (vs.drop n) := by
  induction n with
  | zero => intro l vs h; simpa using h
  | succ n ih =>
    intro l vs h
    cases l with
    | nil => unfold Reps at h; subst h; exact .nil
    | cons d l =>
      unfold Reps at h
      obtain ⟨v, r, rfl, h1, h2⟩ := h
      exact ih h2
theorem Reps.set {d : D} {v : V} (h : Rep W S H d v) (i : Nat) : ∀ {l : List D} {vs : List V}, Reps W S H l vs → Reps W S H (l.set i d) (vs.set i v) := by
  induction i with
  | zero =>
    intro l vs r
    cases l with
    | nil => unfold Reps at r; subst r; exact .nil
    | cons d' l =>
      unfold Reps at r
      obtain ⟨v', r', rfl, h1, h2⟩ := r
      exact .cons h h2
  | succ i ih =>
    intro l vs r
    cases l with
    | nil => unfold Reps at r; subst r; exact .nil
    | cons d' l =>
      unfold Reps at r
      obtain ⟨v', r', rfl, h1, h2⟩ := r
      exact .cons h1 (ih h2)
end
end PL

set_option Elab.async false
set_option linter.all false
set_option maxRecDepth 100000
set_option maxHeartbeats 4000000
/-! PL0: room, promises and calls, where no guard (of a repr, of a comparison) is set. -/
namespace PL
open PySem PySem.Spec PyProof.Rows L2

structure Room (k : Nat) (A : Around) : Prop extends L2.Room k A where
  gd : A.guards = some []
section
variable {j k : Nat} {A : Around}
theorem Room.mono (r : Room j A) (h : k ≤ j) : Room k A := ⟨r.toRoom.mono h, r.gd⟩
theorem Room.deeper (r : Room (k + 1) A) (env : Env) : Room k (A.deeper env) := ⟨r.toRoom.deeper env, r.gd⟩
theorem Room.in1 (r : Room (k + 1) A) : Room k A.in1 := ⟨r.toRoom.in1, r.gd⟩
theorem Room.make (r : Room (k + 1) A) (C : Addr) (us : List Value) (kw : List (Str × Value)) : Room k (A.under (.builtin "type.__call__" ⟨.ref C :: us, kw⟩)) := ⟨r.toRoom.make C us kw, by
  have g := r.gd
  first
    | exact g
    | (simp [Around.under, Code.isGuard, Code.isFrame, Code.isCaller, Code.guards, guardIds, g])⟩
theorem room0 (h : L2.Room k callerA) : Room k callerA := ⟨h, rfl⟩
end

/-- a def's promise at every place with room and no guard -/
structure FnOk (P : Program) (w : World) (K : PySem.W.Frag) (mg : Str → Option Value) (base : Heap) (CX : CXT) (k : Nat) (f : Addr) (fd : FuncData) (ps : List Str) (sp : Sp) : Prop where
  len : ∀ as H Q E, sp as H Q E → as.length = ps.length
  run : ∀ (A : Around) (fr : List Env) (s : Shared) (H : Hp) (ar : Args) (us : List Value) (as : List V) (Q : VK) (E : XK), Room k A → Env0 P w K mg base A fr s H → BindsTo s fd ar (ps.zip us) → Vals as us → sp as H Q E → codeAny (model P w) A (.call (.ref f) ar) (CR CX fr P w H s Q E) s
section
variable {P : Program} {w : World} {K : PySem.W.Frag} {mg : Str → Option Value} {base : Heap} {CX : CXT} {j k : Nat} {f : Addr} {fd : FuncData} {ps : List Str} {sp : Sp}
theorem FnOk.mono (G : FnOk P w K mg base CX j f fd ps sp) (h : j ≤ k) : FnOk P w K mg base CX k f fd ps sp := ⟨G.len, fun A fr s H ar us as Q E r => G.run A fr s H ar us as Q E (r.mono h)⟩

/-- a def by its body -/
theorem fn_of {name qual : Str} {pars : Arguments} {body : List Stmt} {sc : Scope} {dV kV doc pm cv ct oc : Value} {an od : Option Addr} {osl : Array (Option Value)} {N : List Str}
    (lk : K.lookup f = some ⟨oc, od, .func (PySem.W.fnOf name qual pars body sc dV kV doc pm an cv ct), osl⟩) (hcd : PySem.W.codeIn K cv qual = true) (Sc : FnScope N ps sc) (len : ∀ as H Q E, sp as H Q E → as.length = ps.length)
    (hb : ∀ (A : Around) (fr : List Env) (s : Shared) (H : Hp) (as : List V) (Q : VK) (E : XK), Room k (A.deeper (PyProof.Rows.envOfC qual sc s.heap.objs.size f cv)) → sp as H Q E →
      ∃ t, PSs (cxOf CX P w K mg base N qual sc f cv A fr s H E) body t ∧ t { nx := fun _ H1 => Q .non H1, rt := Q } (start N as) H) : FnOk P w K mg base CX (k + 1) f (PySem.W.fnOf name qual pars body sc dV kV doc pm an cv ct) ps sp := by
  refine ⟨len, fun A fr s H ar us as Q E r e0 bd rv hsp => ?_⟩
  have inK : K.In s.heap := e0.mod.kin.keeps fun b o e => (e0.bs b o e).1
  have nl : s.heap.NoLimit := e0.mod.nolimit.keeps fun b o e => (e0.bs b o e).1
  have kd : ∀ y ∈ ps.zip us, sc.names.lookup y.1 = some .local ∨ (sc.names.lookup y.1 = some .cell ∧ ((cellsFrom (s.heap.objs.size + 1) sc.names []).lookup y.1).isSome = true) := by
    rintro ⟨n, v⟩ hy
    exact (Sc.par n (List.of_mem_zip hy).1).imp id fun z => ⟨z, PySem.W.cellsFrom_some _ _ _ (.inl z)⟩
  refine codeAny_call_function r.toRoom.depth (inK _ _ lk) rfl Sc.co Sc.gen rfl (PySem.W.codeRec_of inK hcd) (bd _ _ _ _ (wpAny_newFunctionEnv_cells Sc.kind kd fun env he s1 x => ?_))
  cases he
  refine ⟨nl.keeps x.toInCall.keep, codeAny_func ?_⟩
  obtain ⟨t, ht, hq⟩ := hb A fr s H as Q E (r.deeper _) hsp
  have I : Inv (cxOf CX P w K mg base N qual sc f cv A fr s H E) [] (start N as) H s1 := inv_start (E := E) Sc r.hd e0 (len _ _ _ _ hsp) rv x
  refine wpAny_mono (ht.run [] s1 (start N as) H _ I hq) (fun z s2 hs => ?_) fun _ _ z => z
  cases z with
  | brk => exact hs.elim fun _ h => h.elim fun _ h => h.2.elim
  | cont => exact hs.elim fun _ h => h.elim fun _ h => h.2.elim
  | next => exact hs.elim fun _ h => h.elim fun H2 h => ⟨V.non, H2, h.1.os, h.1.bare, h.1.base, h.1.hok, rfl, h.2⟩
  | ret u => exact hs.elim fun v h => h.elim fun _ h => h.elim fun H2 h => ⟨v, H2, h.1.os, h.1.bare, h.1.base, h.1.hok, h.2.1, h.2.2⟩
theorem okX {x qual : Str} {st : Stmt} {N : List Str} (F0 : L2.Fun K x qual st f fd) (Sc : FnScope N ps (defScope st)) (len : ∀ as H Q E, sp as H Q E → as.length = ps.length)
    (hb : ∀ (cv : Value) (A : Around) (fr : List Env) (s : Shared) (H : Hp) (as : List V) (Q : VK) (E : XK), Room k (A.deeper (PyProof.Rows.envOfC qual (defScope st) s.heap.objs.size f cv)) → sp as H Q E →
      ∃ t, PSs (cxOf (L2.CX P w) P w K mg base N qual (defScope st) f cv A fr s H E) (defBody st) t ∧ t { nx := fun _ H1 => Q .non H1, rt := Q } (start N as) H) : FnOk P w K mg base (L2.CX P w) (k + 1) f fd ps sp := by
  obtain ⟨_, _, _, _, _, _, cv, _, _, rfl, lk, hcd⟩ := F0.ex
  exact fn_of lk hcd Sc len (hb cv)
end

section
variable {X : Cx} {CX : CXT} {k : Nat} {f C : Addr} {fd : FuncData} {ps : List Str} {sp : Sp} {dvs : List V} {ds : List Value} {E : XK} {x : Str} {p pos : Pos} {e : Expr} {es : List Expr} {t : TA}
theorem run_fn {pins : List (Addr × Obj)} {σ : L2.St} {H : Hp} {s : Shared} {Q : VK} {us : List Value} {as : List V} (G : FnOk X.prog X.w X.K X.mg X.base CX k f fd ps sp) (r : Room k X.A) (hb : Binds X.K fd ps ds) (hd : Vals dvs ds) (hx : Passes CX X E)
    (I : Inv X pins σ H s) (rv : Vals as us) (h : sp (as ++ dvs) H Q E) : wpAny (model X.prog X.w) X.A (call (.ref f) us) (EP X pins σ Q) X.xe s := by
  have r2 : Vals (as ++ dvs) (us ++ ds) := rv.append hd
  refine wpAny_call (codeAny_mono (G.run X.A X.stack s H ⟨us, []⟩ (us ++ ds) (as ++ dvs) Q E r I.env0 (hb s us I.kIn (r2.length.symm.trans (G.len _ _ _ _ h))) r2 h) fun z s2 q => ?_)
  rcases z with z | z
  · exact hx pins σ H s z s2 I q
  · cases z <;> first | exact I.after q | exact False.elim q
theorem pe_call (G : FnOk X.prog X.w X.K X.mg X.base CX k f fd ps sp) (r : Room k X.A) (hg : Gl X x) (hm : X.mg x = some (.ref f)) (hk : PySem.W.keepIn X.K (.ref f) = true) (hb : Binds X.K fd ps ds) (hd : Vals dvs ds) (hx : Passes CX X E)
    (ha : PA X (e :: es) t) (hdb : (x == ("__debug__" : Str)) = false := by decide) (he : starEach (e :: es) X.env = (false, eval e X.env) :: starEach es X.env := by rfl) (hpl : (backTo pos (starEach es X.env)).any (·.1) = false := by rfl) :
    PE X (.Call (.Name x p) (e :: es) [] pos) (tCall sp dvs E t) := ⟨fun pins s σ H Q I h =>
  wpAny_Call_Name_kw (ld_glob I hg hm (PySem.W.callWith_K (h₀ := X.base) I.ok.mod.kin hk (thn (ha.run pos pins s σ H _ I h) fun _ _ ⟨_, _, I1, rv, q⟩ => ⟨I1.kIn, run_fn G r hb hd hx I1 rv q⟩) he hpl) hdb)⟩
theorem pe_call0 (G : FnOk X.prog X.w X.K X.mg X.base CX k f fd ps sp) (r : Room k X.A) (hg : Gl X x) (hm : X.mg x = some (.ref f)) (hk : PySem.W.keepIn X.K (.ref f) = true) (hb : Binds X.K fd ps ds) (hd : Vals dvs ds) (hx : Passes CX X E)
    (hdb : (x == ("__debug__" : Str)) = false := by decide) : PE X (.Call (.Name x p) [] [] pos) (tCall sp dvs E tNil) := ⟨fun _ _ _ _ _ I h =>
  wpAny_Call_Name_kw (ld_glob I hg hm (PySem.W.callWith_K0 I.kIn hk (run_fn (us := []) G r hb hd hx I .nil h)) hdb)⟩
theorem run_make {pins : List (Addr × Obj)} {σ : L2.St} {H : Hp} {s : Shared} {Q : VK} {us : List Value} {as : List V} (M : Mk X.K C f) (G : FnOk X.prog X.w X.K X.mg X.base CX k f fd ps sp) (r : Room (k + 1) X.A) (hb : Binds X.K fd ps ds) (hd : Vals dvs ds) (hx : Passes CX X E)
    (I : Inv X pins σ H s) (rv : Vals as us) (h : ∀ x dx, H x = none → H dx = none → dx ≠ x → sp (.ref x :: (as ++ dvs)) (upd (upd H dx (.own x)) x (.ins C dx [])) (fun v H2 => v = .non ∧ Q (.ref x) H2) E) :
    wpAny (model X.prog X.w) X.A (call (.ref C) us) (EP X pins σ Q) X.xe s := by
  have q := h (s.heap.objs.size + 1) s.heap.objs.size (I.hok.fresh (Nat.le_succ _)) (I.hok.fresh (Nat.le_refl _)) (Nat.ne_of_lt (Nat.lt_succ_self _))
  have J := Inv.made (C := C) I
  have r2 : Vals (V.ref (s.heap.objs.size + 1) :: (as ++ dvs)) (Value.ref (s.heap.objs.size + 1) :: (us ++ ds)) := .cons rfl (rv.append hd)
  have hl : (Value.ref (s.heap.objs.size + 1) :: us ++ ds).length = ps.length := (r2.length.symm.trans (G.len _ _ _ _ q))
  refine wpAny_call (make_map (f := f) I.kIn M.makes M.init (beq_iff_eq.mp M.fn) (codeAny_mono (G.run _ X.stack _ _ ⟨Value.ref (s.heap.objs.size + 1) :: us, []⟩ (Value.ref (s.heap.objs.size + 1) :: (us ++ ds)) _ _ E (r.make C us [])
    (J.env0.make C us []) (hb _ (Value.ref (s.heap.objs.size + 1) :: us) J.kIn hl) r2 q) fun z s2 hz => ?_))
  rcases z with z | z
  · exact hx pins σ _ _ z s2 J hz
  · cases z with
    | ret u =>
      obtain ⟨_, H2, I3, ru, rfl, q3⟩ := J.after hz
      exact ⟨ru, V.ref (s.heap.objs.size + 1), H2, I3, rfl, q3⟩
    | _ => exact False.elim hz
theorem pe_make (M : Mk X.K C f) (G : FnOk X.prog X.w X.K X.mg X.base CX k f fd ps sp) (r : Room (k + 1) X.A) (hg : Gl X x) (hm : X.mg x = some (.ref C)) (hb : Binds X.K fd ps ds) (hd : Vals dvs ds) (hx : Passes CX X E)
    (ha : PA X (e :: es) t) (hdb : (x == ("__debug__" : Str)) = false := by decide) (he : starEach (e :: es) X.env = (false, eval e X.env) :: starEach es X.env := by rfl) (hpl : (backTo pos (starEach es X.env)).any (·.1) = false := by rfl) :
    PE X (.Call (.Name x p) (e :: es) [] pos) (tMake C sp dvs E t) := ⟨fun pins s σ H Q I h =>
  wpAny_Call_Name_kw (ld_glob I hg hm (PySem.W.callWith_K (h₀ := X.base) I.ok.mod.kin M.kp (thn (ha.run pos pins s σ H _ I h) fun _ _ ⟨_, _, I1, rv, q⟩ => ⟨I1.kIn, run_make M G r hb hd hx I1 rv q⟩) he hpl) hdb)⟩
end

/-! ### the end of a law -/
section
variable {P : Program} {w : World} {K : PySem.W.Frag} {mg mb : Str → Option Value} {CX : CXT} {k : Nat} {fa a : Addr} {cs : List (Addr × Addr)} {fd : FuncData} {x : Str} {sp : Sp}
abbrev TB0 (h : Heap) (cs : List (Addr × Addr)) : Prop := ∀ p ∈ cs, h.get? p.2 = some { cls := .none, data := .fields #[] }
open Classical in
/-- the heap ahead of the law: the tables, and the script where the object does not know it -/
noncomputable def top0 (cs : List (Addr × Addr)) (a : Addr) (u : Option HO) : Hp := fun b => if ∃ p ∈ cs, p.2 = b then some (.tbl #[]) else if b = a then u else none
theorem top0_tb {u : Option HO} : ∀ p ∈ cs, top0 cs a u p.2 = some (.tbl #[]) := fun p hp => if_pos ⟨p, hp, rfl⟩
theorem top0_cases {u : Option HO} (b : Addr) : (∃ p ∈ cs, p.2 = b ∧ top0 cs a u b = some (.tbl #[])) ∨ ((∀ p ∈ cs, p.2 ≠ b) ∧ b = a ∧ top0 cs a u b = u) ∨ ((∀ p ∈ cs, p.2 ≠ b) ∧ b ≠ a ∧ top0 cs a u b = none) := by
  by_cases h : ∃ p ∈ cs, p.2 = b
  · obtain ⟨p, hp, e⟩ := h
    exact .inl ⟨p, hp, e, if_pos ⟨p, hp, e⟩⟩
  · have n : ∀ p ∈ cs, p.2 ≠ b := fun p hp e => h ⟨p, hp, e⟩
    by_cases hb : b = a
    · exact .inr (.inl ⟨n, hb, (if_neg h).trans (if_pos hb)⟩)
    · exact .inr (.inr ⟨n, hb, (if_neg h).trans (if_neg hb)⟩)
theorem law_callG {s : Shared} {vs : List Value} {ns : List Int} (KX : K.In s.heap) (hns : s.heap.Ns mainGlobals mg) (hb : s.heap.Ns builtinsNs mb) (hbb : ∀ x : Str, x ≠ "__name__" → mb x = bootBuiltins x) (hlim : s.heap.NoLimit) (hg : s.gens = #[])
    (hT : TB0 s.heap cs) (nT : ∀ p ∈ cs, K.lookup p.2 = none) (C : ∀ p ∈ cs, PySem.W.CodeHd s.heap p.1 p.2)
    (hbm : ∃ (bm : Addr) (ob : Obj), mg "__builtins__" = some (.ref bm) ∧ bm ≠ builtinsNs ∧ s.heap.get? bm = some ob ∧ ob.cls = .type "module" ∧ ob.dict = some builtinsNs ∧ ob.data = .plain)
    (ha : s.heap.get? a = some { cls := .type "list", data := .seq vs.toArray }) (hi : IntsAre vs ns) (hl : ns.length ≤ sizeLine) (hr : Room k callerA)
    (G : ∀ base : Heap, K.In base → base.Ns mainGlobals mg → (∀ p ∈ cs, LamX.TabB base mg p.1 p.2) → FnOk P w K mg base CX k fa fd [x] sp) (hbind : ∀ (s : Shared) (u : Value), BindsTo s fd ⟨[u], []⟩ [(x, u)])
    (hsp : ∀ H : Hp, (∀ p ∈ cs, H p.2 = some (.tbl #[])) → SqL K H a (ns.map V.int) → sp [.ref a] H (fun v _ => v = .bl true) fun _ _ _ => False) (hCX : ∀ H e s', CX [] H s (fun _ _ _ => False) e s' → False) :
    codeAny (model P w) callerA (.call (.ref fa) ⟨[.ref a], []⟩) (fun r s' => r = .ok (.ret (.bool true)) ∧ OldK s.heap s'.heap ∧ s'.os = s.os ∧ AllBare s'.gens) s := by
  have rv := vals_ints hi
  have aT : ∀ p ∈ cs, p.2 ≠ a := fun p hp e => by
    have z := hT p hp
    rw [e, ha] at z
    exact nomatch (congrArg Obj.data (Option.some.inj z) : Data.seq vs.toArray _ = Data.fields #[])
  -- the script's thing
  obtain ⟨u, hS, hU, hN⟩ : ∃ u : Option HO, SqL K (top0 cs a u) a (ns.map V.int) ∧ (∀ o, u = some o → ∃ ob xs, o = .frz ob (.lst xs) ∧ ObjOk P w (top0 cs a u) s.heap a o) ∧ (u ≠ none → K.lookup a = none) := by
    cases hk : K.lookup a with
    | some o =>
      have e := KX a o hk
      rw [ha] at e
      cases e
      exact ⟨none, .inr ⟨_, vs.toArray, _, hk, rfl, rfl, rfl, by rw [List.size_toArray, hi.length]; exact hl, by simpa using rv⟩, (fun o z => by cases z), fun z => (z rfl).elim⟩
    | none =>
      refine ⟨some (.frz { cls := .type "list", data := .seq vs.toArray } (.lst (ns.map V.int))), .inl (.inr ⟨{ cls := .type "list", data := .seq vs.toArray }, ?_⟩), ?_, fun _ => rfl⟩
      · rcases top0_cases (cs := cs) (a := a) (u := some (.frz { cls := .type "list", data := .seq vs.toArray } (.lst (ns.map V.int)))) a with ⟨p, hp, e, _⟩ | ⟨_, _, e⟩ | ⟨_, n, _⟩
        · exact (aT p hp e).elim
        · exact e
        · exact (n rfl).elim
      · rintro o ⟨⟩
        exact ⟨_, _, rfl, ha, by rw [List.length_map]; exact hl, vs, _, rv, ha⟩
  generalize hH : top0 cs a u = H at *
  have tb : ∀ p ∈ cs, H p.2 = some (.tbl #[]) := by rw [← hH]; exact top0_tb
  have cas := fun b => top0_cases (cs := cs) (a := a) (u := u) b
  rw [hH] at cas
  have hok : HOk P w H s.heap := fun b o z => by
    rcases cas b with ⟨p, hp, rfl, e⟩ | ⟨_, rfl, e⟩ | ⟨_, _, e⟩
    · rw [e] at z; cases z
      exact hT p hp
    · obtain ⟨_, _, _, q⟩ := hU o (e.symm.trans z)
      exact q
    · rw [e] at z; cases z
  have hid : ∀ {b : Addr} {o : Obj}, s.heap.get? b = some o → (∀ vs n, o.data ≠ .seq vs n) → o.data ≠ .fields #[] → (hidT s.heap H).get? b = some o := fun {b o} e h1 h2 => hidT_get e (by
    rcases cas b with ⟨p, hp, rfl, _⟩ | ⟨_, rfl, _⟩ | ⟨_, _, z⟩
    · rw [hT p hp] at e; cases e; exact (h2 rfl).elim
    · rw [ha] at e; cases e; exact (h1 _ _ rfl).elim
    · exact z)
  have hidD : ∀ {b : Addr} {m : Str → Option Value}, s.heap.Ns b m → (hidT s.heap H).Ns b m := fun {b m} ⟨o, es, ep, e, d, r⟩ => ⟨o, es, ep, hid e (by rw [d]; exact fun _ _ z => nomatch z) (by rw [d]; exact fun z => nomatch z), d, r⟩
  have KB : K.In (hidT s.heap H) := fun b o e => hidT_get (KX b o e) (by
    rcases cas b with ⟨p, hp, rfl, _⟩ | ⟨_, rfl, z⟩ | ⟨_, _, z⟩
    · rw [nT p hp] at e; cases e
    · rw [z]
      cases hu : u with
      | none => rfl
      | some o' => rw [hN (by rw [hu]; exact fun z => nomatch z)] at e; cases e
    · exact z)
  have M : L2.Mod K mg (hidT s.heap H) := ⟨KB, hidD hns, ⟨mb, hidD hb, hbb⟩, hlim.elim fun mc h => ⟨mc, hidD h.1, h.2⟩⟩
  have nsNo : ∀ {b : Addr} {m : Str → Option Value}, s.heap.Ns b m → ∀ o, s.heap.get? b = some o → o.data ≠ .plain ∧ o.data ≠ .fields #[] := by
    rintro b m ⟨o, es, ep, e, d, _⟩ o' e'
    rw [e] at e'; cases e'
    rw [d]
    exact ⟨(fun z => nomatch z), (fun z => nomatch z)⟩
  have TB : ∀ p ∈ cs, LamX.TabB (hidT s.heap H) mg p.1 p.2 := fun p hp => by
    refine ⟨?_, ?_, fun z => (nsNo hns _ (z ▸ hT p hp)).2 rfl⟩
    · obtain ⟨o, us, fl, tf, fs, tg, iF, tx, tt, e1, r1, r2, r3, rs⟩ := C p hp
      refine ⟨o, us, fl, tf, fs, tg, iF, tx, tt, hid e1 (fun vs n z => ?_) (fun z => ?_), r1, r2, r3, rs⟩
      · rw [r2] at z; cases z
      · rw [r2] at z; cases z; simp at r3
    · obtain ⟨bm, ob, b1, b2, b3, b4, b5, b6⟩ := hbm
      refine ⟨bm, ob, b1, b2, fun q => (nsNo hns _ (q ▸ b3)).1 b6, fun q => ?_, hid b3 (fun vs n z => ?_) (fun z => ?_), b4, b5, b6⟩
      · rw [q, hT p hp] at b3; cases b3; cases b6
      · rw [b6] at z; cases z
      · rw [b6] at z; cases z
  have e0 : Env0 P w K mg (hidT s.heap H) callerA [] s H := ⟨rfl, M, fun b o e => of_hidT e, Nat.le_of_eq (hidT_size _ _), trivial, fun b z => absurd (show b ∈ ([] : List Addr) from z) (by simp), hok, .of_eq hg⟩
  refine codeAny_mono ((G _ KB (hidD hns) TB).run callerA [] s H ⟨[.ref a], []⟩ [.ref a] [.ref a] _ _ hr e0 (hbind s (.ref a)) (.cons rfl .nil) (hsp H tb hS)) fun r s2 h => ?_
  rcases r with e | z
  · exact (hCX H e s2 h).elim
  cases z with
  | ret v =>
    obtain ⟨v', H2, os, bare, un, hok2, r1, rfl⟩ := h
    obtain rfl : v = Value.bool true := r1
    have key : ∀ b o, (∀ p ∈ cs, p.2 ≠ b) → s.heap.get? b = some o → s2.heap.get? b = some o := fun b o nb e => by
      rcases cas b with ⟨p, hp, z, _⟩ | ⟨_, rfl, z⟩ | ⟨_, _, z⟩
      · exact (nb p hp z).elim
      · cases hu : u with
        | none => exact un.keep b o e (z.trans hu) (fun z => absurd (show b ∈ ([] : List Addr) from z) (by simp)) (by simp)
        | some o' =>
          obtain ⟨ob, xs, rfl, _⟩ := hU o' hu
          have z1 := z.trans hu
          have e1 := (hok b _ z1).1
          rw [e] at e1; cases e1
          exact (hok2 b _ (un.frzs b _ _ z1)).1
      · exact un.keep b o e z (fun z => absurd (show b ∈ ([] : List Addr) from z) (by simp)) (by simp)
    refine ⟨rfl, ⟨fun b o e => ?_, fun b o e => ?_⟩, os, bare⟩
    · by_cases hc : ∃ p ∈ cs, p.2 = b
      · obtain ⟨p, hp, rfl⟩ := hc
        obtain ⟨more, z⟩ := un.tbls p.2 #[] (tb p hp)
        have z := hok2 p.2 _ z
        rw [hT p hp] at e
        cases e
        exact .inr (.inl ⟨((C p hp).tab (hT p hp)).isCodeTable, rfl, #[], more, rfl, z⟩)
      · exact .inl (key b o (fun p hp e => hc ⟨p, hp, e⟩) e)
    · by_cases hc : ∃ p ∈ cs, p.2 = b
      · obtain ⟨p, hp, rfl⟩ := hc
        obtain ⟨more, z⟩ := un.tbls p.2 #[] (tb p hp)
        exact ⟨_, hok2 p.2 _ z⟩
      · exact ⟨o, key b o (fun p hp e => hc ⟨p, hp, e⟩) e⟩
  | _ => exact False.elim h
/-- the law's promise at the head's heap -/
def LawAtG (l : PySem.W.OpenLaw) (w : World) (K : PySem.W.Frag) (CX : CXT) (k n : Nat) (x : Str) (mg : Str → Option Value) (fa : Addr) (h : Heap) : Prop :=
  ∃ (fd : FuncData) (cs : List (Addr × Addr)) (sp : Sp), TB0 h cs ∧ (∀ p ∈ cs, K.lookup p.2 = none) ∧ (∀ p ∈ cs, PySem.W.CodeHd h p.1 p.2) ∧ (∀ (s : Shared) (u : Value), BindsTo s fd ⟨[u], []⟩ [(x, u)]) ∧
    (∀ (H : Hp) (a : Addr) (ns : List Int), ns.length ≤ n → (∀ z ∈ ns, Builtin.Int.intBits z ≤ 1048576) → (∀ p ∈ cs, H p.2 = some (.tbl #[])) → SqL K H a (ns.map V.int) → sp [.ref a] H (fun v _ => v = .bl true) fun _ _ _ => False) ∧
    ∀ base : Heap, K.In base → base.Ns mainGlobals mg → (∀ p ∈ cs, LamX.TabB base mg p.1 p.2) → FnOk l.prog w K mg base CX k fa fd [x] sp
theorem walkG {l : PySem.W.OpenLaw} {n : Nat} {q : Program} {loose : List Str} {XP : (Str → Option Value) → Heap → Prop} {YP : World → Heap → Prop} {d : DefRec} {K : Params → PySem.W.Frag} {CX : World → CXT}
    (hn : l.most = some n) (hz : n ≤ sizeLine) (hdf : d.params.defaults = []) (hr : L2.Room k callerA) (hY : ∀ (w : World) (h : Heap), YP w h → (K w.params).In h)
    (F : ∀ (w : World) (mg : Str → Option Value) (fa : Addr) (h : Heap), YP w h → (K w.params).In h → h.Ns mainGlobals mg → mg d.name = some (.ref fa) → LawAtG l w (K w.params) (CX w) k n x mg fa h)
    (I : ∀ (w : World) (H : Hp) (s : Shared) (e : Value) (s' : Shared), CX w [] H s (fun _ _ _ => False) e s' → False) : PySem.W.WalkO q loose XP YP l.row.toRowW d [] (fun f vs => PySem.call f vs) := by
  refine Att.attach_callB hn hdf fun w s₀ s₁ mg mb fa o pm cd doc a vs ns G Y ho hd hcd hmg hobj hints hlen hbits hg => ?_
  have KX := hY w _ Y
  obtain ⟨fd, cs, sp, hT, nT, C, bd, hsp, hF⟩ := F w mg fa _ Y KX G.T.g hmg
  exact law_callG KX G.T.g G.T.b G.T.builtins G.T.nolimit hg hT nT C G.T.bmain hobj hints (Nat.le_trans hlen hz) (room0 hr) hF bd (fun H hH hS => hsp H a ns hlen hbits hH hS) fun H e s' => I w H s₁ e s'
end
end PL

set_option Elab.async false
set_option linter.all false
set_option maxRecDepth 100000
set_option maxHeartbeats 4000000
/-! PL2: environments; what an expression denotes, and its rules. -/
namespace PL
open PySem L2
variable [TabL]

inductive Sl where
  | no | val (d : D) | own (d : D) | pot | exc (x : Exc) | thk (q : Str) | scr (ns : List Int)
  deriving Inhabited
abbrev SEnv := List Sl

/-- a def's frame: the heap at its entry, what its caller may change, the pot, an instance that it may change, what is wanted of exceptions -/
structure Fr extends Wd where
  H0 : Hp
  S0 : Addr → Prop
  pa : Option Addr
  ca : Addr
  self : Option Addr
  exc : Option (Addr × Addr)
  E : XK

def PotAt (H : Hp) (a ca : Addr) (p : Pot) : Prop := H a = some (.lst [.ref ca, .int p.used, .int p.mix, .int p.great]) ∧ H ca = some (.lst (p.cells.map V.int))
def PotOk (F : Fr) (H : Hp) (p : Pot) : Prop := ∀ a, F.pa = some a → PotAt H a F.ca p
abbrev Ext (F : Fr) (H H' : Hp) : Prop := Kept (fun a => F.pa = some a) H H'
abbrev SameX (F : Fr) (H : Hp) : Prop := Kept (fun a => F.pa = some a ∨ F.self = some a) F.H0 H
/-- an exception's fields behind it -/
def XAt (W : Wd) (S : Addr → Prop) (H : Hp) (dx : Option Addr) (x : Exc) : Prop :=
  (x.ns = [] ∧ x.as = []) ∨ ∃ a fs, dx = some a ∧ H a = some (.xd fs) ∧ fs.map (·.1) = x.ns ∧ Reps W S H x.as (fs.map (·.2))
def Fr.EX (F : Fr) (x : Exc) : Prop := ∀ C dx H', F.mg x.c = some (.ref C) → SameX F H' → (∀ a, F.S0 a → Mut (H' a)) → XAt F.toWd F.S0 H' dx x → F.E (.ref C) dx H'
theorem Ext.refl {F : Fr} {H : Hp} : Ext F H H := Kept.refl
theorem Ext.trans {F : Fr} {H H1 H2 : Hp} (a : Ext F H H1) (b : Ext F H1 H2) : Ext F H H2 := Kept.trans a b
theorem Ext.of {F : Fr} {H H' : Hp} (s : Same H H') : Ext F H H' := s.kept
theorem SameX.ext {F : Fr} {H H' : Hp} (s : SameX F H) (e : Ext F H H') : SameX F H' := Kept.trans s (e.imp fun _ _ _ z => .inl z)
theorem PotOk.same {F : Fr} {H H' : Hp} {p : Pot} (h : PotOk F H p) (s : Same H H') : PotOk F H' p := fun a e => by
  obtain ⟨h1, h2⟩ := h a e
  exact ⟨s.get _ _ h1 id nt_lst, s.get _ _ h2 id nt_lst⟩
theorem upd_Same {H : Hp} {a : Addr} {o : HO} (n : H a = none) : Same H (upd H a o) := Kept.full fun b u e => by
  rw [upd_ne (ne_of_none e n)]
  exact e

/-- the script: a list that nobody writes -/
def ScrAt (K : PySem.W.Frag) (S : Addr → Prop) (H : Hp) (a : Addr) (ns : List Int) : Prop := (∃ o, H a = some (.frz o (.lst (ns.map V.int)))) ∨ (¬ S a ∧ H a = some (.lst (ns.map V.int))) ∨
  ∃ (o : Obj) (its : Array Value) (n : Nat), K.lookup a = some o ∧ o.cls = .type "list" ∧ o.dict = none ∧ o.data = .seq its n ∧ its.size ≤ sizeLine ∧ Vals (ns.map V.int) its.toList
theorem ScrAt.sql {K : PySem.W.Frag} {S : Addr → Prop} {H : Hp} {a : Addr} {ns : List Int} (h : ScrAt K S H a ns) : SqL K H a (ns.map V.int) := by
  rcases h with ⟨o, h⟩ | ⟨_, h⟩ | h
  · exact .inl (.inr ⟨o, h⟩)
  · exact .inl (.inl h)
  · exact .inr h
theorem ScrAt.of {K : PySem.W.Frag} {S : Addr → Prop} {H : Hp} {a : Addr} {ns : List Int} (h : SqL K H a (ns.map V.int)) (hs : ¬ S a) : ScrAt K S H a ns := by
  rcases h with (h | ⟨o, h⟩) | h
  · exact .inr (.inl ⟨hs, h⟩)
  · exact .inl ⟨o, h⟩
  · exact .inr (.inr h)
def SlOk (F : Fr) (S : Addr → Prop) (H : Hp) : Sl → Option V → Prop
  | .no, _ => True
  | .val d, x => ∃ v, x = some v ∧ Rep F.toWd S H d v
  | .own d, x => ∃ a, x = some (.ref a) ∧ S a ∧ F.pa ≠ some a ∧ OwnAt F.toWd S H a d
  | .pot, x => ∃ a, x = some (.ref a) ∧ F.pa = some a
  | .exc e, x => ∃ a d fs, x = some (.ref a) ∧ F.exc = some (a, d) ∧ H d = some (.xd fs) ∧ fs.map (·.1) = e.ns ∧ Reps F.toWd S H e.as (fs.map (·.2))
  | .thk q, x => ∃ a c, x = some (.ref a) ∧ F.exc = some (a, c) ∧ ¬ S c ∧ H c = some (LamX.CodeO c q)
  | .scr ns, x => ∃ a, x = some (.ref a) ∧ ScrAt F.K S H a ns
theorem SlOk.scrGoes {F : Fr} {S S' : Addr → Prop} {H H' : Hp} {ns : List Int} {x : Option V} (g : Goes S S' H H') (h : SlOk F S H (.scr ns) x) : SlOk F S' H' (.scr ns) x := by
  obtain ⟨a, e1, e2⟩ := h
  refine ⟨a, e1, ?_⟩
  rcases e2 with ⟨o, e2⟩ | ⟨n, e2⟩ | e2
  · exact .inl ⟨o, g.keep _ _ e2 (fun s => by have := g.mt a s; rw [e2] at this; exact this) nt_frz⟩
  · exact .inr (.inl ⟨g.nS e2 n, g.keep _ _ e2 n nt_lst⟩)
  · exact .inr (.inr e2)
theorem SlOk.thkGoes {F : Fr} {S S' : Addr → Prop} {H H' : Hp} {q : Str} {x : Option V} (g : Goes S S' H H') (h : SlOk F S H (.thk q) x) : SlOk F S' H' (.thk q) x := by
  obtain ⟨a, c, e1, e2, e3, e4⟩ := h
  exact ⟨a, c, e1, e2, g.nS e4 e3, g.keep _ _ e4 e3 (by unfold LamX.CodeO; exact nt_ext)⟩
theorem SlOk.excGoes {F : Fr} {S S' : Addr → Prop} {H H' : Hp} {e : Exc} {x : Option V} (g : Goes S S' H H') (h : SlOk F S H (.exc e) x) : SlOk F S' H' (.exc e) x := by
  obtain ⟨a, d, fs, e1, e2, e3, e4, r⟩ := h
  exact ⟨a, d, fs, e1, e2, g.keep _ _ e3 (fun s => by have := g.mt d s; rw [e3] at this; exact this) nt_xd, e4, Reps.goes g _ _ r⟩
def EnvE (F : Fr) (S : Addr → Prop) (Γ : SEnv) (σ : St) (H : Hp) : Prop := ∀ (i : Nat) (s : Sl), Γ[i]? = some s → ∃ x, σ[i]? = some x ∧ SlOk F S H s x

structure ES (F : Fr) (S : Addr → Prop) (Γ : SEnv) (p : Pot) (σ : St) (H : Hp) : Prop where
  env : EnvE F S Γ σ H
  pot : PotOk F H p
  mt : ∀ a, S a → Mut (H a)
  pa : ∀ a, F.pa = some a → S a
  s0 : ∀ a, F.S0 a → S a
  same : SameX F H

section
variable {F : Fr} {S S' : Addr → Prop} {Γ : SEnv} {p p' : Pot} {σ : St} {H H' H1 : Hp}
theorem Ext.goes (e : Ext F H H') (mt : ∀ a, S a → Mut (H a)) (pa : ∀ a, F.pa = some a → S a) : Goes S S H H' :=
  ⟨fun a o h n nt => e.get a o h (fun q => n (pa a q)) nt, fun _ h => .inl h, mt⟩
theorem Same.goes (e : Same H H') (mt : ∀ a, S a → Mut (H a)) : Goes S S H H' := ⟨fun a o h _ nt => e.get a o h id nt, fun _ h => .inl h, mt⟩
theorem mut_nt {o : HO} (m : Mut (some o)) : NT o := fun ps e => by rw [e] at m; exact m
theorem Ext.mt (e : Ext F H H') (mt : ∀ a, S a → Mut (H a)) (q : PotOk F H' p') : ∀ a, S a → Mut (H' a) := fun a s => by
  by_cases h : F.pa = some a
  · obtain ⟨h1, _⟩ := q a h
    rw [h1]; trivial
  · have m := mt a s
    cases g : H a with
    | none => rw [g] at m; exact m.elim
    | some o => rw [g] at m; rw [e.get a o g h (mut_nt m)]; exact m
theorem SlOk.ext {s : Sl} {x : Option V} (h : SlOk F S H s x) (e : Ext F H H') (mt : ∀ a, S a → Mut (H a)) (pa : ∀ a, F.pa = some a → S a) : SlOk F S H' s x := by
  have g := e.goes mt pa
  cases s with
  | no => trivial
  | val d => obtain ⟨v, e1, r⟩ := h; exact ⟨v, e1, Rep.goes g _ _ r⟩
  | own d => obtain ⟨a, e1, s1, np, r⟩ := h; exact ⟨a, e1, s1, np, r.goes g fun o q nt => e.get a o q np nt⟩
  | pot => exact h
  | exc x => exact SlOk.excGoes g h
  | thk q => exact SlOk.thkGoes g h
  | scr ns => exact SlOk.scrGoes g h
theorem ES.ext (h : ES F S Γ p σ H) (e : Ext F H H') (q : PotOk F H' p') : ES F S Γ p' σ H' :=
  ⟨fun i s g => let ⟨x, e1, r⟩ := h.env i s g; ⟨x, e1, r.ext e h.mt h.pa⟩, q, e.mt h.mt q, h.pa, h.s0, h.same.ext e⟩
end

/-! ### results: R S H H' d v (H: at the start, H': at the end) -/
abbrev RR := (F : Fr) → (S : Addr → Prop) → (H H' : Hp) → D → V → Prop
/-- a value -/
def RV : RR := fun F S _ H' d v => Rep F.toWd S H' d v
/-- a value to be looked at, or a container of our own -/
def RepT (F : Fr) (S : Addr → Prop) (H : Hp) (d : D) (v : V) : Prop := Rep F.toWd S H d v ∨ ∃ a, v = .ref a ∧ F.pa ≠ some a ∧ OwnAt F.toWd S H a d
def RB : RR := fun F S _ H' d v => RepT F S H' d v
/-- a new container -/
def RN : RR := fun F S H H' d v => ∃ a, v = .ref a ∧ H a = none ∧ OwnAt F.toWd (fun b => S b ∨ b = a) H' a d

def OutOk {α : Type} (F : Fr) (x : Out (α × Pot)) (k : α → Pot → Prop) : Prop := match x with
  | .ok (a, p) => k a p
  | .exc x => F.EX x
  | .bad => False
def tX (R : RR) (F : Fr) (f : SEnv → M D) : TE := fun σ H Q => ∃ S Γ p, ES F S Γ p σ H ∧ OutOk F (f Γ p) fun d p' => ∀ v H', Ext F H H' → PotOk F H' p' → R F S H H' d v → Q v H'
abbrev EXP (R : RR) (X : Cx) (F : Fr) (e : Expr) (f : SEnv → M D) : Prop := PE X e (tX R F f)
abbrev EV (X : Cx) (F : Fr) (e : Expr) (f : SEnv → M D) : Prop := EXP RV X F e f
abbrev EVB (X : Cx) (F : Fr) (e : Expr) (f : SEnv → M D) : Prop := EXP RB X F e f
abbrev EVN (X : Cx) (F : Fr) (e : Expr) (f : SEnv → M D) : Prop := EXP RN X F e f

theorem PE.weak {X : Cx} {e : Expr} {t t' : TE} (h : PE X e t) (hw : ∀ σ H Q, t' σ H Q → t σ H Q) : PE X e t' := ⟨fun pins s σ H Q I q => h.run pins s σ H Q I (hw σ H Q q)⟩
theorem OutOk.imp {α : Type} {F : Fr} {x : Out (α × Pot)} {k k' : α → Pot → Prop} (h : OutOk F x k) (i : ∀ a p, k a p → k' a p) : OutOk F x k' := by
  cases x with
  | ok y => exact i _ _ h
  | exc x => exact h
  | bad => exact h
theorem OutOk.bind {α β : Type} {F : Fr} {m : M α} {f : α → M β} {p : Pot} {k : β → Pot → Prop} : OutOk F ((m >>= f) p) k ↔ OutOk F (m p) fun a q => OutOk F (f a q) k := by
  show OutOk F (M.bind m f p) k ↔ _
  unfold M.bind
  cases h : m p with
  | ok y => rfl
  | exc x => rfl
  | bad => rfl
theorem RV.b {F : Fr} {S : Addr → Prop} {H H' : Hp} {d : D} {v : V} (h : RV F S H H' d v) : RB F S H H' d v := .inl h
theorem RN.v {F : Fr} {S : Addr → Prop} {H H' : Hp} {d : D} {v : V} (mt : ∀ a, S a → Mut (H a)) (h : RN F S H H' d v) (mt' : ∀ a, S a → Mut (H' a)) : RV F S H H' d v := by
  obtain ⟨a, rfl, n, o⟩ := h
  have ns : ¬ S a := fun s => by have := mt a s; rw [n] at this; exact this
  have o2 : OwnAt F.toWd S H' a d := o.goes (S' := S) (H' := H') ⟨fun _ _ h _ _ => h, fun b s => .inl (.inl s), fun b s => by
    rcases s with s | rfl
    · exact mt' b s
    · exact o.there⟩ fun _ h _ => h
  exact o2.rep ns
section
variable {X : Cx} {F : Fr} {e : Expr} {f : SEnv → M D}
theorem EV.b (h : EV X F e f) : EVB X F e f := PE.weak h fun σ H Q q => by
  obtain ⟨S, Γ, p, es, o⟩ := q
  exact ⟨S, Γ, p, es, o.imp fun d p' k v H' e1 e2 r => k v H' e1 e2 r.b⟩
theorem EVN.v (h : EVN X F e f) : EV X F e f := PE.weak h fun σ H Q q => by
  obtain ⟨S, Γ, p, es, o⟩ := q
  exact ⟨S, Γ, p, es, o.imp fun d p' k v H' e1 e2 r => k v H' e1 e2 (r.v es.mt (es.ext e1 e2).mt)⟩
end

/-- the context fits the frame -/
structure On (X : Cx) (F : Fr) (k : Nat) : Prop where
  P : X.prog = F.P
  w : X.w = F.w
  K : X.K = F.K
  mg : X.mg = F.mg
  room : Room k X.A
  nd : X.N.Nodup
  calm : X.calm = true
  tk : Takes X (fun cls d _ H => F.E cls d H)

/-! ### names, constants -/
def ofOpt {α : Type} (x : Option α) : M α := fun p => match x with
  | some a => .ok (a, p)
  | none => .bad
def valOf : Option Sl → Option D
  | some (.val d) => some d
  | _ => none
def anyOf : Option Sl → Option D
  | some (.val d) => some d
  | some (.own d) => some d
  | _ => none
def eVar (i : Nat) : SEnv → M D := fun Γ => ofOpt (valOf Γ[i]?)
def eVarB (i : Nat) : SEnv → M D := fun Γ => ofOpt (anyOf Γ[i]?)
def eC (d : D) : SEnv → M D := fun _ => pure d
theorem out_opt {α : Type} {F : Fr} {x : Option α} {p : Pot} {k : α → Pot → Prop} : OutOk F (ofOpt x p) k ↔ ∃ a, x = some a ∧ k a p := by
  cases x with
  | none => exact ⟨fun h => h.elim, fun ⟨_, e, _⟩ => nomatch e⟩
  | some a => exact ⟨fun h => ⟨a, rfl, h⟩, fun ⟨_, e, h⟩ => by cases e; exact h⟩
theorem valOf_some {s : Option Sl} {d : D} (h : valOf s = some d) : s = some (.val d) := by
  cases s with
  | none => cases h
  | some s => cases s with
    | val d' => cases h; rfl
    | _ => cases h
theorem anyOf_some {s : Option Sl} {d : D} (h : anyOf s = some d) : s = some (.val d) ∨ s = some (.own d) := by
  cases s with
  | none => cases h
  | some s => cases s with
    | val d' => cases h; exact .inl rfl
    | own d' => cases h; exact .inr rfl
    | _ => cases h
section
variable {X : Cx} {F : Fr} {e : Expr} {f fa fb : SEnv → M D} {pos : Pos}
theorem ev_var (i : Nat) {x : Str} {pos : Pos} (hN : X.N[i]? = some x := by rfl) (hv : Vis X.env.scope x := by first | exact Or.inl rfl | exact Or.inr (Or.inl rfl) | exact Or.inr (Or.inr rfl)) (hd : (x == ("__debug__" : Str)) = false := by decide)
    (hcd : (x == ("__classdict__" : Str)) = false := by decide) : EV X F (.Name x pos) (eVar i) := PE.weak (pe_var hN hv hd hcd) fun σ H Q q => by
  obtain ⟨S, Γ, p, es, o⟩ := q
  obtain ⟨d, e1, k⟩ := out_opt.mp o
  obtain ⟨x, e2, v, rfl, r⟩ := es.env i _ (valOf_some e1)
  exact ⟨v, e2, k v H .refl es.pot r⟩
theorem ev_varB (i : Nat) {x : Str} {pos : Pos} (hN : X.N[i]? = some x := by rfl) (hv : Vis X.env.scope x := by first | exact Or.inl rfl | exact Or.inr (Or.inl rfl) | exact Or.inr (Or.inr rfl)) (hd : (x == ("__debug__" : Str)) = false := by decide)
    (hcd : (x == ("__classdict__" : Str)) = false := by decide) : EVB X F (.Name x pos) (eVarB i) := PE.weak (pe_var hN hv hd hcd) fun σ H Q q => by
  obtain ⟨S, Γ, p, es, o⟩ := q
  obtain ⟨d, e1, k⟩ := out_opt.mp o
  rcases anyOf_some e1 with e1 | e1
  · obtain ⟨x, e2, v, rfl, r⟩ := es.env i _ e1
    exact ⟨v, e2, k v H .refl es.pot (.inl r)⟩
  · obtain ⟨x, e2, a, rfl, s, np, r⟩ := es.env i _ e1
    exact ⟨.ref a, e2, k _ H .refl es.pot (.inr ⟨a, rfl, np, r⟩)⟩
theorem ev_c {d : D} {v : V} (h : PE X e (tC v)) (hd : ∀ W S H, Rep W S H d v) : EV X F e (eC d) := PE.weak h fun σ H Q q => by
  obtain ⟨S, Γ, p, es, o⟩ := q
  exact o v H .refl es.pot (hd _ _ _)
theorem ev_int {i j pos} : EV X F (.Constant (.int i) j pos) (eC (.int i)) := ev_c pe_int fun _ _ _ => by unfold Rep; rfl
theorem ev_bl {i j pos} : EV X F (.Constant (.bool i) j pos) (eC (.bl i)) := ev_c pe_bl fun _ _ _ => by unfold Rep; rfl
theorem ev_str {i j pos} : EV X F (.Constant (.str i) j pos) (eC (.str i)) := ev_c pe_str fun _ _ _ => by unfold Rep; rfl
theorem ev_non {j pos} : EV X F (.Constant .none j pos) (eC .non) := ev_c pe_non fun _ _ _ => by unfold Rep; rfl
/-- a constant of the module -/
theorem ev_glob {x : Str} {d : D} {v : V} {u : Value} {pos : Pos} {k : Nat} (o : On X F k) (hg : Gl X x) (hm : F.mg x = some u) (r : RelV v u) (hd : ∀ W S H, Rep W S H d v) (hb : (x == ("__debug__" : Str)) = false := by decide) : EV X F (.Name x pos) (eC d) :=
  ev_c (pe_glob hg (by rw [o.mg]; exact hm) r hb) hd

/-! ### operators -/
def eOp (g : D → D → Option D) (fa fb : SEnv → M D) : SEnv → M D := fun Γ => do let a ← fa Γ; let b ← fb Γ; ofOpt (g a b)
def OpD (F : Fr) (r : R2) (g : D → D → Option D) (R : RR) : Prop := ∀ (S : Addr → Prop) (H0 H : Hp) (d1 d2 d : D) (v1 v2 : V) (Q : VK), (∀ a, S a → Mut (H a)) → Ext F H0 H → (∀ a, H a = none → H0 a = none) → RepT F S H d1 v1 → RepT F S H d2 v2 → g d1 d2 = some d →
  (∀ v H', Same H H' → R F S H0 H' d v → Q v H') → r v1 v2 H Q
theorem ES.sub {S : Addr → Prop} {Γ : SEnv} {p p' : Pot} {σ : St} {H H' : Hp} (es : ES F S Γ p σ H) (e : Ext F H H') (q : PotOk F H' p') : ∀ a, H' a = none → H a = none := fun a n =>
  e.none (fun h => by
    obtain ⟨h1, _⟩ := q a h
    rw [h1]; exact fun z => nomatch z) n
theorem RepT.ext {S : Addr → Prop} {Γ : SEnv} {p : Pot} {σ : St} {H H' : Hp} {d : D} {v : V} (es : ES F S Γ p σ H) (e : Ext F H H') (h : RepT F S H d v) : RepT F S H' d v := by
  have g := e.goes es.mt es.pa
  rcases h with h | ⟨a, rfl, np, o⟩
  · exact .inl (Rep.goes g _ _ h)
  · exact .inr ⟨a, rfl, np, o.goes g fun _ q nt => e.get _ _ q np nt⟩
theorem tX_op {r : R2} {g : D → D → Option D} {R : RR} (hd : OpD F r g R) {σ : St} {H : Hp} {Q : VK} (q : tX R F (eOp g fa fb) σ H Q) : tOp r (tX RB F fa) (tX RB F fb) σ H Q := by
  obtain ⟨S, Γ, p, es, o⟩ := q
  refine ⟨S, Γ, p, es, (OutOk.bind.mp o).imp fun d1 p1 o v1 H1 e1 q1 r1 => ?_⟩
  refine ⟨S, Γ, p1, es.ext e1 q1, (OutOk.bind.mp o).imp fun d2 p2 o v2 H2 e2 q2 r2 => ?_⟩
  obtain ⟨d, e, k⟩ := out_opt.mp o
  have es1 := es.ext e1 q1
  have es2 := es1.ext e2 q2
  exact hd S H H2 d1 d2 d v1 v2 Q es2.mt (e1.trans e2) (es.sub (e1.trans e2) q2) (r1.ext es1 e2) r2 e fun v H3 s r => k v H3 ((e1.trans e2).trans (.of s)) (q2.same s) r
theorem ev_op {op : Operator} {r : R2} {g : D → D → Option D} {R : RR} {a b : Expr} (ho : OpR X (binaryOp op) r) (hd : OpD F r g R) (ha : EVB X F a fa) (hb : EVB X F b fb) : EXP R X F (.BinOp a op b pos) (eOp g fa fb) :=
  PE.weak (pe_op ho ha hb) fun _ _ _ q => tX_op hd q
theorem ev_cmp {op : CmpOp} {r : R2} {g : D → D → Option D} {R : RR} {a b : Expr} (ho : OpR X (compareOp op) r) (hd : OpD F r g R) (ha : EVB X F a fa) (hb : EVB X F b fb) (hm : behindInMarks op b = false) : EXP R X F (.Compare a [op] [b] pos) (eOp g fa fb) :=
  PE.weak (pe_cmpR ho ha hb hm) fun _ _ _ q => tX_op hd q
end

/-! ### what a looked-at value is -/
section
variable {F : Fr} {S : Addr → Prop} {H : Hp} {v : V}
theorem RepT.int {i : Int} (h : RepT F S H (.int i) v) : v = .int i := by
  rcases h with h | ⟨_, _, _, h⟩
  · unfold Rep at h; exact h
  · exact h.elim
theorem RepT.str {i : Str} (h : RepT F S H (.str i) v) : v = .str i := by
  rcases h with h | ⟨_, _, _, h⟩
  · unfold Rep at h; exact h
  · exact h.elim
theorem RepT.bl {i : Bool} (h : RepT F S H (.bl i) v) : v = .bl i := by
  rcases h with h | ⟨_, _, _, h⟩
  · unfold Rep at h; exact h
  · exact h.elim
theorem RepT.non (h : RepT F S H .non v) : v = .non := by
  rcases h with h | ⟨_, _, _, h⟩
  · unfold Rep at h; exact h
  · exact h.elim
theorem RepT.tup {l : List D} (h : RepT F S H (.tup l) v) : ∃ a vs, v = .ref a ∧ SqT F.K H a vs ∧ Reps F.toWd S H l vs := by
  rcases h with h | ⟨_, _, _, h⟩
  · unfold Rep at h; exact h
  · exact h.elim
theorem RepT.lst {l : List D} (h : RepT F S H (.lst l) v) : ∃ a vs, v = .ref a ∧ H a = some (.lst vs) ∧ Reps F.toWd S H l vs := by
  rcases h with h | ⟨a, rfl, _, h⟩
  · unfold Rep at h; obtain ⟨a, e, _, vs, h1, h2⟩ := h; exact ⟨a, vs, e, h1, h2⟩
  · obtain ⟨vs, h1, h2⟩ := h; exact ⟨a, vs, rfl, h1, h2⟩
theorem RepT.fn {x : Str} (h : RepT F S H (.fn x) v) : ∃ a, v = .ref a ∧ F.mg x = some (.ref a) := by
  rcases h with h | ⟨_, _, _, h⟩
  · unfold Rep at h; exact h
  · exact h.elim
theorem RepT.ins {c : Str} {ns : List Str} {ds : List D} (h : RepT F S H (.ins c ns ds) v) : ∃ a C dx fs, v = .ref a ∧ F.mg c = some (.ref C) ∧ H a = some (.ins C dx fs) ∧ fs.map (·.1) = ns ∧ Reps F.toWd S H ds (fs.map (·.2)) := by
  rcases h with h | ⟨a, rfl, _, h⟩
  · unfold Rep at h; obtain ⟨a, e, _, C, dx, fs, h1, h2⟩ := h; exact ⟨a, C, dx, fs, e, h1, h2⟩
  · obtain ⟨C, dx, fs, h1, h2⟩ := h; exact ⟨a, C, dx, fs, rfl, h1, h2⟩
end
end PL

set_option Elab.async false
set_option linter.all false
set_option maxRecDepth 100000
set_option maxHeartbeats 4000000
/-! PL3: the rules of operators, tests, displays, subscripts, built-in calls. -/
namespace PL
open PySem L2
variable [TabL]

section
variable {F : Fr} {S : Addr → Prop} {H H' H0 : Hp}
theorem rep_i {W : Wd} {i : Int} : Rep W S H (.int i) (.int i) := by unfold Rep; rfl
theorem rep_b {W : Wd} {i : Bool} : Rep W S H (.bl i) (.bl i) := by unfold Rep; rfl
theorem rep_s {W : Wd} {i : Str} : Rep W S H (.str i) (.str i) := by unfold Rep; rfl
theorem rep_n {W : Wd} : Rep W S H .non .non := by unfold Rep; rfl
theorem goes_new {a : Addr} {o : HO} (mt : ∀ a, S a → Mut (H a)) (n : H a = none) : Goes S (fun b => S b ∨ b = a) H (upd H a o) :=
  ⟨fun b u e _ nt => (upd_Same n).get b u e id nt, fun b s => s.elim .inl fun e => .inr (e ▸ n), mt⟩
theorem goes_new0 {a : Addr} {o : HO} (mt : ∀ a, S a → Mut (H a)) (n : H a = none) : Goes S S H (upd H a o) :=
  ⟨fun b u e _ nt => (upd_Same n).get b u e id nt, fun b s => .inl s, mt⟩
/-- a new tuple -/
theorem new_tup {W : Wd} {l : List D} {vs : List V} {a : Addr} (mt : ∀ a, S a → Mut (H a)) (r : Reps W S H l vs) (n : H a = none) : Rep W S (upd H a (.tup vs)) (.tup l) (.ref a) := by
  unfold Rep
  exact ⟨a, vs, rfl, SqT.of upd_same, Reps.goes (goes_new0 mt n) _ _ r⟩
/-- a new list -/
theorem new_lst {l : List D} {vs : List V} {a : Addr} (mt : ∀ a, S a → Mut (H a)) (hn : ∀ a, H a = none → H0 a = none) (r : Reps F.toWd S H l vs) (n : H a = none) : RN F S H0 (upd H a (.lst vs)) (.lst l) (.ref a) :=
  ⟨a, rfl, hn a n, vs, upd_same, Reps.goes (goes_new mt n) _ _ r⟩
end

/-! ### operators -/
def addD : D → D → Option D
  | .int a, .int b => some (.int (a + b))
  | .str a, .str b => if a.length + b.length ≤ sizeLine then some (.str (a ++ b)) else none
  | .tup a, .tup b => if a.length + b.length ≤ sizeLine then some (.tup (a ++ b)) else none
  | _, _ => none
def addL : D → D → Option D
  | .lst a, .lst b => if a.length + b.length ≤ sizeLine then some (.lst (a ++ b)) else none
  | _, _ => none
def subD : D → D → Option D
  | .int a, .int b => some (.int (a - b))
  | _, _ => none
def mulD : D → D → Option D
  | .int a, .int b => if -(2 ^ 64) < b ∧ b < 2 ^ 64 then some (.int (a * b)) else if -(2 ^ 64) < a ∧ a < 2 ^ 64 then some (.int (a * b)) else none
  | _, _ => none
def fdivD : D → D → Option D
  | .int a, .int b => if 0 < b ∧ b < 1073741824 then some (.int (a / b)) else none
  | _, _ => none
def modD : D → D → Option D
  | .int a, .int b => if 0 < b then some (.int (a % b)) else none
  | _, _ => none
def powD : D → D → Option D
  | .int a, .int b => if 0 ≤ b ∧ b ≤ 1000000 ∧ a.natAbs < 2 ^ 64 then some (.int (a ^ b.toNat)) else none
  | _, _ => none
def mulL : D → D → Option D
  | .lst l, .int k => if -(2 ^ 63) ≤ k ∧ k < 2 ^ 63 ∧ l.length * k.toNat ≤ sizeLine then some (.lst (List.replicate k.toNat l).flatten) else none
  | _, _ => none
def cmpI (q : Int → Int → Bool) : D → D → Option D
  | .int a, .int b => some (.bl (q a b))
  | _, _ => none
def ltD := cmpI fun a b => decide (a < b)
def leD := cmpI fun a b => decide (a ≤ b)
def gtD := cmpI fun a b => decide (b < a)
def geD := cmpI fun a b => decide (b ≤ a)
def isNonB : D → Bool
  | .non => true
  | _ => false
def isND : D → D → Option D
  | a, .non => some (.bl (isNonB a))
  | _, _ => none
def notND : D → D → Option D
  | a, .non => some (.bl (!isNonB a))
  | _, _ => none
/-- is, is not of truth values -/
def isBD : D → D → Option D
  | .bl a, .bl b => some (.bl (decide (a = b)))
  | _, _ => none
def notBD : D → D → Option D
  | .bl a, .bl b => some (.bl (!decide (a = b)))
  | _, _ => none

section
variable {X : Cx} {F : Fr} {k : Nat}
theorem opd_int {g : D → D → Option D} {r : R2} (q : Int → Int → Option D) (h1 : ∀ a b, g (.int a) (.int b) = q a b) (h2 : ∀ x y d, g x y = some d → ∃ a b, x = .int a ∧ y = .int b)
    (hr : ∀ a b d H Q, q a b = some d → (∀ v, (∀ W S H, Rep W S H d v) → Q v H) → r (.int a) (.int b) H Q) : OpD F r g RV := by
  intro S H0 H d1 d2 d v1 v2 Q mt hk hn r1 r2 e kk
  obtain ⟨a, b, rfl, rfl⟩ := h2 _ _ _ e
  rw [r1.int, r2.int]
  rw [h1] at e
  exact hr a b d H Q e fun v hv => kk v H (Same.refl _) (hv _ _ _)
theorem opd_cmp (q : Int → Int → Bool) : OpD F (rI0 fun i j => .bl (q i j)) (cmpI q) RV :=
  opd_int (fun a b => some (.bl (q a b))) (fun _ _ => rfl) (fun x y d e => by
    cases x <;> cases y <;> first | exact ⟨_, _, rfl, rfl⟩ | cases e) fun a b d H Q e h => ⟨a, b, rfl, rfl, by cases e; exact h _ fun _ _ _ => rep_b⟩
theorem ite_sm {α : Type} {c : Prop} [Decidable c] {x d : α} (h : (if c then some x else none) = some d) : c ∧ x = d := by
  split at h
  · exact ⟨by assumption, Option.some.inj h⟩
  · cases h
theorem opd_add : OpD F (fun x y H Q => rI0 (fun i j => .int (i + j)) x y H Q ∨ (∃ i j, x = .str i ∧ y = .str j ∧ i.length + j.length ≤ sizeLine ∧ Q (.str (i ++ j)) H) ∨ rCatA F.K x y H Q) addD RV := by
  intro S H0 H d1 d2 d v1 v2 Q mt hk hn r1 r2 e kk
  cases d1 <;> cases d2 <;> try cases e
  · rename_i a b
    rw [r1.int, r2.int]
    exact .inl ⟨a, b, rfl, rfl, kk _ H (Same.refl _) rep_i⟩
  · rename_i a b
    rw [r1.str, r2.str]
    obtain ⟨hl, rfl⟩ := ite_sm (show (if a.length + b.length ≤ sizeLine then some (D.str (a ++ b)) else none) = some d from e)
    exact .inr (.inl ⟨a, b, rfl, rfl, hl, kk _ H (Same.refl _) rep_s⟩)
  · rename_i a b
    obtain ⟨p, vs, rfl, q, rs⟩ := r1.tup
    obtain ⟨p', vs', rfl, q', rs'⟩ := r2.tup
    obtain ⟨hl, rfl⟩ := ite_sm (show (if a.length + b.length ≤ sizeLine then some (D.tup (a ++ b)) else none) = some d from e)
    refine .inr (.inr ⟨p, p', vs, vs', rfl, rfl, q, q', by rw [← rs.length, ← rs'.length]; exact hl, ?_, ?_, ?_⟩)
    · intro e0; subst e0
      have : a = [] := List.eq_nil_of_length_eq_zero (by rw [rs.length]; rfl)
      subst this
      refine kk _ H (Same.refl _) ?_
      show Rep _ _ _ (.tup ([] ++ b)) _
      unfold Rep; exact ⟨p', vs', rfl, q', rs'⟩
    · intro e0 e1; subst e1
      have : b = [] := List.eq_nil_of_length_eq_zero (by rw [rs'.length]; rfl)
      subst this
      refine kk _ H (Same.refl _) ?_
      show Rep _ _ _ (.tup (a ++ [])) _
      rw [List.append_nil]
      unfold Rep; exact ⟨p, vs, rfl, q, rs⟩
    · intro _ _ w hw
      exact kk _ _ (upd_Same hw) (new_tup mt (rs.append rs') hw)
theorem opd_addL : OpD F rCat addL RN := by
  intro S H0 H d1 d2 d v1 v2 Q mt hk hn r1 r2 e kk
  cases d1 <;> cases d2 <;> try cases e
  rename_i a b
  obtain ⟨p, vs, rfl, q, rs⟩ := r1.lst
  obtain ⟨p', vs', rfl, q', rs'⟩ := r2.lst
  obtain ⟨hl, rfl⟩ := ite_sm (show (if a.length + b.length ≤ sizeLine then some (D.lst (a ++ b)) else none) = some d from e)
  exact ⟨p, p', vs, vs', rfl, rfl, q, q', by rw [← rs.length, ← rs'.length]; exact hl, fun w hw => kk _ _ (upd_Same hw) (new_lst mt hn (rs.append rs') hw)⟩
theorem opd_sub : OpD F (rI0 fun i j => .int (i - j)) subD RV :=
  opd_int (fun a b => some (.int (a - b))) (fun _ _ => rfl) (fun x y d e => by
    cases x <;> cases y <;> first | exact ⟨_, _, rfl, rfl⟩ | cases e) fun a b d H Q e h => ⟨a, b, rfl, rfl, by cases e; exact h _ fun _ _ _ => rep_i⟩
theorem opd_mul : OpD F (rI CMul fun i j => .int (i * j)) mulD RV :=
  opd_int (fun a b => if -(2 ^ 64) < b ∧ b < 2 ^ 64 then some (.int (a * b)) else if -(2 ^ 64) < a ∧ a < 2 ^ 64 then some (.int (a * b)) else none) (fun _ _ => rfl) (fun x y d e => by
    cases x <;> cases y <;> first | exact ⟨_, _, rfl, rfl⟩ | cases e) fun a b d H Q e h => by
      split at e
      · cases e; exact ⟨a, b, rfl, rfl, .inr (by assumption), h _ fun _ _ _ => rep_i⟩
      · split at e
        · cases e; exact ⟨a, b, rfl, rfl, .inl (by assumption), h _ fun _ _ _ => rep_i⟩
        · cases e
theorem opd_fdiv : OpD F (rI CDiv fun i j => .int (i / j)) fdivD RV :=
  opd_int (fun a b => if 0 < b ∧ b < 1073741824 then some (.int (a / b)) else none) (fun _ _ => rfl) (fun x y d e => by
    cases x <;> cases y <;> first | exact ⟨_, _, rfl, rfl⟩ | cases e) fun a b d H Q e h => by
      obtain ⟨hl, rfl⟩ := ite_sm e
      exact ⟨a, b, rfl, rfl, hl, h _ fun _ _ _ => rep_i⟩
theorem opd_mod : OpD F (rI (fun _ j => 0 < j) fun i j => .int (i % j)) modD RV :=
  opd_int (fun a b => if 0 < b then some (.int (a % b)) else none) (fun _ _ => rfl) (fun x y d e => by
    cases x <;> cases y <;> first | exact ⟨_, _, rfl, rfl⟩ | cases e) fun a b d H Q e h => by
      obtain ⟨hl, rfl⟩ := ite_sm e
      exact ⟨a, b, rfl, rfl, hl, h _ fun _ _ _ => rep_i⟩
theorem opd_pow : OpD F (rI CPow fun i j => .int (i ^ j.toNat)) powD RV :=
  opd_int (fun a b => if 0 ≤ b ∧ b ≤ 1000000 ∧ a.natAbs < 2 ^ 64 then some (.int (a ^ b.toNat)) else none) (fun _ _ => rfl) (fun x y d e => by
    cases x <;> cases y <;> first | exact ⟨_, _, rfl, rfl⟩ | cases e) fun a b d H Q e h => by
      obtain ⟨hl, rfl⟩ := ite_sm e
      exact ⟨a, b, rfl, rfl, hl, h _ fun _ _ _ => rep_i⟩
theorem reps_rep {W : Wd} {S : Addr → Prop} {H : Hp} {l : List D} {vs : List V} (r : Reps W S H l vs) : ∀ n : Nat, Reps W S H (List.replicate n l).flatten (List.replicate n vs).flatten
  | 0 => .nil
  | n + 1 => by
    rw [List.replicate_succ, List.replicate_succ, List.flatten_cons, List.flatten_cons]
    exact r.append (reps_rep r n)
theorem opd_mulL : OpD F rRep mulL RN := by
  intro S H0 H d1 d2 d v1 v2 Q mt hk hn r1 r2 e kk
  cases d1 <;> cases d2 <;> try cases e
  rename_i a b
  obtain ⟨p, vs, rfl, q, rs⟩ := r1.lst
  rw [r2.int]
  obtain ⟨⟨h1, h2, h3⟩, rfl⟩ := ite_sm (show (if -(2 ^ 63) ≤ b ∧ b < 2 ^ 63 ∧ a.length * b.toNat ≤ sizeLine then some (D.lst (List.replicate b.toNat a).flatten) else none) = some d from e)
  exact ⟨p, b, vs, rfl, rfl, q, h1, h2, by rw [← rs.length]; exact h3, fun w hw => kk _ _ (upd_Same hw) (new_lst mt hn (reps_rep rs _) hw)⟩
theorem isNon_iff {S : Addr → Prop} {H : Hp} {d : D} {v : V} (h : RepT F S H d v) : decide (v = .non) = isNonB d := by
  have ref : ∀ a, decide (V.ref a = .non) = false := fun a => decide_eq_false fun e => nomatch e
  cases d with
  | non => rw [h.non]; rfl
  | bl b => rw [h.bl]; exact decide_eq_false fun e => nomatch e
  | int i => rw [h.int]; exact decide_eq_false fun e => nomatch e
  | str x => rw [h.str]; exact decide_eq_false fun e => nomatch e
  | tup l => obtain ⟨a, _, rfl, _⟩ := h.tup; exact ref a
  | lst l => obtain ⟨a, _, rfl, _⟩ := h.lst; exact ref a
  | dct k l =>
    rcases h with h | ⟨a, rfl, _⟩
    · unfold Rep at h; obtain ⟨a, rfl, _⟩ := h; exact ref a
    · exact ref a
  | ins c n l => obtain ⟨a, _, _, _, rfl, _⟩ := h.ins; exact ref a
  | fn x => obtain ⟨a, rfl, _⟩ := h.fn; exact ref a
  | ext t x ns ds =>
    rcases h with h | ⟨_, _, _, h⟩
    · unfold Rep at h; obtain ⟨a, _, _, rfl, _⟩ := h; exact ref a
    · exact h.elim
theorem opd_isN : OpD F (fun x y H Q => y = .non ∧ Q (.bl (decide (x = .non))) H) isND RV := by
  intro S H0 H d1 d2 d v1 v2 Q mt hk hn r1 r2 e kk
  cases d2 <;> try cases e
  exact ⟨r2.non, by rw [isNon_iff r1]; exact kk _ H (Same.refl _) rep_b⟩
theorem opd_notN : OpD F (fun x y H Q => y = .non ∧ Q (.bl (!decide (x = .non))) H) notND RV := by
  intro S H0 H d1 d2 d v1 v2 Q mt hk hn r1 r2 e kk
  cases d2 <;> try cases e
  exact ⟨r2.non, by rw [isNon_iff r1]; exact kk _ H (Same.refl _) rep_b⟩
theorem opd_isB : OpD F rIsB isBD RV := by
  intro S H0 H d1 d2 d v1 v2 Q mt hk hn r1 r2 e kk
  cases d1 <;> cases d2 <;> try cases e
  exact ⟨_, _, r1.bl, r2.bl, kk _ H (Same.refl _) rep_b⟩
theorem opd_notB : OpD F rNotB notBD RV := by
  intro S H0 H d1 d2 d v1 v2 Q mt hk hn r1 r2 e kk
  cases d1 <;> cases d2 <;> try cases e
  exact ⟨_, _, r1.bl, r2.bl, kk _ H (Same.refl _) rep_b⟩

/-! the rules -/
variable {a b : Expr} {fa fb : SEnv → M D} {pos : Pos}
theorem ev_add (o : On X F k) (ha : EVB X F a fa) (hb : EVB X F b fb) : EV X F (.BinOp a .Add b pos) (eOp addD fa fb) := ev_op (op_add.or (op_add_str.or op_catA)) (by rw [o.K]; exact opd_add) ha hb
theorem ev_addL (ha : EVB X F a fa) (hb : EVB X F b fb) : EVN X F (.BinOp a .Add b pos) (eOp addL fa fb) := ev_op op_cat opd_addL ha hb
theorem ev_sub (ha : EVB X F a fa) (hb : EVB X F b fb) : EV X F (.BinOp a .Sub b pos) (eOp subD fa fb) := ev_op op_sub opd_sub ha hb
theorem ev_mul (ha : EVB X F a fa) (hb : EVB X F b fb) : EV X F (.BinOp a .Mult b pos) (eOp mulD fa fb) := ev_op op_mul opd_mul ha hb
theorem ev_mulL (ha : EVB X F a fa) (hb : EVB X F b fb) : EVN X F (.BinOp a .Mult b pos) (eOp mulL fa fb) := ev_op op_rep opd_mulL ha hb
theorem ev_fdiv (ha : EVB X F a fa) (hb : EVB X F b fb) : EV X F (.BinOp a .FloorDiv b pos) (eOp fdivD fa fb) := ev_op op_fdiv opd_fdiv ha hb
theorem ev_mod (ha : EVB X F a fa) (hb : EVB X F b fb) : EV X F (.BinOp a .Mod b pos) (eOp modD fa fb) := ev_op op_mod opd_mod ha hb
theorem ev_pow (ha : EVB X F a fa) (hb : EVB X F b fb) : EV X F (.BinOp a .Pow b pos) (eOp powD fa fb) := ev_op op_pow opd_pow ha hb
theorem ev_lt (ha : EVB X F a fa) (hb : EVB X F b fb) : EV X F (.Compare a [.Lt] [b] pos) (eOp ltD fa fb) := ev_cmp op_lt (opd_cmp _) ha hb (nomark _)
theorem ev_le (ha : EVB X F a fa) (hb : EVB X F b fb) : EV X F (.Compare a [.LtE] [b] pos) (eOp leD fa fb) := ev_cmp op_le (opd_cmp _) ha hb (nomark _)
theorem ev_gt (ha : EVB X F a fa) (hb : EVB X F b fb) : EV X F (.Compare a [.Gt] [b] pos) (eOp gtD fa fb) := ev_cmp op_gt (opd_cmp _) ha hb (nomark _)
theorem ev_ge (ha : EVB X F a fa) (hb : EVB X F b fb) : EV X F (.Compare a [.GtE] [b] pos) (eOp geD fa fb) := ev_cmp op_ge (opd_cmp _) ha hb (nomark _)
theorem ev_isN (ha : EVB X F a fa) (hb : EVB X F b fb) : EV X F (.Compare a [.Is] [b] pos) (eOp isND fa fb) := ev_cmp op_isN opd_isN ha hb (nomark _)
theorem ev_notN (ha : EVB X F a fa) (hb : EVB X F b fb) : EV X F (.Compare a [.IsNot] [b] pos) (eOp notND fa fb) := ev_cmp op_notN opd_notN ha hb (nomark _)
theorem ev_isB (ha : EVB X F a fa) (hb : EVB X F b fb) : EV X F (.Compare a [.Is] [b] pos) (eOp isBD fa fb) := ev_cmp op_isBl opd_isB ha hb (nomark _)
theorem ev_notB (ha : EVB X F a fa) (hb : EVB X F b fb) : EV X F (.Compare a [.IsNot] [b] pos) (eOp notBD fa fb) := ev_cmp op_notBl opd_notB ha hb (nomark _)
end
end PL

set_option Elab.async false
set_option linter.all false
set_option maxRecDepth 100000
set_option maxHeartbeats 4000000
/-! PL4: equality, tests, displays, subscripts, slices, built-in calls. -/
namespace PL
open PySem L2
variable [TabL]

/-! ### == over data -/
mutual
def toPy : D → Option PyData
  | .non => some PyData.none
  | .bl b => some (PyData.bool b)
  | .int i => some (PyData.int i)
  | .str x => some (PyData.str x)
  | .tup l => (toPys l).map PyData.tuple
  | .lst l => (toPys l).map PyData.list
  | .dct _ _ => none
  | .ins _ _ _ => none
  | .fn _ => none
  | .ext _ _ _ _ => none
def toPys : List D → Option (List PyData)
  | [] => some []
  | d :: l => match toPy d, toPys l with
    | some k, some r => some (k :: r)
    | _, _ => none
end
def eqB : D → D → Option Bool
  | .str a, .str b => some (decide (a = b))
  | .int a, .int b => some (decide (a = b))
  | a, b => match toPy a, toPy b with
    | some x, some y => if SeqAt.shaped x && SeqAt.shaped y then some (PyData.eqv x y) else none
    | _, _ => none
def eqD (a b : D) : Option D := (eqB a b).map .bl
def neD (a b : D) : Option D := (eqB a b).map fun k => .bl (!k)

section
variable {X : Cx} {F : Fr} {k : Nat} {S : Addr → Prop} {H : Hp}
mutual
theorem Rep.dp : ∀ (d : D) (v : V) (x : PyData), Rep F.toWd S H d v → toPy d = some x → Dp F.K H v x
  | .non, v, x, h, e => by unfold Rep at h; unfold toPy at e; cases h; cases e; exact .non
  | .bl b, v, x, h, e => by unfold Rep at h; unfold toPy at e; cases h; cases e; exact .bl _
  | .int b, v, x, h, e => by unfold Rep at h; unfold toPy at e; cases h; cases e; exact .int _
  | .str b, v, x, h, e => by unfold Rep at h; unfold toPy at e; cases h; cases e; exact .str _
  | .tup l, v, x, h, e => by
    unfold Rep at h; unfold toPy at e
    obtain ⟨a, vs, rfl, q, r⟩ := h
    cases g : toPys l with
    | none => rw [g] at e; cases e
    | some xs => rw [g] at e; cases e; exact .tup q (Reps.dps l vs xs r g)
  | .lst l, v, x, h, e => by
    unfold Rep at h; unfold toPy at e
    obtain ⟨a, rfl, _, vs, q, r⟩ := h
    cases g : toPys l with
    | none => rw [g] at e; cases e
    | some xs => rw [g] at e; cases e; exact .lst (SqL.of q) (Reps.dps l vs xs r g)
  | .dct _ _, v, x, h, e => by unfold toPy at e; cases e
  | .ins _ _ _, v, x, h, e => by unfold toPy at e; cases e
  | .fn _, v, x, h, e => by unfold toPy at e; cases e
  | .ext _ _ _ _, v, x, h, e => by unfold toPy at e; cases e
theorem Reps.dps : ∀ (l : List D) (vs : List V) (xs : List PyData), Reps F.toWd S H l vs → toPys l = some xs → DpAll F.K H vs xs
  | [], vs, xs, h, e => by unfold Reps at h; unfold toPys at e; cases h; cases e; exact .nil
  | d :: l, vs, xs, h, e => by
    unfold Reps at h; unfold toPys at e
    obtain ⟨v, r, rfl, h1, h2⟩ := h
    cases g1 : toPy d with
    | none => rw [g1] at e; cases e
    | some x =>
      cases g2 : toPys l with
      | none => rw [g1, g2] at e; cases e
      | some ys => rw [g1, g2] at e; cases e; exact .cons (Rep.dp d v x h1 g1) (Reps.dps l r ys h2 g2)
end
theorem RepT.dp {d : D} {v : V} {x : PyData} (h : RepT F S H d v) (e : toPy d = some x) : Dp F.K H v x := by
  rcases h with h | ⟨a, rfl, _, o⟩
  · exact Rep.dp d v x h e
  · cases d with
    | lst l =>
      unfold toPy at e
      obtain ⟨vs, q, r⟩ := o
      cases g : toPys l with
      | none => rw [g] at e; cases e
      | some xs => rw [g] at e; cases e; exact .lst (SqL.of q) (Reps.dps l vs xs r g)
    | dct _ _ => unfold toPy at e; cases e
    | ins _ _ _ => unfold toPy at e; cases e
    | _ => exact o.elim
theorem opd_eqB {g : Bool → Bool} {r : R2} (h1 : ∀ a b H Q, Q (.bl (g (decide (a = b)))) H → r (.str a) (.str b) H Q) (h2 : ∀ a b H Q, Q (.bl (g (decide (a = b)))) H → r (.int a) (.int b) H Q)
    (h3 : ∀ x y d e H Q, Dp F.K H x d → Dp F.K H y e → SeqAt.shaped d = true → SeqAt.shaped e = true → Q (.bl (g (PyData.eqv d e))) H → r x y H Q) : OpD F r (fun a b => (eqB a b).map fun k => .bl (g k)) RV := by
  intro S H0 H d1 d2 d v1 v2 Q mt hk hn r1 r2 e kk
  have gen : ∀ (o : Option Bool), (match toPy d1, toPy d2 with
    | some x, some y => if SeqAt.shaped x && SeqAt.shaped y then some (PyData.eqv x y) else none
    | _, _ => none) = o → (o.map fun k => D.bl (g k)) = some d → r v1 v2 H Q := by
    intro o e1 e2
    cases g1 : toPy d1 with
    | none => rw [g1] at e1; cases e1; cases e2
    | some x =>
      cases g2 : toPy d2 with
      | none => rw [g1, g2] at e1; cases e1; cases e2
      | some y =>
        rw [g1, g2] at e1
        dsimp only at e1
        split at e1
        · rename_i hs
          rw [Bool.and_eq_true] at hs
          subst e1
          cases e2
          exact h3 _ _ _ _ _ _ (r1.dp g1) (r2.dp g2) hs.1 hs.2 (kk _ H (Same.refl _) rep_b)
        · subst e1; cases e2
  have e : (eqB d1 d2).map (fun k => D.bl (g k)) = some d := e
  unfold eqB at e
  split at e
  · rw [r1.str, r2.str]; cases e; exact h1 _ _ _ _ (kk _ H (Same.refl _) rep_b)
  · rw [r1.int, r2.int]; cases e; exact h2 _ _ _ _ (kk _ H (Same.refl _) rep_b)
  · exact gen _ rfl e
variable {a b : Expr} {fa fb : SEnv → M D} {pos : Pos}
theorem dec_str' {a b : Str} : decide (V.str a = V.str b) = decide (a = b) := by
  by_cases h : a = b
  · subst h; simp
  · rw [decide_eq_false h, decide_eq_false fun e => h (V.str.inj e)]
theorem dec_int' {a b : Int} : decide (V.int a = V.int b) = decide (a = b) := by
  by_cases h : a = b
  · subst h; simp
  · rw [decide_eq_false h, decide_eq_false fun e => h (V.int.inj e)]
theorem ev_eq (o : On X F k) (ha : EVB X F a fa) (hb : EVB X F b fb) : EV X F (.Compare a [.Eq] [b] pos) (eOp eqD fa fb) :=
  ev_cmp (op_eq.or (op_eqD o.room.units)) (opd_eqB (g := id) (fun _ _ _ _ q => .inl ⟨rfl, by rw [dec_str']; exact q⟩) (fun _ _ _ _ q => .inl ⟨rfl, by rw [dec_int']; exact q⟩) fun x y d e H Q h1 h2 h3 h4 q => .inr ⟨d, e, by rw [o.K]; exact h1, by rw [o.K]; exact h2, h3, h4, q⟩) ha hb (nomark _)
theorem ev_ne (o : On X F k) (ha : EVB X F a fa) (hb : EVB X F b fb) : EV X F (.Compare a [.NotEq] [b] pos) (eOp neD fa fb) :=
  ev_cmp (op_ne.or (op_neD o.room.units)) (opd_eqB (g := not) (fun _ _ _ _ q => .inl ⟨rfl, by rw [dec_str']; exact q⟩) (fun _ _ _ _ q => .inl ⟨rfl, by rw [dec_int']; exact q⟩) fun x y d e H Q h1 h2 h3 h4 q => .inr ⟨d, e, by rw [o.K]; exact h1, by rw [o.K]; exact h2, h3, h4, q⟩) ha hb (nomark _)
end

/-! ### tests -/
def tT (F : Fr) (f : SEnv → M D) : TT := fun σ H Q => ∃ S Γ p, ES F S Γ p σ H ∧ OutOk F (f Γ p) fun d p' => ∃ b, d = .bl b ∧ ∀ H', Ext F H H' → PotOk F H' p' → Q b H'
abbrev ET (X : Cx) (F : Fr) (e : Expr) (f : SEnv → M D) : Prop := PT X e (tT F f)
abbrev EW (X : Cx) (F : Fr) (e : Expr) (f : SEnv → M D) : Prop := PW X e (tT F f)
def eAnd (fa fb : SEnv → M D) : SEnv → M D := fun Γ => do
  match ← fa Γ with
  | .bl true => fb Γ
  | .bl false => pure (.bl false)
  | _ => M.bad
def eOr (fa fb : SEnv → M D) : SEnv → M D := fun Γ => do
  match ← fa Γ with
  | .bl true => pure (.bl true)
  | .bl false => fb Γ
  | _ => M.bad
def eNot (fa : SEnv → M D) : SEnv → M D := fun Γ => do
  match ← fa Γ with
  | .bl b => pure (.bl (!b))
  | _ => M.bad
def eIf (ft fa fb : SEnv → M D) : SEnv → M D := fun Γ => do
  match ← ft Γ with
  | .bl true => fa Γ
  | .bl false => fb Γ
  | _ => M.bad
theorem PT.weak {X : Cx} {e : Expr} {t t' : TT} (h : PT X e t) (hw : ∀ σ H Q, t' σ H Q → t σ H Q) : PT X e t' := ⟨fun pins s σ H Q I q => h.run pins s σ H Q I (hw σ H Q q)⟩
theorem PW.weak {X : Cx} {e : Expr} {t t' : TT} (h : PW X e t) (hw : ∀ σ H Q, t' σ H Q → t σ H Q) : PW X e t' := ⟨fun w pins s σ H Q I q => h.run w pins s σ H Q I (hw σ H Q q)⟩
section
variable {X : Cx} {F : Fr} {k : Nat} {a b c e : Expr} {rest : List Expr} {f fa fb fc : SEnv → M D} {pos : Pos}
theorem et_val (h : EVB X F e f) (he : ∀ whole, isTrue e X.env whole = (do let v ← whole; standAt e.pos; holding [v] (truthy v)) := by intro _; rfl) : ET X F e f := PT.weak (pt_val h he) fun σ H Q q => by
  obtain ⟨S, Γ, p, es, o⟩ := q
  refine ⟨S, Γ, p, es, o.imp fun d p' ⟨b, e1, k⟩ v H' e2 e3 r => ?_⟩
  subst e1
  exact ⟨b, r.bl, k H' e2 e3⟩
/-- one test, then by its answer -/
theorem tT_bind {g : D → SEnv → M D} {σ : St} {H : Hp} {R : Prop} (hg : ∀ d Γ p K, OutOk F (g d Γ p) K → ∃ b, d = .bl b)
    {S : Addr → Prop} {Γ : SEnv} {p : Pot} {K : D → Pot → Prop} (es : ES F S Γ p σ H) (o : OutOk F ((fa Γ >>= fun d => g d Γ) p) K) {Q : Bool → Hp → Prop}
    (hq : ∀ b p' H', Ext F H H' → PotOk F H' p' → OutOk F (g (.bl b) Γ p') K → Q b H') : tT F fa σ H Q := by
  refine ⟨S, Γ, p, es, (OutOk.bind.mp o).imp fun d p' o => ?_⟩
  obtain ⟨b, rfl⟩ := hg _ _ _ _ o
  exact ⟨b, rfl, fun H' e1 e2 => hq b p' H' e1 e2 o⟩
theorem and_bl (d : D) (Γ : SEnv) (p : Pot) (K : D → Pot → Prop) (h : OutOk F ((match d with
  | .bl true => fb Γ
  | .bl false => pure (.bl false)
  | _ => M.bad : M D) p) K) : ∃ b, d = .bl b := by
  cases d <;> first | exact ⟨_, rfl⟩ | exact h.elim
theorem or_bl (d : D) (Γ : SEnv) (p : Pot) (K : D → Pot → Prop) (h : OutOk F ((match d with
  | .bl true => pure (.bl true)
  | .bl false => fb Γ
  | _ => M.bad : M D) p) K) : ∃ b, d = .bl b := by
  cases d <;> first | exact ⟨_, rfl⟩ | exact h.elim
theorem not_bl (d : D) (Γ : SEnv) (p : Pot) (K : D → Pot → Prop) (h : OutOk F ((match d with
  | .bl b => pure (.bl (!b))
  | _ => M.bad : M D) p) K) : ∃ b, d = .bl b := by
  cases d <;> first | exact ⟨_, rfl⟩ | exact h.elim
theorem if_bl (d : D) (Γ : SEnv) (p : Pot) (K : D → Pot → Prop) (h : OutOk F ((match d with
  | .bl true => fa Γ
  | .bl false => fb Γ
  | _ => M.bad : M D) p) K) : ∃ b, d = .bl b := by
  cases d <;> first | exact ⟨_, rfl⟩ | exact h.elim
theorem ew_and1 (h : ET X F a f) : EW X F (.BoolOp .And [a] pos) f := pw_and1 h
theorem ew_or1 (h : ET X F a f) : EW X F (.BoolOp .Or [a] pos) f := pw_or1 h
theorem ew_and (ha : ET X F a fa) (hb : EW X F (.BoolOp .And (b :: rest) pos) fb) : EW X F (.BoolOp .And (a :: b :: rest) pos) (eAnd fa fb) := PW.weak (pw_and ha hb) fun σ H Q q => by
  obtain ⟨S, Γ, p, es, o⟩ := q
  refine tT_bind (F := F) (R := True) (g := fun d Γ => match d with
    | .bl true => fb Γ
    | .bl false => pure (.bl false)
    | _ => M.bad) (fun d Γ p K => and_bl d Γ p K) es o fun b p' H' e1 e2 o => ?_
  cases b with
  | true => exact iteT ⟨S, Γ, p', es.ext e1 e2, OutOk.imp (show OutOk F (fb Γ p') _ from o) fun d p2 ⟨b, e3, k⟩ => ⟨b, e3, fun H2 e4 e5 => k H2 (e1.trans e4) e5⟩⟩
  | false =>
    obtain ⟨b, e3, k⟩ := (show ∃ b, D.bl false = .bl b ∧ ∀ H', Ext F H H' → PotOk F H' p' → Q b H' from o)
    cases e3
    exact iteF (k H' e1 e2)
theorem ew_or (ha : ET X F a fa) (hb : EW X F (.BoolOp .Or (b :: rest) pos) fb) : EW X F (.BoolOp .Or (a :: b :: rest) pos) (eOr fa fb) := PW.weak (pw_or ha hb) fun σ H Q q => by
  obtain ⟨S, Γ, p, es, o⟩ := q
  refine tT_bind (F := F) (R := True) (g := fun d Γ => match d with
    | .bl true => pure (.bl true)
    | .bl false => fb Γ
    | _ => M.bad) (fun d Γ p K => or_bl d Γ p K) es o fun b p' H' e1 e2 o => ?_
  cases b with
  | false => exact iteF ⟨S, Γ, p', es.ext e1 e2, OutOk.imp (show OutOk F (fb Γ p') _ from o) fun d p2 ⟨b, e3, k⟩ => ⟨b, e3, fun H2 e4 e5 => k H2 (e1.trans e4) e5⟩⟩
  | true =>
    obtain ⟨b, e3, k⟩ := (show ∃ b, D.bl true = .bl b ∧ ∀ H', Ext F H H' → PotOk F H' p' → Q b H' from o)
    cases e3
    exact iteT (k H' e1 e2)
theorem ew_t (h : EW X F a f) : ET X F a f := h.pt
theorem et_not (h : ET X F a f) : ET X F (.UnaryOp .Not a pos) (eNot f) := PT.weak (pt_not h) fun σ H Q q => by
  obtain ⟨S, Γ, p, es, o⟩ := q
  refine tT_bind (F := F) (R := True) (g := fun d Γ => match d with
    | .bl b => pure (.bl (!b))
    | _ => M.bad) (fun d Γ p K => not_bl d Γ p K) es o fun b p' H' e1 e2 o => ?_
  obtain ⟨b', e3, k⟩ := (show ∃ b', D.bl (!b) = .bl b' ∧ ∀ H', Ext F H H' → PotOk F H' p' → Q b' H' from o)
  cases e3
  exact k H' e1 e2
/-- as values -/
theorem ev_one {op} (h : EV X F a f) : EV X F (.BoolOp op [a] pos) f := pe_one h
theorem bl_of_and (d : D) {Γ : SEnv} {p : Pot} {K : D → Pot → Prop} {R : Prop} (h : OutOk F ((match d with
  | .bl true => fb Γ
  | .bl false => pure (.bl false)
  | _ => M.bad : M D) p) K) (hr : ∀ b, d = .bl b → R) : R := let ⟨b, e⟩ := and_bl d Γ p K h; hr b e
theorem ev_and (ha : EV X F a fa) (hb : EV X F (.BoolOp .And (b :: rest) pos) fb) : EV X F (.BoolOp .And (a :: b :: rest) pos) (eAnd fa fb) := PE.weak (pe_and ha hb) fun σ H Q q => by
  obtain ⟨S, Γ, p, es, o⟩ := q
  refine ⟨S, Γ, p, es, (OutOk.bind.mp o).imp fun d p' o v H' e1 e2 r => ?_⟩
  obtain ⟨c, rfl⟩ := and_bl d Γ p' _ o
  refine ⟨c, r.b.bl, ?_⟩
  cases c with
  | true => exact iteT ⟨S, Γ, p', es.ext e1 e2, OutOk.imp (show OutOk F (fb Γ p') _ from o) fun d p2 k v H2 e4 e5 r => k v H2 (e1.trans e4) e5 r⟩
  | false => exact iteF ((show ∀ v H', Ext F H H' → PotOk F H' p' → RV F S H H' (.bl false) v → Q v H' from o) _ H' e1 e2 rep_b)
theorem ev_or (ha : EV X F a fa) (hb : EV X F (.BoolOp .Or (b :: rest) pos) fb) : EV X F (.BoolOp .Or (a :: b :: rest) pos) (eOr fa fb) := PE.weak (pe_or ha hb) fun σ H Q q => by
  obtain ⟨S, Γ, p, es, o⟩ := q
  refine ⟨S, Γ, p, es, (OutOk.bind.mp o).imp fun d p' o v H' e1 e2 r => ?_⟩
  obtain ⟨c, rfl⟩ := or_bl d Γ p' _ o
  refine ⟨c, r.b.bl, ?_⟩
  cases c with
  | false => exact iteF ⟨S, Γ, p', es.ext e1 e2, OutOk.imp (show OutOk F (fb Γ p') _ from o) fun d p2 k v H2 e4 e5 r => k v H2 (e1.trans e4) e5 r⟩
  | true => exact iteT ((show ∀ v H', Ext F H H' → PotOk F H' p' → RV F S H H' (.bl true) v → Q v H' from o) _ H' e1 e2 rep_b)
theorem ev_not (ha : EV X F a fa) : EV X F (.UnaryOp .Not a pos) (eNot fa) := PE.weak (pe_not ha) fun σ H Q q => by
  obtain ⟨S, Γ, p, es, o⟩ := q
  refine ⟨S, Γ, p, es, (OutOk.bind.mp o).imp fun d p' o v H' e1 e2 r => ?_⟩
  obtain ⟨c, rfl⟩ := not_bl d Γ p' _ o
  exact ⟨c, r.b.bl, (show ∀ v H', Ext F H H' → PotOk F H' p' → RV F S H H' (.bl (!c)) v → Q v H' from o) _ H' e1 e2 rep_b⟩
theorem ev_if {R : RR} (hR : R = RV ∨ R = RB) (hc : ET X F c fc) (ha : EXP R X F a fa) (hb : EXP R X F b fb) : EXP R X F (.IfExp c a b pos) (eIf fc fa fb) := PE.weak (pe_ifExp hc ha hb) fun σ H Q q => by
  obtain ⟨S, Γ, p, es, o⟩ := q
  refine tT_bind (F := F) (R := True) (g := fun d Γ => match d with
    | .bl true => fa Γ
    | .bl false => fb Γ
    | _ => M.bad) (fun d Γ p K => if_bl d Γ p K) es o fun b p' H' e1 e2 o => ?_
  have cv : ∀ H2 d v, R F S H' H2 d v → R F S H H2 d v := by
    rcases hR with rfl | rfl <;> exact fun _ _ _ h => h
  cases b with
  | true => exact iteT ⟨S, Γ, p', es.ext e1 e2, OutOk.imp (show OutOk F (fa Γ p') _ from o) fun d p2 k v H2 e4 e5 r => k v H2 (e1.trans e4) e5 (cv _ _ _ r)⟩
  | false => exact iteF ⟨S, Γ, p', es.ext e1 e2, OutOk.imp (show OutOk F (fb Γ p') _ from o) fun d p2 k v H2 e4 e5 r => k v H2 (e1.trans e4) e5 (cv _ _ _ r)⟩
end
end PL

set_option Elab.async false
set_option linter.all false
set_option maxRecDepth 100000
set_option maxHeartbeats 4000000
/-! PL5: argument lists, displays, calls of built-ins, subscripts, slices. -/
namespace PL
open PySem L2
variable [TabL]

/-! ### argument lists: b = true, looked at only -/
def IR (b : Bool) (F : Fr) (S : Addr → Prop) (H : Hp) (d : D) (v : V) : Prop := match b with
  | true => RepT F S H d v
  | false => Rep F.toWd S H d v
def RI (b : Bool) : RR := fun F S _ H' d v => IR b F S H' d v
abbrev PIR (b : Bool) (F : Fr) (S : Addr → Prop) (H : Hp) : List D → List V → Prop := Paired fun d v => IR b F S H d v
def eNil : SEnv → M (List D) := fun _ => pure []
def eCons (f : SEnv → M D) (fs : SEnv → M (List D)) : SEnv → M (List D) := fun Γ => do let d ← f Γ; let ds ← fs Γ; pure (d :: ds)
def tA (b : Bool) (F : Fr) (fs : SEnv → M (List D)) : TA := fun σ H Q => ∃ S Γ p, ES F S Γ p σ H ∧ OutOk F (fs Γ p) fun ds p' => ∀ vs H', Ext F H H' → PotOk F H' p' → PIR b F S H' ds vs → Q vs H'
abbrev EA (b : Bool) (X : Cx) (F : Fr) (es : List Expr) (fs : SEnv → M (List D)) : Prop := PA X es (tA b F fs)
theorem PA.weak {X : Cx} {e : List Expr} {t t' : TA} (h : PA X e t) (hw : ∀ σ H Q, t' σ H Q → t σ H Q) : PA X e t' := ⟨fun pos pins s σ H Q I q => h.run pos pins s σ H Q I (hw σ H Q q)⟩
section
variable {b : Bool} {F : Fr} {S : Addr → Prop} {Γ : SEnv} {p : Pot} {σ : St} {H H' : Hp}
theorem IR.ext {d : D} {v : V} (es : ES F S Γ p σ H) (e : Ext F H H') (h : IR b F S H d v) : IR b F S H' d v := by
  cases b with
  | true => exact RepT.ext es e h
  | false => exact Rep.goes (e.goes es.mt es.pa) _ _ h
theorem PIR.reps : ∀ {ds : List D} {vs : List V}, PIR false F S H ds vs → Reps F.toWd S H ds vs
  | [], _, .nil => .nil
  | d :: ds, _, .cons h t => .cons h (PIR.reps t)
theorem PIR.of_reps : ∀ {ds : List D} {vs : List V}, Reps F.toWd S H ds vs → PIR false F S H ds vs
  | [], _, h => by unfold Reps at h; subst h; exact .nil
  | d :: ds, _, h => by unfold Reps at h; obtain ⟨v, r, rfl, h1, h2⟩ := h; exact .cons h1 (PIR.of_reps h2)
end
section
variable {X : Cx} {F : Fr} {k : Nat} {b : Bool} {e : Expr} {es : List Expr} {f : SEnv → M D} {fs : SEnv → M (List D)} {pos : Pos}
theorem ea_nil : EA b X F [] eNil := PA.weak pa_nil fun σ H Q q => by
  obtain ⟨S, Γ, p, es, o⟩ := q
  exact o [] H .refl es.pot .nil
theorem ea_cons' (ha : EXP (RI b) X F e f) (hr : EA b X F es fs) (hs : starEach (e :: es) X.env = (false, eval e X.env) :: starEach es X.env := by rfl) : EA b X F (e :: es) (eCons f fs) := PA.weak (pa_cons ha hr hs) fun σ H Q q => by
  obtain ⟨S, Γ, p, es, o⟩ := q
  refine ⟨S, Γ, p, es, (OutOk.bind.mp o).imp fun d1 p1 o v1 H1 e1 q1 r1 => ?_⟩
  have es1 := es.ext e1 q1
  refine ⟨S, Γ, p1, es1, (OutOk.bind.mp o).imp fun ds p2 o vs H2 e2 q2 r2 => ?_⟩
  exact (show ∀ vs H', Ext F H H' → PotOk F H' p2 → PIR b F S H' (d1 :: ds) vs → Q vs H' from o) _ H2 (e1.trans e2) q2 (.cons (IR.ext es1 e2 r1) r2)
/-- looked at -/
theorem ea_b (ha : EVB X F e f) (hr : EA true X F es fs) (hs : starEach (e :: es) X.env = (false, eval e X.env) :: starEach es X.env := by rfl) : EA true X F (e :: es) (eCons f fs) := ea_cons' (b := true) ha hr hs
/-- handed on -/
theorem ea_v (ha : EV X F e f) (hr : EA false X F es fs) (hs : starEach (e :: es) X.env = (false, eval e X.env) :: starEach es X.env := by rfl) : EA false X F (e :: es) (eCons f fs) := ea_cons' (b := false) ha hr hs
/-- a starred item, in a display -/
def itemsT : D → Option (List D)
  | .tup l => some l
  | .lst l => some l
  | _ => none
def eStar (f : SEnv → M D) (fs : SEnv → M (List D)) : SEnv → M (List D) := fun Γ => do let d ← f Γ; let l ← ofOpt (itemsT d); let ds ← fs Γ; pure (l ++ ds)
theorem RepT.items {S : Addr → Prop} {H : Hp} {d : D} {v : V} {l : List D} (h : RepT F S H d v) (e : itemsT d = some l) : ∃ a vs, v = .ref a ∧ (SqT F.K H a vs ∨ SqL F.K H a vs) ∧ Reps F.toWd S H l vs := by
  cases d <;> try cases e
  · obtain ⟨a, vs, e1, q, r⟩ := h.tup; exact ⟨a, vs, e1, .inl q, r⟩
  · obtain ⟨a, vs, e1, q, r⟩ := h.lst; exact ⟨a, vs, e1, .inr (SqL.of q), r⟩
theorem ea_star {p : Pos} (o : On X F k) (ha : EVB X F e f) (hr : EA false X F es fs) (hs : starEach (.Starred e p :: es) X.env = (true, eval e X.env) :: starEach es X.env := by rfl) : EA false X F (.Starred e p :: es) (eStar f fs) := PA.weak (StX.pa_star ha hr hs) fun σ H Q q => by
  obtain ⟨S, Γ, p, es, q⟩ := q
  refine ⟨S, Γ, p, es, (OutOk.bind.mp q).imp fun d1 p1 q v1 H1 e1 q1 r1 => ?_⟩
  obtain ⟨l, e2, q⟩ := out_opt.mp (OutOk.bind.mp q)
  obtain ⟨a, vs, rfl, hx, r⟩ := RepT.items r1 e2
  have es1 := es.ext e1 q1
  refine ⟨a, vs, rfl, by rw [o.K]; exact hx, ?_⟩
  refine ⟨S, Γ, p1, es1, (OutOk.bind.mp q).imp fun ds p2 q vs2 H2 e3 q2 r2 => ?_⟩
  have r' : Reps F.toWd S H2 l vs := Reps.goes (e3.goes es1.mt es1.pa) _ _ r
  exact (show ∀ vs H', Ext F H H' → PotOk F H' p2 → PIR false F S H' (l ++ ds) vs → Q vs H' from q) _ H2 (e1.trans e3) q2 (PIR.of_reps (r'.append r2.reps))

/-! ### displays -/
def mkTup (ds : List D) : Option D := if ds.length ≤ sizeLine then some (.tup ds) else none
def mkLst (ds : List D) : Option D := if ds.length ≤ sizeLine then some (.lst ds) else none
def eTup (fs : SEnv → M (List D)) : SEnv → M D := fun Γ => do let ds ← fs Γ; ofOpt (mkTup ds)
def eLst (fs : SEnv → M (List D)) : SEnv → M D := fun Γ => do let ds ← fs Γ; ofOpt (mkLst ds)
theorem ev_tup {x1} (h : EA false X F es fs) : EV X F (.Tuple es x1 pos) (eTup fs) := PE.weak (pe_tup h) fun σ H Q q => by
  obtain ⟨S, Γ, p, es, q⟩ := q
  refine ⟨S, Γ, p, es, (OutOk.bind.mp q).imp fun ds p1 q vs H1 e1 q1 r1 => ?_⟩
  obtain ⟨d, e2, q⟩ := out_opt.mp q
  obtain ⟨hl, rfl⟩ := ite_sm e2
  have r := r1.reps
  refine ⟨by rw [← r.length]; exact hl, fun w hw => ?_⟩
  exact q _ _ (e1.trans (.of (upd_Same hw))) (q1.same (upd_Same hw)) (new_tup (es.ext e1 q1).mt r hw)
theorem ev_lst (h : EA false X F es fs) : EVN X F (.List es pos) (eLst fs) := PE.weak (pe_lst h) fun σ H Q q => by
  obtain ⟨S, Γ, p, es, q⟩ := q
  refine ⟨S, Γ, p, es, (OutOk.bind.mp q).imp fun ds p1 q vs H1 e1 q1 r1 => ?_⟩
  obtain ⟨d, e2, q⟩ := out_opt.mp q
  obtain ⟨hl, rfl⟩ := ite_sm e2
  have r := r1.reps
  refine ⟨by rw [← r.length]; exact hl, fun w hw => ?_⟩
  exact q _ _ (e1.trans (.of (upd_Same hw))) (q1.same (upd_Same hw)) (new_lst (es.ext e1 q1).mt (es.sub e1 q1) r hw)

/-! ### calls of built-ins -/
def eCall (g : List D → Option D) (fs : SEnv → M (List D)) : SEnv → M D := fun Γ => do let ds ← fs Γ; ofOpt (g ds)
def CallD (F : Fr) (r : List V → Hp → VK → Prop) (g : List D → Option D) (R : RR) : Prop := ∀ (S : Addr → Prop) (H0 H : Hp) (ds : List D) (d : D) (vs : List V) (Q : VK), (∀ a, S a → Mut (H a)) → (∀ a, H a = none → H0 a = none) → PIR true F S H ds vs → g ds = some d →
  (∀ v H', Same H H' → R F S H0 H' d v → Q v H') → r vs H Q
theorem tX_call {r : List V → Hp → VK → Prop} {g : List D → Option D} {R : RR} (hd : CallD F r g R) {σ : St} {H : Hp} {Q : VK} (q : tX R F (eCall g fs) σ H Q) : tA true F fs σ H (fun vs H1 => r vs H1 Q) := by
  obtain ⟨S, Γ, p, es, q⟩ := q
  refine ⟨S, Γ, p, es, (OutOk.bind.mp q).imp fun ds p1 q vs H1 e1 q1 r1 => ?_⟩
  obtain ⟨d, e2, q⟩ := out_opt.mp q
  exact hd S H H1 ds d vs Q (es.ext e1 q1).mt (es.sub e1 q1) r1 e2 fun v H' s r => q v H' (e1.trans (.of s)) (q1.same s) r
theorem ev_callB {x : Str} {p : Pos} {id : String} {r : List V → Hp → VK → Prop} {g : List D → Option D} {R : RR} (hc : CallR X (.builtin id) r) (hd : CallD F r g R) (hg : Gl X x) (hm : X.mg x = none) (hv : bootBuiltins x = some (.builtin id)) (ha : EA true X F (e :: es) fs) (hn : x ≠ "__name__" := by decide) (hdb : (x == ("__debug__" : Str)) = false := by decide)
    (he : starEach (e :: es) X.env = (false, eval e X.env) :: starEach es X.env := by rfl) (hpl : (backTo pos (starEach es X.env)).any (·.1) = false := by rfl) : EXP R X F (.Call (.Name x p) (e :: es) [] pos) (eCall g fs) :=
  PE.weak (pe_callB hc hg hm hv ha hn hdb he hpl) fun _ _ _ q => tX_call hd q
theorem ev_callTy {x : Str} {p : Pos} {T : String} {r : List V → Hp → VK → Prop} {g : List D → Option D} {R : RR} (hc : CallR X (.type T) r) (hd : CallD F r g R) (hg : Gl X x) (hm : X.mg x = none) (hv : bootBuiltins x = some (.type T)) (ha : EA true X F (e :: es) fs) (hn : x ≠ "__name__" := by decide) (hdb : (x == ("__debug__" : Str)) = false := by decide)
    (he : starEach (e :: es) X.env = (false, eval e X.env) :: starEach es X.env := by rfl) (hpl : (backTo pos (starEach es X.env)).any (·.1) = false := by rfl) : EXP R X F (.Call (.Name x p) (e :: es) [] pos) (eCall g fs) :=
  PE.weak (pe_callTy hc hg hm hv ha hn hdb he hpl) fun _ _ _ q => tX_call hd q
end

/-! what the built-ins tell -/
def lenD : List D → Option D
  | [.str x] => if x.length ≤ sizeLine then some (.int x.length) else none
  | [.tup l] => some (.int l.length)
  | [.lst l] => some (.int l.length)
  | _ => none
def absD : List D → Option D
  | [.int i] => some (.int (if i < 0 then -i else i))
  | _ => none
def max2D : List D → Option D
  | [.int i, .int j] => some (.int (if j > i then j else i))
  | _ => none
def min2D : List D → Option D
  | [.int i, .int j] => some (.int (if j < i then j else i))
  | _ => none
def intD : List D → Option D
  | [.int i] => some (.int i)
  | [.bl b] => some (.int (if b then 1 else 0))
  | _ => none
def strD : List D → Option D
  | [.int i] => if i.natAbs.log2 < 1920 then some (.str (toString i)) else none
  | [.str x] => some (.str x)
  | _ => none
def tupleD : List D → Option D
  | [.lst l] => some (.tup l)
  | [.tup l] => some (.tup l)
  | _ => none
def listD : List D → Option D
  | [.lst l] => some (.lst l)
  | [.tup l] => some (.lst l)
  | _ => none
def allBl : List D → Option (List Bool)
  | [] => some []
  | .bl b :: l => (allBl l).map (b :: ·)
  | _ :: _ => none
def allD : List D → Option D
  | [.lst l] => (allBl l).map fun bs => .bl (bs.all id)
  | _ => none
def anyD : List D → Option D
  | [.lst l] => (allBl l).map fun bs => .bl (bs.any id)
  | _ => none
section
variable {F : Fr} {S : Addr → Prop} {H : Hp}
theorem pir1 {d : D} {vs : List V} (h : PIR true F S H [d] vs) : ∃ v, vs = [v] ∧ RepT F S H d v := by
  cases h with
  | cons h t => cases t; exact ⟨_, rfl, h⟩
theorem pir2 {d d' : D} {vs : List V} (h : PIR true F S H [d, d'] vs) : ∃ v v', vs = [v, v'] ∧ RepT F S H d v ∧ RepT F S H d' v' := by
  cases h with
  | cons h t => obtain ⟨v', rfl, h'⟩ := pir1 t; exact ⟨_, _, rfl, h, h'⟩
theorem reps_bls : ∀ {l : List D} {vs : List V} {bs : List Bool}, Reps F.toWd S H l vs → allBl l = some bs → vs = bs.map V.bl
  | [], _, _, h, e => by unfold Reps at h; cases e; exact h
  | d :: l, _, bs, h, e => by
    unfold Reps at h
    obtain ⟨v, r, rfl, h1, h2⟩ := h
    cases d <;> try cases e
    rename_i b
    unfold allBl at e
    cases g : allBl l with
    | none => rw [g] at e; cases e
    | some bs' =>
      rw [g] at e; cases e
      unfold Rep at h1
      rw [h1, reps_bls h2 g]
      rfl
theorem cd_len : CallD F (fun xs H Q => ∃ x n, xs = [x] ∧ LenV F.K x H n ∧ Q (.int n) H) lenD RV := by
  intro S H0 H ds d vs Q mt hn r e kk
  unfold lenD at e
  split at e
  · obtain ⟨v, rfl, r1⟩ := pir1 r
    obtain ⟨hl, rfl⟩ := ite_sm e
    rw [r1.str]
    exact ⟨_, _, rfl, ⟨hl, rfl⟩, kk _ H (Same.refl _) rep_i⟩
  · obtain ⟨v, rfl, r1⟩ := pir1 r
    obtain ⟨a, vs, rfl, q, rs⟩ := r1.tup
    cases e
    exact ⟨_, _, rfl, .inr ⟨vs, q, rfl⟩, kk _ H (Same.refl _) (by rw [rs.length]; exact rep_i)⟩
  · obtain ⟨v, rfl, r1⟩ := pir1 r
    obtain ⟨a, vs, rfl, q, rs⟩ := r1.lst
    cases e
    exact ⟨_, _, rfl, .inl ⟨vs, SqL.of q, rfl⟩, kk _ H (Same.refl _) (by rw [rs.length]; exact rep_i)⟩
  · cases e
theorem cd_abs : CallD F (fun xs H Q => ∃ i, xs = [.int i] ∧ Q (.int (if i < 0 then -i else i)) H) absD RV := by
  intro S H0 H ds d vs Q mt hn r e kk
  unfold absD at e
  split at e
  · obtain ⟨v, rfl, r1⟩ := pir1 r
    cases e
    rw [r1.int]
    exact ⟨_, rfl, kk _ H (Same.refl _) rep_i⟩
  · cases e
theorem cd_max2 : CallD F (fun xs H Q => ∃ i j, xs = [.int i, .int j] ∧ Q (.int (if j > i then j else i)) H) max2D RV := by
  intro S H0 H ds d vs Q mt hn r e kk
  unfold max2D at e
  split at e
  · obtain ⟨v, v', rfl, r1, r'⟩ := pir2 r
    cases e
    rw [r1.int, r'.int]
    exact ⟨_, _, rfl, kk _ H (Same.refl _) rep_i⟩
  · cases e
theorem cd_min2 : CallD F (fun xs H Q => ∃ i j, xs = [.int i, .int j] ∧ Q (.int (if j < i then j else i)) H) min2D RV := by
  intro S H0 H ds d vs Q mt hn r e kk
  unfold min2D at e
  split at e
  · obtain ⟨v, v', rfl, r1, r'⟩ := pir2 r
    cases e
    rw [r1.int, r'.int]
    exact ⟨_, _, rfl, kk _ H (Same.refl _) rep_i⟩
  · cases e
theorem cd_int : CallD F (fun xs H Q => (∃ i, xs = [.int i] ∧ Q (.int i) H) ∨ ∃ k, xs = [.bl k] ∧ Q (.int (if k then 1 else 0)) H) intD RV := by
  intro S H0 H ds d vs Q mt hn r e kk
  unfold intD at e
  split at e
  · obtain ⟨v, rfl, r1⟩ := pir1 r
    cases e
    rw [r1.int]
    exact .inl ⟨_, rfl, kk _ H (Same.refl _) rep_i⟩
  · obtain ⟨v, rfl, r1⟩ := pir1 r
    cases e
    rw [r1.bl]
    exact .inr ⟨_, rfl, kk _ H (Same.refl _) rep_i⟩
  · cases e
theorem cd_tuple : CallD F (fun xs H Q => ∃ p ys, xs = [V.ref p] ∧ ((SqL F.K H p ys ∧ ∀ l, H l = none → Q (.ref l) (upd H l (.tup ys))) ∨ SqT F.K H p ys ∧ Q (.ref p) H)) tupleD RV := by
  intro S H0 H ds d vs Q mt hn r e kk
  unfold tupleD at e
  split at e
  · obtain ⟨v, rfl, r1⟩ := pir1 r
    obtain ⟨a, vs, rfl, q, rs⟩ := r1.lst
    cases e
    exact ⟨_, _, rfl, .inl ⟨SqL.of q, fun l hl => kk _ _ (upd_Same hl) (new_tup mt rs hl)⟩⟩
  · obtain ⟨v, rfl, r1⟩ := pir1 r
    obtain ⟨a, vs, rfl, q, rs⟩ := r1.tup
    cases e
    refine ⟨_, _, rfl, .inr ⟨q, kk _ H (Same.refl _) ?_⟩⟩
    show Rep _ _ _ (.tup _) _
    unfold Rep; exact ⟨_, _, rfl, q, rs⟩
  · cases e
theorem cd_list : CallD F (fun xs H Q => ∃ p ys, xs = [V.ref p] ∧ (SqL F.K H p ys ∨ SqT F.K H p ys) ∧ ∀ l, H l = none → Q (.ref l) (upd H l (.lst ys))) listD RN := by
  intro S H0 H ds d vs Q mt hn r e kk
  unfold listD at e
  split at e
  · obtain ⟨v, rfl, r1⟩ := pir1 r
    obtain ⟨a, vs, rfl, q, rs⟩ := r1.lst
    cases e
    exact ⟨_, _, rfl, .inl (SqL.of q), fun l hl => kk _ _ (upd_Same hl) (new_lst mt hn rs hl)⟩
  · obtain ⟨v, rfl, r1⟩ := pir1 r
    obtain ⟨a, vs, rfl, q, rs⟩ := r1.tup
    cases e
    exact ⟨_, _, rfl, .inr q, fun l hl => kk _ _ (upd_Same hl) (new_lst mt hn rs hl)⟩
  · cases e
theorem cd_all : CallD F (rAll F.K) allD RV := by
  intro S H0 H ds d vs Q mt hn r e kk
  unfold allD at e
  split at e
  · rename_i l
    obtain ⟨v, rfl, r1⟩ := pir1 r
    obtain ⟨a, vs, rfl, q, rs⟩ := r1.lst
    cases g : allBl l with
    | none => rw [g] at e; cases e
    | some bs =>
      rw [g] at e; cases e
      exact ⟨a, bs, rfl, by rw [← reps_bls rs g]; exact SqL.of q, kk _ H (Same.refl _) rep_b⟩
  · cases e
theorem cd_any : CallD F (rAny F.K) anyD RV := by
  intro S H0 H ds d vs Q mt hn r e kk
  unfold anyD at e
  split at e
  · rename_i l
    obtain ⟨v, rfl, r1⟩ := pir1 r
    obtain ⟨a, vs, rfl, q, rs⟩ := r1.lst
    cases g : allBl l with
    | none => rw [g] at e; cases e
    | some bs =>
      rw [g] at e; cases e
      exact ⟨a, bs, rfl, by rw [← reps_bls rs g]; exact SqL.of q, kk _ H (Same.refl _) rep_b⟩
  · cases e
end
section
variable {X : Cx} {F : Fr} {k : Nat} {a b e : Expr} {fa fb f : SEnv → M D} {fs : SEnv → M (List D)} {es : List Expr} {pos : Pos} {p : Pos}
theorem ev_len (o : On X F k) (hm : F.mg "len" = none) (hg : Gl X "len") (ha : EA true X F [a] fs) (h1 : starEach [a] X.env = (false, eval a X.env) :: starEach [] X.env := by rfl) : EV X F (.Call (.Name "len" p) [a] [] pos) (eCall lenD fs) :=
  ev_callB call_len (by rw [o.K]; exact cd_len) hg (by rw [o.mg]; exact hm) PySem.boot_len ha (he := h1)
theorem ev_abs (o : On X F k) (hm : F.mg "abs" = none) (hg : Gl X "abs") (ha : EA true X F [a] fs) (h1 : starEach [a] X.env = (false, eval a X.env) :: starEach [] X.env := by rfl) : EV X F (.Call (.Name "abs" p) [a] [] pos) (eCall absD fs) :=
  ev_callB call_abs cd_abs hg (by rw [o.mg]; exact hm) (by decide +kernel) ha (he := h1)
theorem ev_int1 (o : On X F k) (hm : F.mg "int" = none) (hg : Gl X "int") (ha : EA true X F [a] fs) (h1 : starEach [a] X.env = (false, eval a X.env) :: starEach [] X.env := by rfl) : EV X F (.Call (.Name "int" p) [a] [] pos) (eCall intD fs) :=
  ev_callTy call_int1 cd_int hg (by rw [o.mg]; exact hm) (by decide +kernel) ha (he := h1)
theorem ev_tuple (o : On X F k) (hm : F.mg "tuple" = none) (hg : Gl X "tuple") (ha : EA true X F [a] fs) (h1 : starEach [a] X.env = (false, eval a X.env) :: starEach [] X.env := by rfl) : EV X F (.Call (.Name "tuple" p) [a] [] pos) (eCall tupleD fs) :=
  ev_callTy call_tuple_of (by rw [o.K]; exact cd_tuple) hg (by rw [o.mg]; exact hm) (by decide +kernel) ha (he := h1)
theorem ev_list (o : On X F k) (hm : F.mg "list" = none) (hg : Gl X "list") (ha : EA true X F [a] fs) (h1 : starEach [a] X.env = (false, eval a X.env) :: starEach [] X.env := by rfl) : EVN X F (.Call (.Name "list" p) [a] [] pos) (eCall listD fs) :=
  ev_callTy call_list_of (by rw [o.K]; exact cd_list) hg (by rw [o.mg]; exact hm) (by decide +kernel) ha (he := h1)
theorem ev_all (o : On X F k) (hm : F.mg "all" = none) (hg : Gl X "all") (ha : EA true X F [a] fs) (h1 : starEach [a] X.env = (false, eval a X.env) :: starEach [] X.env := by rfl) : EV X F (.Call (.Name "all" p) [a] [] pos) (eCall allD fs) :=
  ev_callB (cr_all o.calm) (by rw [o.K]; exact cd_all) hg (by rw [o.mg]; exact hm) (by decide +kernel) ha (he := h1)
theorem ev_any (o : On X F k) (hm : F.mg "any" = none) (hg : Gl X "any") (ha : EA true X F [a] fs) (h1 : starEach [a] X.env = (false, eval a X.env) :: starEach [] X.env := by rfl) : EV X F (.Call (.Name "any" p) [a] [] pos) (eCall anyD fs) :=
  ev_callB (cr_any o.calm) (by rw [o.K]; exact cd_any) hg (by rw [o.mg]; exact hm) (by decide +kernel) ha (he := h1)
theorem ev_max2 (o : On X F k) (hm : F.mg "max" = none) (hg : Gl X "max") (ha : EA true X F [a, b] fs) (h1 : starEach [a, b] X.env = (false, eval a X.env) :: starEach [b] X.env := by rfl) (h2 : (backTo pos (starEach [b] X.env)).any (·.1) = false := by rfl) : EV X F (.Call (.Name "max" p) [a, b] [] pos) (eCall max2D fs) :=
  ev_callB (call_max2 o.calm) cd_max2 hg (by rw [o.mg]; exact hm) (by decide +kernel) ha (he := h1) (hpl := h2)
theorem ev_min2 (o : On X F k) (hm : F.mg "min" = none) (hg : Gl X "min") (ha : EA true X F [a, b] fs) (h1 : starEach [a, b] X.env = (false, eval a X.env) :: starEach [b] X.env := by rfl) (h2 : (backTo pos (starEach [b] X.env)).any (·.1) = false := by rfl) : EV X F (.Call (.Name "min" p) [a, b] [] pos) (eCall min2D fs) :=
  ev_callB (call_min2 o.calm) cd_min2 hg (by rw [o.mg]; exact hm) (by decide +kernel) ha (he := h1) (hpl := h2)
end
end PL

set_option Elab.async false
set_option linter.all false
set_option maxRecDepth 100000
set_option maxHeartbeats 4000000
/-! PL6: subscripts, slices, fields, isinstance, chains. -/
namespace PL
open PySem L2
variable [TabL]

/-! ### subscripts -/
def ixD : D → D → Option D
  | .tup l, .int i => atI l i
  | .lst l, .int i => atI l i
  | .str x, .int i => if x.length ≤ sizeLine then (atI x.cps.toList i).map fun c => .str ⟨#[c]⟩ else none
  | _, _ => none
section
variable {X : Cx} {F : Fr} {k : Nat} {a b e : Expr} {fa fb f : SEnv → M D} {pos : Pos}
theorem reps_at {W : Wd} {S : Addr → Prop} {H : Hp} {l : List D} {vs : List V} {i : Int} {d : D} (r : Reps W S H l vs) (e : atI l i = some d) : ∃ v, atI vs i = some v ∧ Rep W S H d v := by
  unfold atI at e ⊢
  rw [← r.length]
  cases g : ixN l.length i with
  | none => rw [g] at e; cases e
  | some j => rw [g] at e; exact r.get e
theorem opd_ix : OpD F (fun x y H Q => rIxL F.K x y H Q ∨ rIxT F.K x y H Q ∨ rIxS x y H Q) ixD RV := by
  intro S H0 H d1 d2 d v1 v2 Q mt hk hn r1 r2 e kk
  cases d1 <;> cases d2 <;> try cases e
  · rename_i x i
    obtain ⟨hl, e⟩ : x.length ≤ sizeLine ∧ (atI x.cps.toList i).map (fun c => D.str ⟨#[c]⟩) = some d := by
      have e : (if x.length ≤ sizeLine then (atI x.cps.toList i).map (fun c => D.str ⟨#[c]⟩) else none) = some d := e
      split at e
      · exact ⟨by assumption, e⟩
      · cases e
    cases g : atI x.cps.toList i with
    | none => rw [g] at e; cases e
    | some c =>
      rw [g] at e; cases e
      rw [r1.str, r2.int]
      exact .inr (.inr ⟨x, i, c, rfl, rfl, hl, g, kk _ H (Same.refl _) rep_s⟩)
  · rename_i l i
    obtain ⟨p, vs, rfl, q, rs⟩ := r1.tup
    obtain ⟨v, e2, r⟩ := reps_at rs (show atI l i = some d from e)
    rw [r2.int]
    exact .inr (.inl ⟨p, vs, i, v, rfl, rfl, q, e2, kk _ H (Same.refl _) r⟩)
  · rename_i l i
    obtain ⟨p, vs, rfl, q, rs⟩ := r1.lst
    obtain ⟨v, e2, r⟩ := reps_at rs (show atI l i = some d from e)
    rw [r2.int]
    exact .inl ⟨p, vs, i, v, rfl, rfl, SqL.of q, e2, kk _ H (Same.refl _) r⟩
theorem ev_ix (o : On X F k) (ha : EVB X F a fa) (hb : EVB X F b fb) (hp : PlainIx b := by exact fun _ _ => rfl) : EV X F (.Subscript a b pos) (eOp ixD fa fb) :=
  PE.weak (pe_ix ix_seq ha hb hp) fun _ _ _ q => tX_op (by unfold rIx; rw [o.K]; exact opd_ix) q

/-! ### slices -/
def cutL (l : List D) (lo hi : Option Int) : List D := (l.drop (HT.sIx l.length 0 lo)).take (HT.sIx l.length l.length hi - HT.sIx l.length 0 lo)
def slT (d : D) (lo hi : Option Int) : Option D := match d with
  | .tup l => some (.tup (cutL l lo hi))
  | .str x => if x.length ≤ sizeLine then some (.str (cutS x lo hi)) else none
  | _ => none
def slL (d : D) (lo hi : Option Int) : Option D := match d with
  | .lst l => some (.lst (cutL l lo hi))
  | _ => none
def intOf : D → Option Int
  | .int i => some i
  | _ => none
def ePart0 : SEnv → M (Option Int) := fun _ => pure none
def ePart (f : SEnv → M D) : SEnv → M (Option Int) := fun Γ => do let d ← f Γ; let i ← ofOpt (intOf d); pure (some i)
def eSl (g : D → Option Int → Option Int → Option D) (f : SEnv → M D) (fl fh : SEnv → M (Option Int)) : SEnv → M D := fun Γ => do let d ← f Γ; let lo ← fl Γ; let hi ← fh Γ; ofOpt (g d lo hi)
def tO (F : Fr) (f : SEnv → M (Option Int)) : TO := fun σ H Q => ∃ S Γ p, ES F S Γ p σ H ∧ OutOk F (f Γ p) fun o p' => ∀ H', Ext F H H' → PotOk F H' p' → Q o H'
abbrev EO (X : Cx) (F : Fr) (e : Option Expr) (f : SEnv → M (Option Int)) : Prop := PO X e (tO F f)
theorem PO.weak {X : Cx} {e : Option Expr} {t t' : TO} (h : PO X e t) (hw : ∀ σ H Q, t' σ H Q → t σ H Q) : PO X e t' := ⟨fun pins s σ H Q I q => h.run pins s σ H Q I (hw σ H Q q)⟩
theorem eo_none : EO X F none ePart0 := PO.weak po_none fun σ H Q q => by
  obtain ⟨S, Γ, p, es, o⟩ := q
  exact o H .refl es.pot
theorem eo_some (h : EVB X F e f) : EO X F (some e) (ePart f) := PO.weak (po_some h) fun σ H Q q => by
  obtain ⟨S, Γ, p, es, q⟩ := q
  refine ⟨S, Γ, p, es, (OutOk.bind.mp q).imp fun d p1 q v H1 e1 q1 r1 => ?_⟩
  obtain ⟨i, e2, q⟩ := out_opt.mp (OutOk.bind.mp q)
  cases d <;> try cases e2
  exact ⟨_, RepT.int r1, q H1 e1 q1⟩
def SlD (F : Fr) (r : V → Option Int → Option Int → Hp → VK → Prop) (g : D → Option Int → Option Int → Option D) (R : RR) : Prop := ∀ (S : Addr → Prop) (H0 H : Hp) (d1 d : D) (lo hi : Option Int) (v1 : V) (Q : VK), (∀ a, S a → Mut (H a)) → (∀ a, H a = none → H0 a = none) → RepT F S H d1 v1 → g d1 lo hi = some d →
  (∀ v H', Same H H' → R F S H0 H' d v → Q v H') → r v1 lo hi H Q
theorem ev_sl {r : V → Option Int → Option Int → Hp → VK → Prop} {g : D → Option Int → Option Int → Option D} {R : RR} {lo hi : Option Expr} {fl fh : SEnv → M (Option Int)} {p2 : Pos} (hr : SlR X r) (hd : SlD F r g R) (ha : EVB X F e f) (hl : EO X F lo fl) (hh : EO X F hi fh) :
    EXP R X F (.Subscript e (.Slice lo hi none p2) pos) (eSl g f fl fh) := PE.weak (pe_slice hr ha hl hh) fun σ H Q q => by
  obtain ⟨S, Γ, p, es, q⟩ := q
  refine ⟨S, Γ, p, es, (OutOk.bind.mp q).imp fun d1 p1 q v1 H1 e1 q1 r1 => ?_⟩
  have es1 := es.ext e1 q1
  refine ⟨S, Γ, p1, es1, (OutOk.bind.mp q).imp fun lo p2 q H2 e2 q2 => ?_⟩
  have es2 := es1.ext e2 q2
  refine ⟨S, Γ, p2, es2, (OutOk.bind.mp q).imp fun hi p3 q H3 e3 q3 => ?_⟩
  have es3 := es2.ext e3 q3
  obtain ⟨d, e4, q⟩ := out_opt.mp q
  have e13 := (e1.trans e2).trans e3
  exact hd S H H3 d1 d lo hi v1 Q es3.mt (es.sub e13 q3) (r1.ext es1 (e2.trans e3)) e4 fun v H' s r => q v H' (e13.trans (.of s)) (q3.same s) r
theorem reps_cut {W : Wd} {S : Addr → Prop} {H : Hp} {l : List D} {vs : List V} (lo hi : Option Int) (r : Reps W S H l vs) : Reps W S H (cutL l lo hi) (cutV vs lo hi) := by
  unfold cutL cutV
  rw [r.length]
  exact (r.drop _).take _
theorem sld_T : SlD F (fun x lo hi H Q => rSlA F.K x lo hi H Q ∨ rSlS x lo hi H Q) slT RV := by
  intro S H0 H d1 d lo hi v1 Q mt hn r1 e kk
  unfold slT at e
  split at e
  · rename_i l
    obtain ⟨p, vs, rfl, q, rs⟩ := r1.tup
    cases e
    refine .inl ⟨p, vs, rfl, q, fun hw => ?_, fun _ w hw => kk _ _ (upd_Same hw) (new_tup mt (reps_cut lo hi rs) hw)⟩
    have ew : cutL l lo hi = l := by
      unfold cutL
      rw [rs.length, hw.1, hw.2, List.drop_zero, Nat.sub_zero, ← rs.length, List.take_length]
    rw [ew] at kk
    refine kk _ H (Same.refl _) ?_
    show Rep _ _ _ (.tup l) _
    unfold Rep; exact ⟨p, vs, rfl, q, rs⟩
  · obtain ⟨hl, rfl⟩ := ite_sm e
    exact .inr ⟨_, r1.str, hl, kk _ H (Same.refl _) rep_s⟩
  · cases e
theorem SlR.or {r r' : V → Option Int → Option Int → Hp → VK → Prop} (h : SlR X r) (h' : SlR X r') : SlR X (fun x lo hi H Q => r x lo hi H Q ∨ r' x lo hi H Q) :=
  fun pins s σ H x v vl vu lo hi sl Q I rx hs pl pu q => q.elim (fun q => h pins s σ H x v vl vu lo hi sl Q I rx hs pl pu q) fun q => h' pins s σ H x v vl vu lo hi sl Q I rx hs pl pu q
theorem sld_L : SlD F (rSlL F.K) slL RN := by
  intro S H0 H d1 d lo hi v1 Q mt hn r1 e kk
  unfold slL at e
  split at e
  · obtain ⟨p, vs, rfl, q, rs⟩ := r1.lst
    cases e
    exact ⟨p, vs, rfl, SqL.of q, fun w hw => kk _ _ (upd_Same hw) (new_lst mt hn (reps_cut lo hi rs) hw)⟩
  · cases e
theorem ev_slT {lo hi : Option Expr} {fl fh : SEnv → M (Option Int)} {p2 : Pos} (o : On X F k) (ha : EVB X F e f) (hl : EO X F lo fl) (hh : EO X F hi fh) : EV X F (.Subscript e (.Slice lo hi none p2) pos) (eSl slT f fl fh) :=
  ev_sl (sl_tupA.or sl_str) (by rw [o.K]; exact sld_T) ha hl hh
theorem ev_slL {lo hi : Option Expr} {fl fh : SEnv → M (Option Int)} {p2 : Pos} (o : On X F k) (ha : EVB X F e f) (hl : EO X F lo fl) (hh : EO X F hi fh) : EVN X F (.Subscript e (.Slice lo hi none p2) pos) (eSl slL f fl fh) :=
  ev_sl sl_list (by rw [o.K]; exact sld_L) ha hl hh

/-! ### chains: a < b < c -/
def eChain (g g' : D → D → Option D) (fa fb fc : SEnv → M D) : SEnv → M D := fun Γ => do
  let a ← fa Γ; let b ← fb Γ; let r ← ofOpt (g a b)
  match r with
  | .bl true => do let c ← fc Γ; ofOpt (g' b c)
  | .bl false => pure (.bl false)
  | _ => M.bad
theorem ev_chain {op op' : CmpOp} {r r' : R2} {g g' : D → D → Option D} {c : Expr} {fc : SEnv → M D} (ho : OpR X (compareOp op) r) (ho' : OpR X (compareOp op') r') (hd : OpD F r g RV) (hd' : OpD F r' g' RV) (ha : EVB X F a fa) (hb : EVB X F b fb) (hc : EVB X F c fc)
    (hm : lastMarks [op, op'] [b, c] = false := by with_unfolding_all rfl) : EV X F (.Compare a [op, op'] [b, c] pos) (eChain g g' fa fb fc) :=
  PE.weak (pe_chain ho ho' ha hb hc hm) fun σ H Q q => by
    obtain ⟨S, Γ, p, es, q⟩ := q
    refine ⟨S, Γ, p, es, (OutOk.bind.mp q).imp fun d1 p1 q v1 H1 e1 q1 r1 => ?_⟩
    have es1 := es.ext e1 q1
    refine ⟨S, Γ, p1, es1, (OutOk.bind.mp q).imp fun d2 p2 q v2 H2 e2 q2 r2 => ?_⟩
    have es2 := es1.ext e2 q2
    obtain ⟨d, e3, q⟩ := out_opt.mp (OutOk.bind.mp q)
    refine hd S H H2 d1 d2 d v1 v2 _ es2.mt (e1.trans e2) (es.sub (e1.trans e2) q2) (r1.ext es1 e2) r2 e3 fun v H3 s3 r3 => ?_
    cases d with
    | bl kk =>
      have rv : v = .bl kk := r3.b.bl
      refine ⟨kk, rv, ?_⟩
      have es3 := es2.ext (.of s3) (q2.same s3)
      cases kk with
      | true =>
        refine iteT ⟨S, Γ, p2, es3, OutOk.imp (OutOk.bind.mp (show OutOk F ((fc Γ >>= fun c => ofOpt (g' d2 c)) p2) _ from q)) fun d3 p3 q v3 H4 e4 q4 r4 => ?_⟩
        obtain ⟨d', e5, q⟩ := out_opt.mp q
        have es4 := es3.ext e4 q4
        have e14 := (e1.trans e2).trans ((Ext.of s3).trans e4)
        exact hd' S H H4 d2 d3 d' v2 v3 _ es4.mt e14 (es.sub e14 q4) ((r2.ext es2 (.of s3)).ext es3 e4) r4 e5 fun v H' s r => q v H' (e14.trans (.of s)) (q4.same s) r
      | false =>
        have e13 := (e1.trans e2).trans (Ext.of s3)
        refine iteF ?_
        exact (show ∀ v H', Ext F H H' → PotOk F H' p2 → RV F S H H' (.bl false) v → Q v H' from q) _ H3 e13 (q2.same s3) rep_b
    | _ => exact q.elim
theorem ev_leLe {c : Expr} {fc : SEnv → M D} (ha : EVB X F a fa) (hb : EVB X F b fb) (hc : EVB X F c fc) (hm : lastMarks [.LtE, .LtE] [b, c] = false := by with_unfolding_all rfl) : EV X F (.Compare a [.LtE, .LtE] [b, c] pos) (eChain leD leD fa fb fc) := ev_chain op_le op_le (opd_cmp _) (opd_cmp _) ha hb hc hm

/-! ### fields -/
def fldD (c f : Str) : D → Option D
  | .ins c' ns ds => if c' = c then (ns.zip ds).lookup f else none
  | _ => none
def eUn (g : D → Option D) (f : SEnv → M D) : SEnv → M D := fun Γ => do let d ← f Γ; ofOpt (g d)
theorem look_fs {W : Wd} {S : Addr → Prop} {H : Hp} {f : Str} {d : D} : ∀ {fs : List (Str × V)} {ds : List D}, Reps W S H ds (fs.map (·.2)) → ((fs.map (·.1)).zip ds).lookup f = some d → ∃ v, fs.lookup f = some v ∧ Rep W S H d v
  | [], _, _, e => by simp at e
  | (n, v) :: fs, [], r, e => by simp at e
  | (n, v) :: fs, d' :: ds, r, e => by
    rw [List.map_cons] at r
    unfold Reps at r
    obtain ⟨v', r', e1, h1, h2⟩ := r
    obtain ⟨rfl, rfl⟩ := List.cons.inj e1
    rw [List.map_cons, List.zip_cons_cons, List.lookup_cons] at e
    rw [List.lookup_cons]
    cases g : f == n with
    | true => rw [g] at e; cases e; exact ⟨v, rfl, h1⟩
    | false => rw [g] at e; exact look_fs h2 e
theorem ev_fld {c f : Str} {C : Addr} (o : On X F k) (hm : F.mg c = some (.ref C)) (cl : Cls F.K C) (na : NoAttr F.K C f) (ha : EVB X F a fa) (hb : attributeBase a f X.env (eval a X.env) = eval a X.env := by rfl) : EV X F (.Attribute a f pos) (eUn (fldD c f) fa) :=
  PE.weak (pe_fld ha hb) fun σ H Q q => by
    obtain ⟨S, Γ, p, es, q⟩ := q
    refine ⟨S, Γ, p, es, (OutOk.bind.mp q).imp fun d1 p1 q v1 H1 e1 q1 r1 => ?_⟩
    obtain ⟨d, e2, q2⟩ := out_opt.mp q
    cases d1 <;> try cases e2
    rename_i c' ns ds
    have e9 : (if c' = c then (ns.zip ds).lookup f else none) = some d := e2
    split at e9
    · rename_i ec
      subst ec
      obtain ⟨ad, C', dx, fs, rfl, m, h, en, rs⟩ := RepT.ins r1
      rw [hm] at m
      cases m
      subst en
      obtain ⟨v, e3, r⟩ := look_fs rs e9
      exact ⟨ad, C, dx, fs, v, rfl, h, by rw [o.K]; exact cl, by rw [o.K]; exact na, e3, q2 v H1 e1 q1 r⟩
    · cases e9
end
end PL

set_option Elab.async false
set_option linter.all false
set_option maxRecDepth 100000
set_option maxHeartbeats 4000000
/-! PL7: statements. -/
namespace PL
open PySem L2
variable [TabL]

inductive Fl where
  | nx | rt (d : D) | bk | ct
abbrev DS := SEnv → M (Fl × SEnv)
def Owned (Γ : SEnv) (σ : St) (a : Addr) : Prop := ∃ (i : Nat) (d : D), Γ[i]? = some (Sl.own d) ∧ σ[i]? = some (some (V.ref a))
def Sof (F : Fr) (Γ : SEnv) (σ : St) (a : Addr) : Prop := F.S0 a ∨ Owned Γ σ a ∨ F.pa = some a
structure StOk (F : Fr) (Γ : SEnv) (p : Pot) (σ : St) (H : Hp) : Prop where
  es : ES F (Sof F Γ σ) Γ p σ H
  fresh : ∀ a, Owned Γ σ a → F.H0 a = none ∨ F.self = some a
  inj : ∀ (i j : Nat) (d d' : D) (a : Addr), Γ[i]? = some (Sl.own d) → Γ[j]? = some (Sl.own d') → σ[i]? = some (some (V.ref a)) → σ[j]? = some (some (V.ref a)) → i = j
  nS0 : ∀ a, Owned Γ σ a → ¬ F.S0 a
  cz : ∀ a, F.pa = some a → F.H0 F.ca ≠ none ∧ F.self ≠ some F.ca
structure Kp (F : Fr) (Γ : SEnv) (σ : St) (H : Hp) (Γ' : SEnv) (σ' : St) (H' : Hp) : Prop where
  keep : Kept (fun a => Owned Γ σ a ∨ F.pa = some a) H H'
  ownd : ∀ a, Owned Γ' σ' a → Owned Γ σ a ∨ H a = none
  dom : ∀ a, H' a = none → H a = none
section
variable {F : Fr} {Γ Γ' Γ1 : SEnv} {p p' : Pot} {σ σ' σ1 : St} {H H' H1 : Hp}
theorem Kp.refl : Kp F Γ σ H Γ σ H := ⟨Kept.refl, fun _ h => .inl h, fun _ h => h⟩
theorem Kp.trans (a : Kp F Γ σ H Γ1 σ1 H1) (b : Kp F Γ1 σ1 H1 Γ' σ' H') : Kp F Γ σ H Γ' σ' H' := by
  refine ⟨a.keep.trans2 b.keep fun c o h w => ?_, fun c w => ?_, fun c h => a.dom c (b.dom c h)⟩
  · rcases w with w | w
    · rcases a.ownd c w with q | q
      · exact .inl q
      · rw [h] at q; cases q
    · exact .inr w
  · rcases b.ownd c w with q | q
    · exact a.ownd c q
    · exact .inr (a.dom c q)
theorem StOk.ext (s : StOk F Γ p σ H) (e : Ext F H H') (q : PotOk F H' p') : StOk F Γ p' σ H' := ⟨s.es.ext e q, s.fresh, s.inj, s.nS0, s.cz⟩
theorem Kp.ext (s : StOk F Γ p σ H) (e : Ext F H H') (q : PotOk F H' p') : Kp F Γ σ H Γ σ H' := ⟨e.imp fun _ _ _ z => .inr z, fun _ h => .inl h, s.es.sub e q⟩
/-- what does not name an owned thing goes on -/
theorem Kp.goes (k : Kp F Γ σ H Γ' σ' H') (s : StOk F Γ p σ H) : Goes (Sof F Γ σ) (Sof F Γ' σ') H H' := by
  refine ⟨fun a o h n nt => k.keep.get a o h (fun w => w.elim (fun w => n (.inr (.inl w))) fun w => n (.inr (.inr w))) nt, fun a w => ?_, s.es.mt⟩
  rcases w with w | w | w
  · exact .inl (.inl w)
  · rcases k.ownd a w with q | q
    · exact .inl (.inr (.inl q))
    · exact .inr q
  · exact .inl (.inr (.inr w))
theorem StOk.fresh0 (s : StOk F Γ p σ H) {a : Addr} (h : H a = none) : F.H0 a = none ∨ F.self = some a := by
  by_cases hs : F.self = some a
  · exact .inr hs
  · refine .inl (s.es.same.none (fun x => ?_) h)
    rcases x with hp | x
    · have m := s.es.mt a (.inr (.inr hp))
      rw [h] at m; exact m.elim
    · exact absurd x hs
end

def tS (F : Fr) (f : DS) : TS := fun Dn σ H => ∃ Γ p, StOk F Γ p σ H ∧ OutOk F (f Γ p) fun r p' => match r.1 with
  | .nx => ∀ σ' H', Kp F Γ σ H r.2 σ' H' → StOk F r.2 p' σ' H' → Dn.nx σ' H'
  | .bk => ∀ σ' H', Kp F Γ σ H r.2 σ' H' → StOk F r.2 p' σ' H' → Dn.bk σ' H'
  | .ct => ∀ σ' H', Kp F Γ σ H r.2 σ' H' → StOk F r.2 p' σ' H' → Dn.ct σ' H'
  | .rt d => ∀ v H', SameX F H' → PotOk F H' p' → Rep F.toWd F.S0 H' d v → Dn.rt v H'
abbrev ES1 (X : Cx) (F : Fr) (s : Stmt) (f : DS) : Prop := PS X s (tS F f)
abbrev ESs (X : Cx) (F : Fr) (s : List Stmt) (f : DS) : Prop := PSs X s (tS F f)
theorem PS.weak {X : Cx} {e : Stmt} {t t' : TS} (h : PS X e t) (hw : ∀ D σ H, t' D σ H → t D σ H) : PS X e t' := ⟨fun pins s σ H D I q => h.run pins s σ H D I (hw D σ H q)⟩
theorem PSs.weak {X : Cx} {e : List Stmt} {t t' : TS} (h : PSs X e t) (hw : ∀ D σ H, t' D σ H → t D σ H) : PSs X e t' := ⟨fun pins s σ H D I q => h.run pins s σ H D I (hw D σ H q)⟩

def sSkip : DS := fun Γ => pure (.nx, Γ)
def sSeq (f g : DS) : DS := fun Γ => do
  let r ← f Γ
  match r.1 with
  | .nx => g r.2
  | x => pure (x, r.2)
def sRet (f : SEnv → M D) : DS := fun Γ => do let d ← f Γ; pure (.rt d, Γ)
def sDrop (f : SEnv → M D) : DS := fun Γ => do let _ ← f Γ; pure (.nx, Γ)
def sIf (c : SEnv → M D) (f g : DS) : DS := fun Γ => do
  match ← c Γ with
  | .bl true => f Γ
  | .bl false => g Γ
  | _ => M.bad
def sBrk : DS := fun Γ => pure (.bk, Γ)
def sCnt : DS := fun Γ => pure (.ct, Γ)
section
variable {X : Cx} {F : Fr} {k : Nat} {e : Expr} {s : Stmt} {rest : List Stmt} {f fc : SEnv → M D} {g h : DS} {pos : Pos}
theorem es_nil : ESs X F [] sSkip := PSs.weak pss_nil fun D σ H q => by
  obtain ⟨Γ, p, st, q⟩ := q
  exact (show ∀ σ' H', Kp F Γ σ H Γ σ' H' → StOk F Γ p σ' H' → D.nx σ' H' from q) _ _ .refl st
theorem es_pass : ES1 X F (.Pass pos) sSkip := PS.weak ps_pass fun D σ H q => by
  obtain ⟨Γ, p, st, q⟩ := q
  exact (show ∀ σ' H', Kp F Γ σ H Γ σ' H' → StOk F Γ p σ' H' → D.nx σ' H' from q) _ _ .refl st
theorem es_break : ES1 X F (.Break pos) sBrk := PS.weak ps_break fun D σ H q => by
  obtain ⟨Γ, p, st, q⟩ := q
  exact (show ∀ σ' H', Kp F Γ σ H Γ σ' H' → StOk F Γ p σ' H' → D.bk σ' H' from q) _ _ .refl st
theorem es_continue : ES1 X F (.Continue pos) sCnt := PS.weak ps_continue fun D σ H q => by
  obtain ⟨Γ, p, st, q⟩ := q
  exact (show ∀ σ' H', Kp F Γ σ H Γ σ' H' → StOk F Γ p σ' H' → D.ct σ' H' from q) _ _ .refl st
/-- the wants behind, from a state that was reached -/
theorem tS_kp {D : Ends} {Γ Γ1 : SEnv} {σ σ1 : St} {H H1 : Hp} {p1 : Pot} (kp : Kp F Γ σ H Γ1 σ1 H1) (st : StOk F Γ1 p1 σ1 H1) (q : OutOk F (g Γ1 p1) fun r p' => match r.1 with
  | .nx => ∀ σ' H', Kp F Γ σ H r.2 σ' H' → StOk F r.2 p' σ' H' → D.nx σ' H'
  | .bk => ∀ σ' H', Kp F Γ σ H r.2 σ' H' → StOk F r.2 p' σ' H' → D.bk σ' H'
  | .ct => ∀ σ' H', Kp F Γ σ H r.2 σ' H' → StOk F r.2 p' σ' H' → D.ct σ' H'
  | .rt d => ∀ v H', SameX F H' → PotOk F H' p' → Rep F.toWd F.S0 H' d v → D.rt v H') : tS F g D σ1 H1 := by
  refine ⟨Γ1, p1, st, q.imp fun r p' q => ?_⟩
  obtain ⟨fl, Γ2⟩ := r
  cases fl with
  | nx => exact fun σ' H' k s => q σ' H' (kp.trans k) s
  | bk => exact fun σ' H' k s => q σ' H' (kp.trans k) s
  | ct => exact fun σ' H' k s => q σ' H' (kp.trans k) s
  | rt d => exact q
theorem es_cons (h1 : ES1 X F s g) (h2 : ESs X F rest h) : ESs X F (s :: rest) (sSeq g h) := PSs.weak (pss_cons h1 h2) fun D σ H q => by
  obtain ⟨Γ, p, st, q⟩ := q
  refine ⟨Γ, p, st, (OutOk.bind.mp q).imp fun r p1 q => ?_⟩
  obtain ⟨fl, Γ1⟩ := r
  cases fl with
  | nx => exact fun σ1 H1 kp st1 => tS_kp kp st1 q
  | bk => exact q
  | ct => exact q
  | rt d => exact q
theorem es_one (h1 : ES1 X F s g) : ESs X F [s] g := pss_one h1
theorem es_retG {R : RR} (hR : R = RV) (h : EXP R X F e f) : ES1 X F (.Return (some e) pos) (sRet f) := PS.weak (ps_ret h) fun D σ H q => by
  subst hR
  obtain ⟨Γ, p, st, q⟩ := q
  refine ⟨_, Γ, p, st.es, (OutOk.bind.mp q).imp fun d p1 q v H1 e1 q1 r1 => ?_⟩
  have g : Goes (Sof F Γ σ) F.S0 H1 H1 := ⟨fun _ _ h _ _ => h, fun a s => .inl (.inl s), (st.es.ext e1 q1).mt⟩
  exact (show ∀ v H', SameX F H' → PotOk F H' p1 → Rep F.toWd F.S0 H' d v → D.rt v H' from q) v H1 (st.es.same.ext e1) q1 (Rep.goes g _ _ r1)
theorem es_ret (h : EV X F e f) : ES1 X F (.Return (some e) pos) (sRet f) := es_retG rfl h
theorem es_retN : ES1 X F (.Return none pos) (sRet (eC .non)) := PS.weak ps_retN fun D σ H q => by
  obtain ⟨Γ, p, st, q⟩ := q
  exact (show ∀ v H', SameX F H' → PotOk F H' p → Rep F.toWd F.S0 H' .non v → D.rt v H' from q) _ H st.es.same st.es.pot rep_n
theorem es_drop (he : EVB X F e f) (hs : swapsWith e none pos.line X.env = pure false := by rfl) : ES1 X F (.Expr e pos) (sDrop f) := PS.weak (ps_expr he hs) fun D σ H q => by
  obtain ⟨Γ, p, st, q⟩ := q
  refine ⟨_, Γ, p, st.es, (OutOk.bind.mp q).imp fun d p1 q v H1 e1 q1 r1 => ?_⟩
  exact (show ∀ σ' H', Kp F Γ σ H Γ σ' H' → StOk F Γ p1 σ' H' → D.nx σ' H' from q) _ _ (.ext st e1 q1) (st.ext e1 q1)
theorem ifS_bl (d : D) (Γ : SEnv) (p : Pot) (K : Fl × SEnv → Pot → Prop) (q : OutOk F ((match d with
  | .bl true => g Γ
  | .bl false => h Γ
  | _ => M.bad : M (Fl × SEnv)) p) K) : ∃ b, d = .bl b := by
  cases d <;> first | exact ⟨_, rfl⟩ | exact q.elim
theorem es_if {c : Expr} {a b : List Stmt} (hc : ET X F c fc) (ha : ESs X F a g) (hb : ESs X F b h) : ES1 X F (.If c a b pos) (sIf fc g h) := PS.weak (ps_if hc ha hb) fun D σ H q => by
  obtain ⟨Γ, p, st, q⟩ := q
  refine ⟨_, Γ, p, st.es, (OutOk.bind.mp q).imp fun d p1 q => ?_⟩
  obtain ⟨b, rfl⟩ := ifS_bl d Γ p1 _ q
  refine ⟨b, rfl, fun H1 e1 q1 => ?_⟩
  cases b with
  | true => exact iteT (tS_kp (.ext st e1 q1) (st.ext e1 q1) q)
  | false => exact iteF (tS_kp (.ext st e1 q1) (st.ext e1 q1) q)

/-! ### names are given values -/
theorem owned_set {Γ : SEnv} {σ : St} {i : Nat} {d : D} {v : V} {a : Addr} (w : Owned (Γ.set i (.val d)) (σ.set i (some v)) a) : Owned Γ σ a := by
  obtain ⟨j, d', h1, h2⟩ := w
  by_cases hj : j = i
  · subst hj
    by_cases hl : j < Γ.length
    · rw [List.getElem?_set_self hl] at h1; cases h1
    · rw [List.getElem?_eq_none (by simpa using hl)] at h1; cases h1
  · rw [List.getElem?_set_ne (Ne.symm hj)] at h1 h2
    exact ⟨j, d', h1, h2⟩
theorem StOk.set {Γ : SEnv} {p : Pot} {σ : St} {H : Hp} {i : Nat} {d : D} {v : V} (s : StOk F Γ p σ H) (r : Rep F.toWd (Sof F Γ σ) H d v) : StOk F (Γ.set i (.val d)) p (σ.set i (some v)) H := by
  have sub : ∀ a, Sof F (Γ.set i (.val d)) (σ.set i (some v)) a → Sof F Γ σ a := fun a w => by
    rcases w with w | w | w
    · exact .inl w
    · exact .inr (.inl (owned_set w))
    · exact .inr (.inr w)
  have g : Goes (Sof F Γ σ) (Sof F (Γ.set i (.val d)) (σ.set i (some v))) H H := ⟨fun _ _ h _ _ => h, fun a w => .inl (sub a w), s.es.mt⟩
  refine ⟨⟨fun j t h => ?_, s.es.pot, fun a w => s.es.mt a (sub a w), fun a h => .inr (.inr h), fun a h => .inl h, s.es.same⟩, fun a w => s.fresh a (owned_set w), fun j l d1 d2 a h1 h2 h3 h4 => ?_, fun a w => s.nS0 a (owned_set w), s.cz⟩
  · by_cases hj : j = i
    · subst hj
      by_cases hl : j < Γ.length
      · rw [List.getElem?_set_self hl] at h
        cases h
        obtain ⟨x, e, _⟩ := s.es.env j _ (List.getElem?_eq_getElem hl)
        have hσ : j < σ.length := (List.getElem?_eq_some_iff.mp e).1
        exact ⟨some v, List.getElem?_set_self hσ, v, rfl, Rep.goes g _ _ r⟩
      · rw [List.getElem?_eq_none (by simpa using hl)] at h; cases h
    · rw [List.getElem?_set_ne (Ne.symm hj)] at h
      obtain ⟨x, e, r⟩ := s.es.env j t h
      refine ⟨x, by rw [List.getElem?_set_ne (Ne.symm hj)]; exact e, ?_⟩
      cases t with
      | no => trivial
      | val d' => obtain ⟨v', e1, r⟩ := r; exact ⟨v', e1, Rep.goes g _ _ r⟩
      | own d' =>
        obtain ⟨a, e1, _, np, r⟩ := r
        subst e1
        exact ⟨a, rfl, .inr (.inl ⟨j, d', by rw [List.getElem?_set_ne (Ne.symm hj)]; exact h, by rw [List.getElem?_set_ne (Ne.symm hj)]; exact e⟩), np, r.goes g fun _ h _ => h⟩
      | pot => exact r
      | exc x => exact SlOk.excGoes g r
      | thk q => exact SlOk.thkGoes g r
      | scr ns => exact SlOk.scrGoes g r
  · have ne : ∀ {j : Nat} {d1 : D}, (Γ.set i (.val d))[j]? = some (Sl.own d1) → j ≠ i := fun {j d1} h e => by
      subst e
      by_cases hl : j < Γ.length
      · rw [List.getElem?_set_self hl] at h; cases h
      · rw [List.getElem?_eq_none (by simpa using hl)] at h; cases h
    have n1 := ne h1
    have n2 := ne h2
    rw [List.getElem?_set_ne (Ne.symm n1)] at h1 h3
    rw [List.getElem?_set_ne (Ne.symm n2)] at h2 h4
    exact s.inj _ _ _ _ _ h1 h2 h3 h4
theorem Kp.set {Γ : SEnv} {σ : St} {H : Hp} {i : Nat} {d : D} {v : V} : Kp F Γ σ H (Γ.set i (.val d)) (σ.set i (some v)) H := ⟨Kept.refl, fun _ w => .inl (owned_set w), fun _ h => h⟩
/-- targets -/
def tG (F : Fr) (t : D → SEnv → Option SEnv) : TG := fun v σ H Q => ∃ Γ p d, StOk F Γ p σ H ∧ Rep F.toWd (Sof F Γ σ) H d v ∧ ∃ Γ', t d Γ = some Γ' ∧ ∀ σ', Kp F Γ σ H Γ' σ' H → StOk F Γ' p σ' H → Q σ' H
def tGs (F : Fr) (t : List D → SEnv → Option SEnv) : TGs := fun vs σ H Q => ∃ Γ p ds, StOk F Γ p σ H ∧ Reps F.toWd (Sof F Γ σ) H ds vs ∧ ∃ Γ', t ds Γ = some Γ' ∧ ∀ σ', Kp F Γ σ H Γ' σ' H → StOk F Γ' p σ' H → Q σ' H
theorem PG.weak {X : Cx} {e : Expr} {t t' : TG} (h : PG X e t) (hw : ∀ v σ H Q, t' v σ H Q → t v σ H Q) : PG X e t' := ⟨fun pins s σ H v u Q I r q => h.run pins s σ H v u Q I r (hw v σ H Q q)⟩
theorem PGs.weak {X : Cx} {e : List Expr} {t t' : TGs} (h : PGs X e t) (hw : ∀ v σ H Q, t' v σ H Q → t v σ H Q) : PGs X e t' := ⟨fun pins s σ H v u Q I r q => h.run pins s σ H v u Q I r (hw v σ H Q q)⟩
def gN (i : Nat) : D → SEnv → Option SEnv := fun d Γ => some (Γ.set i (.val d))
def gs0 : List D → SEnv → Option SEnv := fun ds Γ => match ds with
  | [] => some Γ
  | _ => none
def gs1 (t : D → SEnv → Option SEnv) (u : List D → SEnv → Option SEnv) : List D → SEnv → Option SEnv := fun ds Γ => match ds with
  | d :: r => (t d Γ).bind (u r)
  | _ => none
def gT (t : List D → SEnv → Option SEnv) : D → SEnv → Option SEnv := fun d Γ => match d with
  | .tup l => t l Γ
  | _ => none
theorem eg_name {i : Nat} {x : Str} {pos : Pos} (hN : X.N.Nodup) (hi : X.N[i]? = some x := by rfl) (hx : Loc X.env.scope x := by first | exact Or.inl rfl | exact Or.inr rfl) (hf : X.fn x = true ∨ X.env.scope.names.lookup x = some .local := by first | exact .inl rfl | exact .inr rfl) : PG X (.Name x pos) (tG F (gN i)) :=
  PG.weak (pg_name (i := i) hN hi hx hf) fun v σ H Q q => by
    obtain ⟨Γ, p, d, st, r, Γ', e, q⟩ := q
    cases e
    exact q _ .set (st.set r)
theorem egs_nil : PGs X [] (tGs F gs0) := PGs.weak pgs_nil fun vs σ H Q q => by
  obtain ⟨Γ, p, ds, st, r, Γ', e, q⟩ := q
  cases ds with
  | nil =>
    cases e
    unfold Reps at r
    exact ⟨r, q _ .refl st⟩
  | cons d ds => cases e
theorem egs_cons {e : Expr} {es : List Expr} {t : D → SEnv → Option SEnv} {u : List D → SEnv → Option SEnv} (h1 : PG X e (tG F t)) (h2 : PGs X es (tGs F u))
    (ha : (assignEach (e :: es) X.env).map (·.2) = assign e X.env :: (assignEach es X.env).map (·.2) := by rfl) : PGs X (e :: es) (tGs F (gs1 t u)) := PGs.weak (pgs_cons h1 h2 ha) fun vs σ H Q q => by
  obtain ⟨Γ, p, ds, st, r, Γ', e, q⟩ := q
  cases ds with
  | nil => cases e
  | cons d ds =>
    unfold Reps at r
    obtain ⟨v, vs', rfl, r1, r2⟩ := r
    have e : (t d Γ).bind (u ds) = some Γ' := e
    cases g : t d Γ with
    | none => rw [g] at e; cases e
    | some Γ1 =>
      rw [g] at e
      refine ⟨v, vs', rfl, Γ, p, d, st, r1, Γ1, g, fun σ1 kp1 st1 => ?_⟩
      exact ⟨Γ1, p, ds, st1, Reps.goes (kp1.goes st) _ _ r2, Γ', e, fun σ2 kp2 st2 => q σ2 (kp1.trans kp2) st2⟩
theorem reps_len {W : Wd} {S : Addr → Prop} {H : Hp} {l : List D} {vs : List V} (r : Reps W S H l vs) : vs.length = l.length := r.length.symm
theorem eg_tup {es : List Expr} {kk : Nat} {t : List D → SEnv → Option SEnv} {n : Nat} (o : On X F k) (h : PGs X es (tGs F t)) (hl : ∀ ds Γ Γ', t ds Γ = some Γ' → ds.length = n) (hn : (assignEach es X.env).length = n := by rfl)
    (hp : (assignEach es X.env).findIdx? (·.1) = none := by rfl) : PG X (.Tuple es kk pos) (tG F (gT t)) := PG.weak (pg_tup o.calm h hn hp) fun v σ H Q q => by
  obtain ⟨Γ, p, d, st, r, Γ', e, q⟩ := q
  cases d <;> try cases e
  rename_i l
  unfold Rep at r
  obtain ⟨a, vs, rfl, hs, rs⟩ := r
  exact ⟨a, vs, rfl, by rw [o.K]; exact hs, by rw [reps_len rs]; exact hl l Γ Γ' e, Γ, p, l, st, rs, Γ', e, q⟩
def sAsg (t : D → SEnv → Option SEnv) (f : SEnv → M D) : DS := fun Γ => do let d ← f Γ; let Γ' ← ofOpt (t d Γ); pure (.nx, Γ')
theorem es_asg {tg : Expr} {t : D → SEnv → Option SEnv} (he : EV X F e f) (hg : PG X tg (tG F t)) (hs : swapsWithSole [tg] e pos.line X.env = pure false := by rfl) (hw : swappedStores [tg] e X.env = pure none := by rfl) (h1 : (assignEach [tg] X.env).map (·.2) = [assign tg X.env] := by rfl) : ES1 X F (.Assign [tg] e pos) (sAsg t f) :=
  PS.weak (ps_asg he hg hs hw h1) fun D σ H q => by
    obtain ⟨Γ, p, st, q⟩ := q
    refine ⟨_, Γ, p, st.es, (OutOk.bind.mp q).imp fun d p1 q v H1 e1 q1 r1 => ?_⟩
    obtain ⟨Γ', e2, q⟩ := out_opt.mp (OutOk.bind.mp q)
    have q : ∀ σ' H', Kp F Γ σ H Γ' σ' H' → StOk F Γ' p1 σ' H' → D.nx σ' H' := q
    exact ⟨Γ, p1, d, st.ext e1 q1, r1, Γ', e2, fun σ' kp st' => q σ' H1 ((Kp.ext st e1 q1).trans kp) st'⟩
end
end PL

set_option Elab.async false
set_option linter.all false
set_option maxRecDepth 100000
set_option maxHeartbeats 4000000
/-! PL8: containers of one's own: made, grown, frozen; pops and stores. -/
namespace PL
open PySem L2
variable [TabL]

section
variable {F : Fr} {Γ : SEnv} {p : Pot} {σ : St} {H : Hp}
theorem get_set_cases {α : Type} {l : List α} {i j : Nat} {x y : α} (h : (l.set i x)[j]? = some y) : (j = i ∧ y = x ∧ i < l.length) ∨ (j ≠ i ∧ l[j]? = some y) := by
  by_cases hj : j = i
  · subst hj
    by_cases hl : j < l.length
    · rw [List.getElem?_set_self hl] at h; cases h; exact .inl ⟨rfl, rfl, hl⟩
    · rw [List.getElem?_eq_none (by simpa using hl)] at h; cases h
  · rw [List.getElem?_set_ne (Ne.symm hj)] at h; exact .inr ⟨hj, h⟩

/-- a new container is given to a name: it is our own from then on -/
theorem StOk.setOwn {H1 : Hp} {i : Nat} {d : D} {a : Addr} {p1 : Pot} (s : StOk F Γ p σ H) (e : Ext F H H1) (q : PotOk F H1 p1) (n : H a = none) (r : OwnAt F.toWd (fun b => Sof F Γ σ b ∨ b = a) H1 a d) :
    StOk F (Γ.set i (.own d)) p1 (σ.set i (some (.ref a))) H1 ∧ Kp F Γ σ H (Γ.set i (.own d)) (σ.set i (some (.ref a))) H1 := by
  have s1 := s.ext e q
  have na : ¬ Sof F Γ σ a := fun w => by have := s.es.mt a w; rw [n] at this; exact this
  have own : ∀ b, Owned (Γ.set i (.own d)) (σ.set i (some (.ref a))) b → Owned Γ σ b ∨ b = a := fun b ⟨j, d', h1, h2⟩ => by
    rcases get_set_cases h1 with ⟨rfl, _, _⟩ | ⟨hj, h1⟩
    · rcases get_set_cases h2 with ⟨_, h2, _⟩ | ⟨hj, _⟩
      · cases h2; exact .inr rfl
      · exact absurd rfl hj
    · rcases get_set_cases h2 with ⟨rfl, _, _⟩ | ⟨_, h2⟩
      · exact absurd rfl hj
      · exact .inl ⟨j, d', h1, h2⟩
  have sub : ∀ b, Sof F (Γ.set i (.own d)) (σ.set i (some (.ref a))) b → Sof F Γ σ b ∨ b = a := fun b w => by
    rcases w with w | w | w
    · exact .inl (.inl w)
    · exact (own b w).elim (fun w => .inl (.inr (.inl w))) .inr
    · exact .inl (.inr (.inr w))
  have np : F.pa ≠ some a := fun w => na (.inr (.inr w))
  have g : Goes (Sof F Γ σ) (Sof F (Γ.set i (.own d)) (σ.set i (some (.ref a)))) H H1 := ⟨fun b o h w nt => e.get b o h (fun z => w (.inr (.inr z))) nt, fun b w => (sub b w).elim .inl fun z => .inr (z ▸ n), s.es.mt⟩
  have mt1 : ∀ b, (Sof F Γ σ b ∨ b = a) → Mut (H1 b) := fun b w => by
    rcases w with w | rfl
    · exact s1.es.mt b w
    · exact r.there
  have g2 : Goes (fun b => Sof F Γ σ b ∨ b = a) (Sof F (Γ.set i (.own d)) (σ.set i (some (.ref a)))) H1 H1 := ⟨fun _ _ h _ _ => h, fun b w => .inl (sub b w), mt1⟩
  refine ⟨⟨⟨fun j t h => ?_, q, fun b w => mt1 b (sub b w), fun a h => .inr (.inr h), fun a h => .inl h, s1.es.same⟩, fun b w => ?_, fun j l d1 d2 b h1 h2 h3 h4 => ?_, fun b w => ?_, s.cz⟩, e.imp fun _ _ _ z => .inr z, fun b w => (own b w).elim .inl fun z => .inr (z ▸ n), s.es.sub e q⟩
  · rcases get_set_cases h with ⟨rfl, rfl, hl⟩ | ⟨hj, h⟩
    · obtain ⟨x, ex, _⟩ := s.es.env j _ (List.getElem?_eq_getElem hl)
      have hσ : j < σ.length := (List.getElem?_eq_some_iff.mp ex).1
      exact ⟨_, List.getElem?_set_self hσ, a, rfl, .inr (.inl ⟨j, d, List.getElem?_set_self hl, List.getElem?_set_self hσ⟩), np, r.goes g2 fun _ h _ => h⟩
    · obtain ⟨x, ex, r'⟩ := s.es.env j t h
      refine ⟨x, by rw [List.getElem?_set_ne (Ne.symm hj)]; exact ex, ?_⟩
      cases t with
      | no => trivial
      | val d' => obtain ⟨v', e1, r'⟩ := r'; exact ⟨v', e1, Rep.goes g _ _ r'⟩
      | own d' =>
        obtain ⟨b, e1, _, np, r'⟩ := r'
        subst e1
        exact ⟨b, rfl, .inr (.inl ⟨j, d', by rw [List.getElem?_set_ne (Ne.symm hj)]; exact h, by rw [List.getElem?_set_ne (Ne.symm hj)]; exact ex⟩), np, r'.goes g fun o h nt => e.get b o h np nt⟩
      | pot => exact r'
      | exc x => exact SlOk.excGoes g r'
      | thk q => exact SlOk.thkGoes g r'
      | scr ns => exact SlOk.scrGoes g r'
  · rcases own b w with w | rfl
    · exact s.fresh b w
    · exact s.fresh0 n
  · have na' : ∀ {j : Nat} {d1 : D}, Γ[j]? = some (Sl.own d1) → σ[j]? ≠ some (some (V.ref a)) := fun h1 h2 => na (.inr (.inl ⟨_, _, h1, h2⟩))
    rcases get_set_cases h1 with ⟨e1, _, _⟩ | ⟨hj, k1⟩
    · subst e1
      rcases get_set_cases h2 with ⟨e2, _, _⟩ | ⟨hl, k2⟩
      · exact e2.symm
      · rcases get_set_cases h3 with ⟨_, k3, _⟩ | ⟨z, _⟩
        · have eb : b = a := by cases k3; rfl
          subst eb
          rcases get_set_cases h4 with ⟨z, _, _⟩ | ⟨_, k4⟩
          · exact absurd z hl
          · exact absurd k4 (na' k2)
        · exact absurd rfl z
    · rcases get_set_cases h3 with ⟨z, _, _⟩ | ⟨_, k3⟩
      · exact absurd z hj
      · rcases get_set_cases h2 with ⟨e2, _, _⟩ | ⟨hl, k2⟩
        · subst e2
          rcases get_set_cases h4 with ⟨_, k4, _⟩ | ⟨z, _⟩
          · have eb : b = a := by cases k4; rfl
            rw [eb] at k3
            exact absurd k3 (na' k1)
          · exact absurd rfl z
        · rcases get_set_cases h4 with ⟨z, _, _⟩ | ⟨_, k4⟩
          · exact absurd z hl
          · exact s.inj _ _ _ _ _ k1 k2 k3 k4
  · rcases own b w with w | rfl
    · exact s.nS0 b w
    · exact fun w => na (.inl w)

/-- our own container is written: what stands at a is now d' -/
theorem StOk.write {H1 : Hp} {i : Nat} {d d' : D} {a : Addr} (s : StOk F Γ p σ H) (h1 : Γ[i]? = some (Sl.own d)) (h2 : σ[i]? = some (some (V.ref a))) (hk : ∀ b, b ≠ a → H1 b = H b) (hm : Mut (H1 a))
    (r : OwnAt F.toWd (Sof F Γ σ) H1 a d') : StOk F (Γ.set i (.own d')) p σ H1 ∧ Kp F Γ σ H (Γ.set i (.own d')) σ H1 := by
  have oa : Owned Γ σ a := ⟨i, d, h1, h2⟩
  obtain ⟨x, ex, r0⟩ := s.es.env i _ h1
  obtain ⟨a', e1, sa, np, rn⟩ := r0
  rw [ex] at h2
  cases h2
  cases e1
  obtain ⟨oo, eo, nco⟩ := rn.nc
  have kk : Kept (fun b => b = a) H H1 := Kept.setF eo nco hk hm rfl
  have hl : i < Γ.length := (List.getElem?_eq_some_iff.mp h1).1
  have own : ∀ b, Owned (Γ.set i (.own d')) σ b ↔ Owned Γ σ b := fun b => by
    constructor
    · rintro ⟨j, d2, g1, g2⟩
      rcases get_set_cases g1 with ⟨rfl, _, _⟩ | ⟨_, g1⟩
      · exact ⟨j, d, h1, g2⟩
      · exact ⟨j, d2, g1, g2⟩
    · rintro ⟨j, d2, g1, g2⟩
      by_cases hj : j = i
      · subst hj; exact ⟨j, d', List.getElem?_set_self hl, g2⟩
      · exact ⟨j, d2, by rw [List.getElem?_set_ne (Ne.symm hj)]; exact g1, g2⟩
  have sof : ∀ b, Sof F (Γ.set i (.own d')) σ b ↔ Sof F Γ σ b := fun b => by unfold Sof; rw [own b]
  have keep : ∀ b o, H b = some o → b ≠ a → H1 b = some o := fun b o h n => (hk b n).trans h
  have g : Goes (Sof F Γ σ) (Sof F (Γ.set i (.own d')) σ) H H1 := ⟨fun b o h w _ => keep b o h fun z => w (z ▸ sa), fun b w => .inl ((sof b).mp w), s.es.mt⟩
  have mt1 : ∀ b, Sof F Γ σ b → Mut (H1 b) := fun b w => by
    by_cases hb : b = a
    · subst hb; exact hm
    · rw [hk b hb]; exact s.es.mt b w
  have g2 : Goes (Sof F Γ σ) (Sof F (Γ.set i (.own d')) σ) H1 H1 := ⟨fun _ _ h _ _ => h, fun b w => .inl ((sof b).mp w), mt1⟩
  have npa : ∀ b, F.pa = some b → b ≠ a := fun b e z => np (z ▸ e)
  refine ⟨⟨⟨fun j t h => ?_, fun b e => ?_, fun b w => mt1 b ((sof b).mp w), fun a h => .inr (.inr h), fun a h => .inl h, s.es.same.trans2 kk fun b o h z => ?_⟩, fun b w => s.fresh b ((own b).mp w), fun j l d1 d2 b g1 g2 g3 g4 => ?_, fun b w => s.nS0 b ((own b).mp w), s.cz⟩,
    kk.imp fun _ _ _ z => .inl (by rw [z]; exact oa), fun b w => .inl ((own b).mp w), fun b h => ?_⟩
  · rcases get_set_cases h with ⟨rfl, rfl, _⟩ | ⟨hj, h⟩
    · exact ⟨_, ex, a, rfl, (sof a).mpr sa, np, r.goes g2 fun _ h _ => h⟩
    · obtain ⟨x, ex', r'⟩ := s.es.env j t h
      refine ⟨x, ex', ?_⟩
      cases t with
      | no => trivial
      | val d' => obtain ⟨v', e1, r'⟩ := r'; exact ⟨v', e1, Rep.goes g _ _ r'⟩
      | own d2 =>
        obtain ⟨b, e1, sb, npb, r'⟩ := r'
        subst e1
        have nb : b ≠ a := fun z => by
          subst z
          exact hj (s.inj j i d2 d b h h1 ex' ex)
        exact ⟨b, rfl, (sof b).mpr sb, npb, r'.goes g fun o h _ => keep b o h nb⟩
      | pot => exact r'
      | exc x => exact SlOk.excGoes g r'
      | thk q => exact SlOk.thkGoes g r'
      | scr ns => exact SlOk.scrGoes g r'
  · obtain ⟨c1, c2⟩ := s.es.pot b e
    refine ⟨keep _ _ c1 (npa b e), keep _ _ c2 fun hc => ?_⟩
    have z := s.cz b e
    rcases s.fresh a oa with w | w
    · exact z.1 (hc ▸ w)
    · exact z.2 (hc ▸ w)
  · rcases s.fresh a oa with w | w
    · rw [z, w] at h; cases h
    · exact .inr (by rw [z]; exact w)
  · have cv : ∀ {j : Nat} {d1 : D}, (Γ.set i (.own d'))[j]? = some (Sl.own d1) → ∃ d2, Γ[j]? = some (Sl.own d2) := fun {j d1} g => by
      rcases get_set_cases g with ⟨rfl, _, _⟩ | ⟨_, g⟩
      · exact ⟨_, h1⟩
      · exact ⟨_, g⟩
    obtain ⟨_, g1⟩ := cv g1
    obtain ⟨_, g2⟩ := cv g2
    exact s.inj _ _ _ _ _ g1 g2 g3 g4
  · by_cases hb : b = a
    · subst hb; rw [h] at hm; exact hm.elim
    · rw [hk b hb] at h; exact h
end

section
variable {F : Fr} {Γ : SEnv} {p : Pot} {σ : St} {H : Hp}
/-- our own container is handed on: from then on it stays -/
theorem StOk.frz {i : Nat} {d : D} (s : StOk F Γ p σ H) (h1 : Γ[i]? = some (Sl.own d)) : StOk F (Γ.set i (.val d)) p σ H ∧ Kp F Γ σ H (Γ.set i (.val d)) σ H := by
  obtain ⟨x, ex, a, e1, sa, np, r⟩ := s.es.env i _ h1
  subst e1
  have own : ∀ b, Owned (Γ.set i (.val d)) σ b → Owned Γ σ b ∧ b ≠ a := fun b ⟨j, d2, k1, k2⟩ => by
    rcases get_set_cases k1 with ⟨_, k1, _⟩ | ⟨hj, k1⟩
    · cases k1
    · exact ⟨⟨j, d2, k1, k2⟩, fun z => hj (s.inj j i d2 d a k1 h1 (z ▸ k2) ex)⟩
  have oa : Owned Γ σ a := ⟨i, d, h1, ex⟩
  have sub : ∀ b, Sof F (Γ.set i (.val d)) σ b → Sof F Γ σ b := fun b w => by
    rcases w with w | w | w
    · exact .inl w
    · exact .inr (.inl (own b w).1)
    · exact .inr (.inr w)
  have na : ¬ Sof F (Γ.set i (.val d)) σ a := fun w => by
    rcases w with w | w | w
    · exact s.nS0 a oa w
    · exact (own a w).2 rfl
    · exact np w
  have g : Goes (Sof F Γ σ) (Sof F (Γ.set i (.val d)) σ) H H := ⟨fun _ _ h _ _ => h, fun b w => .inl (sub b w), s.es.mt⟩
  refine ⟨⟨⟨fun j t h => ?_, s.es.pot, fun b w => s.es.mt b (sub b w), fun a h => .inr (.inr h), fun a h => .inl h, s.es.same⟩, fun b w => s.fresh b (own b w).1, fun j l d1 d2 b k1 k2 k3 k4 => ?_, fun b w => s.nS0 b (own b w).1, s.cz⟩,
    Kept.refl, fun b w => .inl (own b w).1, fun _ h => h⟩
  · rcases get_set_cases h with ⟨rfl, rfl, _⟩ | ⟨hj, h⟩
    · exact ⟨_, ex, _, rfl, (r.goes g fun _ h _ => h).rep na⟩
    · obtain ⟨x, ex', r'⟩ := s.es.env j t h
      refine ⟨x, ex', ?_⟩
      cases t with
      | no => trivial
      | val d' => obtain ⟨v', e1, r'⟩ := r'; exact ⟨v', e1, Rep.goes g _ _ r'⟩
      | own d2 =>
        obtain ⟨b, e1, sb, npb, r'⟩ := r'
        subst e1
        exact ⟨b, rfl, .inr (.inl ⟨j, d2, by rw [List.getElem?_set_ne (Ne.symm hj)]; exact h, ex'⟩), npb, r'.goes g fun _ h _ => h⟩
      | pot => exact r'
      | exc x => exact SlOk.excGoes g r'
      | thk q => exact SlOk.thkGoes g r'
      | scr ns => exact SlOk.scrGoes g r'
  · rcases get_set_cases k1 with ⟨_, k1, _⟩ | ⟨_, k1⟩
    · cases k1
    · rcases get_set_cases k2 with ⟨_, k2, _⟩ | ⟨_, k2⟩
      · cases k2
      · exact s.inj _ _ _ _ _ k1 k2 k3 k4
/-- slots are forgotten -/
theorem StOk.clr {i : Nat} (s : StOk F Γ p σ H) : StOk F (Γ.set i .no) p σ H ∧ Kp F Γ σ H (Γ.set i .no) σ H := by
  have own : ∀ b, Owned (Γ.set i .no) σ b → Owned Γ σ b := fun b ⟨j, d2, k1, k2⟩ => by
    rcases get_set_cases k1 with ⟨_, k1, _⟩ | ⟨hj, k1⟩
    · cases k1
    · exact ⟨j, d2, k1, k2⟩
  have sub : ∀ b, Sof F (Γ.set i .no) σ b → Sof F Γ σ b := fun b w => by
    rcases w with w | w | w
    · exact .inl w
    · exact .inr (.inl (own b w))
    · exact .inr (.inr w)
  have g : Goes (Sof F Γ σ) (Sof F (Γ.set i .no) σ) H H := ⟨fun _ _ h _ _ => h, fun b w => .inl (sub b w), s.es.mt⟩
  refine ⟨⟨⟨fun j t h => ?_, s.es.pot, fun b w => s.es.mt b (sub b w), fun a h => .inr (.inr h), fun a h => .inl h, s.es.same⟩, fun b w => s.fresh b (own b w), fun j l d1 d2 b k1 k2 k3 k4 => ?_, fun b w => s.nS0 b (own b w), s.cz⟩,
    Kept.refl, fun b w => .inl (own b w), fun _ h => h⟩
  · rcases get_set_cases h with ⟨rfl, rfl, hl⟩ | ⟨hj, h⟩
    · obtain ⟨x, ex, _⟩ := s.es.env j _ (List.getElem?_eq_getElem hl)
      exact ⟨x, ex, trivial⟩
    · obtain ⟨x, ex', r'⟩ := s.es.env j t h
      refine ⟨x, ex', ?_⟩
      cases t with
      | no => trivial
      | val d' => obtain ⟨v', e1, r'⟩ := r'; exact ⟨v', e1, Rep.goes g _ _ r'⟩
      | own d2 =>
        obtain ⟨b, e1, sb, npb, r'⟩ := r'
        subst e1
        exact ⟨b, rfl, .inr (.inl ⟨j, d2, by rw [List.getElem?_set_ne (Ne.symm hj)]; exact h, ex'⟩), npb, r'.goes g fun _ h _ => h⟩
      | pot => exact r'
      | exc x => exact SlOk.excGoes g r'
      | thk q => exact SlOk.thkGoes g r'
      | scr ns => exact SlOk.scrGoes g r'
  · rcases get_set_cases k1 with ⟨_, k1, _⟩ | ⟨_, k1⟩
    · cases k1
    · rcases get_set_cases k2 with ⟨_, k2, _⟩ | ⟨_, k2⟩
      · cases k2
      · exact s.inj _ _ _ _ _ k1 k2 k3 k4
end

/-! ### statements over our own containers -/
def ownOf : Option Sl → Option D
  | some (.own d) => some d
  | _ => none
theorem ownOf_some {s : Option Sl} {d : D} (h : ownOf s = some d) : s = some (.own d) := by
  cases s with
  | none => cases h
  | some s => cases s with
    | own d' => cases h; rfl
    | _ => cases h
def sAsgO (i : Nat) (f : SEnv → M D) : DS := fun Γ => do let d ← f Γ; pure (.nx, Γ.set i (.own d))
/-- ahead of a statement: slot i is handed on -/
def sFrz (i : Nat) (f : DS) : DS := fun Γ => do let d ← ofOpt (ownOf Γ[i]?); f (Γ.set i (.val d))
/-- .. or is a value already -/
def sFrz? (i : Nat) (f : DS) : DS := fun Γ => match ownOf Γ[i]? with
  | some d => f (Γ.set i (.val d))
  | none => f Γ
/-- slots forgotten behind a statement -/
def clrs : List Nat → SEnv → SEnv
  | [], Γ => Γ
  | i :: is, Γ => clrs is (Γ.set i .no)
theorem StOk.clrs {F : Fr} {p : Pot} {σ : St} {H : Hp} : ∀ (is : List Nat) {Γ : SEnv}, StOk F Γ p σ H → StOk F (PL.clrs is Γ) p σ H ∧ Kp F Γ σ H (PL.clrs is Γ) σ H
  | [], Γ, s => ⟨s, .refl⟩
  | i :: is, Γ, s => by
    obtain ⟨s1, k1⟩ := s.clr (i := i)
    obtain ⟨s2, k2⟩ := StOk.clrs is s1
    exact ⟨s2, k1.trans k2⟩
/-- our own list in a slot -/
def ownL : Option Sl → Option (List D)
  | some (.own (.lst l)) => some l
  | _ => none
theorem ownL_some {s : Option Sl} {l : List D} (h : ownL s = some l) : s = some (.own (.lst l)) := by
  unfold ownL at h
  split at h
  · cases h; rfl
  · cases h
def lstOf (c : Bool) (l : List D) : Option D := if c then some (.lst l) else none
def sApp (i : Nat) (f : SEnv → M D) : DS := fun Γ => do let l ← ofOpt (ownL Γ[i]?); let d ← f Γ; let l' ← ofOpt (lstOf (decide (l.length < sizeLine)) (l ++ [d])); pure (.nx, Γ.set i (.own l'))
def sExt (i : Nat) (f : SEnv → M D) : DS := fun Γ => do
  let l ← ofOpt (ownL Γ[i]?)
  match ← f Γ with
  | .lst m => do let l' ← ofOpt (lstOf (decide (l.length + m.length ≤ sizeLine)) (l ++ m)); pure (.nx, Γ.set i (.own l'))
  | _ => M.bad
/-- x[e1] = e, a list of ours; e is asked first -/
def sSetL (i : Nat) (f1 f : SEnv → M D) : DS := fun Γ => do
  let l ← ofOpt (ownL Γ[i]?)
  let d ← f Γ
  match ← f1 Γ with
  | .int k => do let j ← ofOpt (ixN l.length k); pure (.nx, Γ.set i (.own (.lst (l.set j d))))
  | _ => M.bad

/-! ### expressions that take from our own containers -/
def tM (F : Fr) (f : SEnv → M (D × SEnv)) : TE := fun σ H Q => ∃ Γ p, StOk F Γ p σ H ∧ OutOk F (f Γ p) fun r p' => ∀ v H', Kp F Γ σ H r.2 σ H' → StOk F r.2 p' σ H' → Rep F.toWd (Sof F r.2 σ) H' r.1 v → Q v H'
abbrev EM (X : Cx) (F : Fr) (e : Expr) (f : SEnv → M (D × SEnv)) : Prop := PE X e (tM F f)
def mPop (i : Nat) : SEnv → M (D × SEnv) := fun Γ => do let l ← ofOpt (ownL Γ[i]?); let d ← ofOpt (l[l.length - 1]?); pure (d, Γ.set i (.own (.lst l.dropLast)))
def mPopAt (i : Nat) (f : SEnv → M D) : SEnv → M (D × SEnv) := fun Γ => do
  let l ← ofOpt (ownL Γ[i]?)
  match ← f Γ with
  | .int n => if -(2 ^ 63) ≤ n ∧ n < 2 ^ 63 then do let j ← ofOpt (seqIndex? n l.length); let d ← ofOpt (l[j]?); pure (d, Γ.set i (.own (.lst (l.eraseIdx j)))) else M.bad
  | _ => M.bad
def mIx (fa : SEnv → M D) (f : SEnv → M (D × SEnv)) : SEnv → M (D × SEnv) := fun Γ => do let a ← fa Γ; let r ← f Γ; let d ← ofOpt (ixD a r.1); pure (d, r.2)
def sAsgM (t : D → SEnv → Option SEnv) (f : SEnv → M (D × SEnv)) : DS := fun Γ => do let r ← f Γ; let Γ' ← ofOpt (t r.1 r.2); pure (.nx, Γ')
def sDropM (f : SEnv → M (D × SEnv)) : DS := fun Γ => do let r ← f Γ; pure (.nx, r.2)
section
variable {X : Cx} {F : Fr} {k : Nat} {e e1 : Expr} {f f1 fa : SEnv → M D} {fm : SEnv → M (D × SEnv)} {g : DS} {s : Stmt} {i : Nat} {x : Str} {pos px apos : Pos}
theorem es_frz (h : ES1 X F s g) : ES1 X F s (sFrz i g) := PS.weak h fun D σ H q => by
  obtain ⟨Γ, p, st, q⟩ := q
  obtain ⟨d, e, q⟩ := out_opt.mp (OutOk.bind.mp q)
  obtain ⟨s1, k1⟩ := st.frz (ownOf_some e)
  exact tS_kp k1 s1 q
theorem es_frz? (h : ES1 X F s g) : ES1 X F s (sFrz? i g) := PS.weak h fun D σ H q => by
  obtain ⟨Γ, p, st, q⟩ := q
  unfold sFrz? at q
  cases e : ownOf Γ[i]? with
  | none => rw [e] at q; exact tS_kp .refl st q
  | some d =>
    rw [e] at q
    obtain ⟨s1, k1⟩ := st.frz (ownOf_some e)
    exact tS_kp k1 s1 q
theorem es_asgO (he : EVN X F e f) (hN : X.N.Nodup) (hi : X.N[i]? = some x := by rfl) (hx : Loc X.env.scope x := by first | exact Or.inl rfl | exact Or.inr rfl) (hf : X.fn x = true ∨ X.env.scope.names.lookup x = some .local := by first | exact .inl rfl | exact .inr rfl)
    (hs : swapsWith e (some (.Name x px)) pos.line X.env = pure false := by rfl) : ES1 X F (.Assign [.Name x px] e pos) (sAsgO i f) := PS.weak (ps_set (i := i) hN hi hx he hs hf) fun D σ H q => by
  obtain ⟨Γ, p, st, q⟩ := q
  refine ⟨_, Γ, p, st.es, (OutOk.bind.mp q).imp fun d p1 q v H1 e1 q1 r1 => ?_⟩
  obtain ⟨a, rfl, n, r⟩ := r1
  obtain ⟨s1, k1⟩ := st.setOwn (i := i) e1 q1 n r
  exact (show ∀ σ' H', Kp F Γ σ H (Γ.set i (.own d)) σ' H' → StOk F (Γ.set i (.own d)) p1 σ' H' → D.nx σ' H' from q) _ _ k1 s1
/-- what our own list is, and how it is written -/
theorem StOk.own {Γ : SEnv} {p : Pot} {σ : St} {H : Hp} {l : List D} (st : StOk F Γ p σ H) (e : Γ[i]? = some (Sl.own (.lst l))) : ∃ a vs, σ[i]? = some (some (V.ref a)) ∧ H a = some (.lst vs) ∧ F.pa ≠ some a ∧ Reps F.toWd (Sof F Γ σ) H l vs := by
  obtain ⟨x, ex, a, e1, sa, np, vs, h1, r⟩ := st.es.env i _ e
  subst e1
  exact ⟨a, vs, ex, h1, np, r⟩
theorem StOk.put {Γ : SEnv} {p p1 : Pot} {σ : St} {H H1 : Hp} {l l' : List D} {a : Addr} {vs' : List V} (st : StOk F Γ p σ H) (ext : Ext F H H1) (q1 : PotOk F H1 p1) (e : Γ[i]? = some (Sl.own (.lst l))) (h2 : σ[i]? = some (some (V.ref a)))
    (r : Reps F.toWd (Sof F Γ σ) H1 l' vs') : StOk F (Γ.set i (.own (.lst l'))) p1 σ (upd H1 a (.lst vs')) ∧ Kp F Γ σ H (Γ.set i (.own (.lst l'))) σ (upd H1 a (.lst vs')) := by
  have s1 := st.ext ext q1
  obtain ⟨x, ex, a', e1, sa, np, vs, h1, r0⟩ := s1.es.env i _ e
  rw [ex] at h2; cases h2; cases e1
  have g : Goes (Sof F Γ σ) (Sof F Γ σ) H1 (upd H1 a (.lst vs')) := ⟨fun b o h n _ => by rw [upd_ne (fun z => by subst z; exact n sa)]; exact h, fun _ w => .inl w, s1.es.mt⟩
  obtain ⟨s2, k2⟩ := s1.write (d' := .lst l') e ex (H1 := upd H1 a (.lst vs')) (fun b hb => upd_ne hb) (by rw [upd_same]; trivial) ⟨vs', upd_same, Reps.goes g _ _ r⟩
  exact ⟨s2, (Kp.ext st ext q1).trans k2⟩
theorem es_app (ha : EV X F e f) (hN : X.N[i]? = some x := by rfl) (hv : Vis X.env.scope x := by first | exact Or.inl rfl | exact Or.inr (Or.inl rfl) | exact Or.inr (Or.inr rfl))
    (hb : (x == ("__debug__" : Str)) = false := by decide) (hcd : (x == ("__classdict__" : Str)) = false := by decide)
    (b1 : attributeBase (.Name x px) "append" X.env (eval (.Name x px) X.env) = eval (.Name x px) X.env := by rfl)
    (b2 : ((((backTo pos (starEach [e] X.env)).all fun x => !x.fst) && (backToKw pos (keywordEach [] X.env)).all fun x => x.fst.isSome) && decide (([e] : List Expr).length + ([] : List Expr).length + (if ([] : List Expr).isEmpty = true then 0 else 1) < 30)) = true := by rfl)
    (b3 : (apos.endLine == pos.line) = true := by rfl) (b4 : starEach [e] X.env = (false, eval e X.env) :: starEach [] X.env := by rfl) (b5 : swapsWith (.Call (.Attribute (.Name x px) "append" apos) [e] [] pos) none pos.line X.env = pure false := by rfl) :
    ES1 X F (.Expr (.Call (.Attribute (.Name x px) "append" apos) [e] [] pos) pos) (sApp i f) :=
  PS.weak (ps_expr (pe_bm PySem.F.plainAttrs_list PySem.F.slot_list_append PySem.F.type_list_append mt_append (pe_var hN hv hb hcd) (pa_cons ha pa_nil b4) b1 b2 b3 b4) b5) fun D σ H q => by
    obtain ⟨Γ, p, st, q⟩ := q
    obtain ⟨l, el, q⟩ := out_opt.mp (OutOk.bind.mp q)
    have el := ownL_some el
    obtain ⟨a, vs, h2, h3, np, rs⟩ := st.own el
    refine ⟨.ref a, h2, .inl ⟨rfl, vs, SqL.of h3⟩, _, Γ, p, st.es, (OutOk.bind.mp q).imp fun d p1 q v H1 e1 q1 r1 => ?_⟩
    obtain ⟨l', e2, q⟩ := out_opt.mp (OutOk.bind.mp q)
    obtain ⟨hl, rfl⟩ := ite_sm e2
    have hl : l.length < sizeLine := of_decide_eq_true hl
    have g := e1.goes st.es.mt st.es.pa
    obtain ⟨s2, k2⟩ := st.put (l' := l ++ [d]) (vs' := vs ++ [v]) e1 q1 el h2 ((Reps.goes g _ _ rs).append (.cons r1 .nil))
    refine ⟨a, vs, v, rfl, rfl, e1.get _ _ h3 np nt_lst, by rw [← rs.length]; exact hl, ?_⟩
    exact (show ∀ σ' H', Kp F Γ σ H (Γ.set i (.own (.lst (l ++ [d])))) σ' H' → StOk F (Γ.set i (.own (.lst (l ++ [d])))) p1 σ' H' → D.nx σ' H' from q) _ _ k2 s2
theorem es_ext (ha : EVB X F e f) (hN : X.N[i]? = some x := by rfl) (hv : Vis X.env.scope x := by first | exact Or.inl rfl | exact Or.inr (Or.inl rfl) | exact Or.inr (Or.inr rfl))
    (hb : (x == ("__debug__" : Str)) = false := by decide) (hcd : (x == ("__classdict__" : Str)) = false := by decide)
    (b1 : attributeBase (.Name x px) "extend" X.env (eval (.Name x px) X.env) = eval (.Name x px) X.env := by rfl)
    (b2 : ((((backTo pos (starEach [e] X.env)).all fun x => !x.fst) && (backToKw pos (keywordEach [] X.env)).all fun x => x.fst.isSome) && decide (([e] : List Expr).length + ([] : List Expr).length + (if ([] : List Expr).isEmpty = true then 0 else 1) < 30)) = true := by rfl)
    (b3 : (apos.endLine == pos.line) = true := by rfl) (b4 : starEach [e] X.env = (false, eval e X.env) :: starEach [] X.env := by rfl) (b5 : swapsWith (.Call (.Attribute (.Name x px) "extend" apos) [e] [] pos) none pos.line X.env = pure false := by rfl) :
    ES1 X F (.Expr (.Call (.Attribute (.Name x px) "extend" apos) [e] [] pos) pos) (sExt i f) :=
  PS.weak (ps_expr (pe_bm PySem.F.plainAttrs_list PySem.F.slot_list_extend PySem.F.type_list_extend mt_extend (pe_var hN hv hb hcd) (pa_cons ha pa_nil b4) b1 b2 b3 b4) b5) fun D σ H q => by
    obtain ⟨Γ, p, st, q⟩ := q
    obtain ⟨l, el, q⟩ := out_opt.mp (OutOk.bind.mp q)
    have el := ownL_some el
    obtain ⟨a, vs, h2, h3, np, rs⟩ := st.own el
    refine ⟨.ref a, h2, .inl ⟨rfl, vs, SqL.of h3⟩, _, Γ, p, st.es, (OutOk.bind.mp q).imp fun d p1 q v H1 e1 q1 r1 => ?_⟩
    cases d <;> try exact q.elim
    rename_i m
    obtain ⟨l', e2, q⟩ := out_opt.mp (OutOk.bind.mp q)
    obtain ⟨hl, rfl⟩ := ite_sm e2
    have hl : l.length + m.length ≤ sizeLine := of_decide_eq_true hl
    obtain ⟨b, ws, rfl, hw, rw⟩ := RepT.lst r1
    have g := e1.goes st.es.mt st.es.pa
    obtain ⟨s2, k2⟩ := st.put (l' := l ++ m) (vs' := vs ++ ws) e1 q1 el h2 ((Reps.goes g _ _ rs).append rw)
    refine ⟨a, b, vs, ws, rfl, rfl, e1.get _ _ h3 np nt_lst, hw, by rw [← rs.length, ← rw.length]; exact hl, ?_⟩
    exact (show ∀ σ' H', Kp F Γ σ H (Γ.set i (.own (.lst (l ++ m)))) σ' H' → StOk F (Γ.set i (.own (.lst (l ++ m)))) p1 σ' H' → D.nx σ' H' from q) _ _ k2 s2
theorem es_setL (he : EV X F e f) (h1 : EVB X F e1 f1) (hN : X.N[i]? = some x := by rfl) (hv : Vis X.env.scope x := by first | exact Or.inl rfl | exact Or.inr (Or.inl rfl) | exact Or.inr (Or.inr rfl))
    (hb : (x == ("__debug__" : Str)) = false := by decide) (hcd : (x == ("__classdict__" : Str)) = false := by decide)
    (b1 : ∀ v, assign (.Subscript (.Name x px) e1 apos) X.env v = (do
      let ov ← holding [v] (eval (.Name x px) X.env)
      let iv ← holding [v, ov] (eval e1 X.env)
      standAt apos
      holding [v, ov, iv] (setItem ov iv v)
      release [v, ov, iv] []) := by intro _; rfl)
    (b2 : swapsWithSole [.Subscript (.Name x px) e1 apos] e pos.line X.env = pure false := by rfl) (b3 : swappedStores [.Subscript (.Name x px) e1 apos] e X.env = pure none := by rfl)
    (b4 : (assignEach [.Subscript (.Name x px) e1 apos] X.env).map (·.2) = [assign (.Subscript (.Name x px) e1 apos) X.env] := by rfl) :
    ES1 X F (.Assign [.Subscript (.Name x px) e1 apos] e pos) (sSetL i f1 f) :=
  PS.weak (ps_asg he (pg_sub (pe_var hN hv hb hcd) h1 set_list b1) b2 b3 b4) fun D σ H q => by
    obtain ⟨Γ, p, st, q⟩ := q
    obtain ⟨l, el, q⟩ := out_opt.mp (OutOk.bind.mp q)
    have el := ownL_some el
    obtain ⟨a, vs, h2, h3, np, rs⟩ := st.own el
    refine ⟨_, Γ, p, st.es, (OutOk.bind.mp q).imp fun d p1 q v H1 e1 q1 r1 => ?_⟩
    have es1 := st.es.ext e1 q1
    refine ⟨.ref a, h2, _, Γ, p1, es1, (OutOk.bind.mp q).imp fun d2 p2 q v2 H2 e2 q2 r2 => ?_⟩
    cases d2 <;> try exact q.elim
    rename_i k
    obtain ⟨j, ej, q⟩ := out_opt.mp (OutOk.bind.mp q)
    have e12 := e1.trans e2
    have g := e12.goes st.es.mt st.es.pa
    have r1' : Rep F.toWd (Sof F Γ σ) H2 d v := Rep.goes (e2.goes es1.mt es1.pa) _ _ r1
    obtain ⟨s2, k2⟩ := st.put (l' := l.set j d) (vs' := vs.set j v) e12 q2 el h2 ((Reps.goes g _ _ rs).set r1' j)
    refine ⟨a, vs, k, j, rfl, RepT.int r2, e12.get _ _ h3 np nt_lst, by rw [← rs.length]; exact ej, ?_⟩
    exact (show ∀ σ' H', Kp F Γ σ H (Γ.set i (.own (.lst (l.set j d)))) σ' H' → StOk F (Γ.set i (.own (.lst (l.set j d)))) p2 σ' H' → D.nx σ' H' from q) _ _ k2 s2

/-! ### pops -/
theorem em_pop (hN : X.N[i]? = some x := by rfl) (hv : Vis X.env.scope x := by first | exact Or.inl rfl | exact Or.inr (Or.inl rfl) | exact Or.inr (Or.inr rfl))
    (hb : (x == ("__debug__" : Str)) = false := by decide) (hcd : (x == ("__classdict__" : Str)) = false := by decide)
    (b1 : attributeBase (.Name x px) "pop" X.env (eval (.Name x px) X.env) = eval (.Name x px) X.env := by rfl) (b3 : (apos.endLine == pos.line) = true := by rfl) :
    EM X F (.Call (.Attribute (.Name x px) "pop" apos) [] [] pos) (mPop i) :=
  PE.weak (pe_bm0 PySem.F.plainAttrs_list PySem.F.slot_list_pop PySem.F.type_list_pop mt_pop (pe_var hN hv hb hcd) b1 b3) fun σ H Q q => by
    obtain ⟨Γ, p, st, q⟩ := q
    obtain ⟨l, el, q⟩ := out_opt.mp (OutOk.bind.mp q)
    obtain ⟨d, ed, q⟩ := out_opt.mp (OutOk.bind.mp q)
    have el := ownL_some el
    obtain ⟨a, vs, h2, h3, np, rs⟩ := st.own el
    obtain ⟨v, ev, r⟩ := rs.get ed
    have rd : Reps F.toWd (Sof F Γ σ) H l.dropLast vs.dropLast := by
      rw [List.dropLast_eq_take, List.dropLast_eq_take, rs.length]
      exact rs.take _
    obtain ⟨s2, k2⟩ := st.put (l' := l.dropLast) (vs' := vs.dropLast) .refl st.es.pot el h2 rd
    refine ⟨.ref a, h2, .inl ⟨rfl, vs, SqL.of h3⟩, a, vs, v, rfl, rfl, h3, by rw [← rs.length]; exact ev, ?_⟩
    exact (show ∀ v H', Kp F Γ σ H (Γ.set i (.own (.lst l.dropLast))) σ H' → StOk F (Γ.set i (.own (.lst l.dropLast))) p σ H' → Rep F.toWd (Sof F (Γ.set i (.own (.lst l.dropLast))) σ) H' d v → Q v H' from q) _ _ k2 s2 (Rep.goes (k2.goes st) _ _ r)
theorem reps_erase {W : Wd} {S : Addr → Prop} {H : Hp} (j : Nat) : ∀ {l : List D} {vs : List V}, Reps W S H l vs → Reps W S H (l.eraseIdx j) (vs.eraseIdx j) := by
  intro l vs r
  rw [List.eraseIdx_eq_take_drop_succ, List.eraseIdx_eq_take_drop_succ]
  exact (r.take _).append (r.drop _)
theorem em_popAt (h1 : EVB X F e f) (hN : X.N[i]? = some x := by rfl) (hv : Vis X.env.scope x := by first | exact Or.inl rfl | exact Or.inr (Or.inl rfl) | exact Or.inr (Or.inr rfl))
    (hb : (x == ("__debug__" : Str)) = false := by decide) (hcd : (x == ("__classdict__" : Str)) = false := by decide)
    (b1 : attributeBase (.Name x px) "pop" X.env (eval (.Name x px) X.env) = eval (.Name x px) X.env := by rfl)
    (b2 : ((((backTo pos (starEach [e] X.env)).all fun x => !x.fst) && (backToKw pos (keywordEach [] X.env)).all fun x => x.fst.isSome) && decide (([e] : List Expr).length + ([] : List Expr).length + (if ([] : List Expr).isEmpty = true then 0 else 1) < 30)) = true := by rfl)
    (b3 : (apos.endLine == pos.line) = true := by rfl) (b4 : starEach [e] X.env = (false, eval e X.env) :: starEach [] X.env := by rfl) :
    EM X F (.Call (.Attribute (.Name x px) "pop" apos) [e] [] pos) (mPopAt i f) :=
  PE.weak (pe_bm PySem.F.plainAttrs_list PySem.F.slot_list_pop PySem.F.type_list_pop mt_popAt (pe_var hN hv hb hcd) (pa_cons h1 pa_nil b4) b1 b2 b3 b4) fun σ H Q q => by
    obtain ⟨Γ, p, st, q⟩ := q
    obtain ⟨l, el, q⟩ := out_opt.mp (OutOk.bind.mp q)
    have el := ownL_some el
    obtain ⟨a, vs, h2, h3, np, rs⟩ := st.own el
    refine ⟨.ref a, h2, .inl ⟨rfl, vs, SqL.of h3⟩, _, Γ, p, st.es, (OutOk.bind.mp q).imp fun d p1 q v H1 e1 q1 r1 => ?_⟩
    cases d <;> try exact q.elim
    rename_i n
    dsimp only at q
    split at q
    · rename_i hn
      obtain ⟨j, ej, q⟩ := out_opt.mp (OutOk.bind.mp q)
      obtain ⟨d, ed, q⟩ := out_opt.mp (OutOk.bind.mp q)
      have g := e1.goes st.es.mt st.es.pa
      have rs1 := Reps.goes g _ _ rs
      obtain ⟨w, ew, r⟩ := rs1.get ed
      obtain ⟨s2, k2⟩ := st.put (l' := l.eraseIdx j) (vs' := vs.eraseIdx j) e1 q1 el h2 (reps_erase j rs1)
      refine ⟨a, vs, n, j, w, rfl, by rw [RepT.int r1], e1.get _ _ h3 np nt_lst, hn.1, hn.2, by rw [← rs.length]; exact ej, ew, ?_⟩
      refine (show ∀ v H', Kp F Γ σ H (Γ.set i (.own (.lst (l.eraseIdx j)))) σ H' → StOk F (Γ.set i (.own (.lst (l.eraseIdx j)))) p1 σ H' → Rep F.toWd (Sof F (Γ.set i (.own (.lst (l.eraseIdx j)))) σ) H' d v → Q v H' from q) _ _ k2 s2 ?_
      obtain ⟨s3, k3⟩ := (st.ext e1 q1).put (l' := l.eraseIdx j) (vs' := vs.eraseIdx j) .refl q1 el h2 (reps_erase j rs1)
      exact Rep.goes (k3.goes (st.ext e1 q1)) _ _ r
    · exact q.elim
theorem em_ix (o : On X F k) (ha : EV X F e fa) (hm : EM X F e1 fm) (hp : PlainIx e1 := by exact fun _ _ => rfl) : EM X F (.Subscript e e1 pos) (mIx fa fm) :=
  PE.weak (pe_ix ix_seq ha hm hp) fun σ H Q q => by
    obtain ⟨Γ, p, st, q⟩ := q
    refine ⟨_, Γ, p, st.es, (OutOk.bind.mp q).imp fun d1 p1 q v1 H1 e1 q1 r1 => ?_⟩
    have s1 := st.ext e1 q1
    refine ⟨Γ, p1, s1, (OutOk.bind.mp q).imp fun r p2 q v2 H2 k2 s2 r2 => ?_⟩
    obtain ⟨d, ed, q⟩ := out_opt.mp (OutOk.bind.mp q)
    have r1' : RepT F (Sof F r.2 σ) H2 d1 v1 := .inl (Rep.goes (k2.goes s1) _ _ r1)
    have kk := (Kp.ext st e1 q1).trans k2
    unfold rIx
    rw [o.K]
    exact opd_ix (F := F) (Sof F r.2 σ) H2 H2 d1 r.1 d v1 v2 Q s2.es.mt Kept.refl (fun _ h => h) r1' (.inl r2) ed fun v H3 s3 r3 => by
      have e3 : Ext F H2 H3 := .of s3
      have q3 := s2.es.pot.same s3
      exact (show ∀ v H', Kp F Γ σ H r.2 σ H' → StOk F r.2 p2 σ H' → Rep F.toWd (Sof F r.2 σ) H' d v → Q v H' from q) v H3 (kk.trans (.ext s2 e3 q3)) (s2.ext e3 q3) r3
theorem es_asgM {tg : Expr} {t : D → SEnv → Option SEnv} (he : EM X F e fm) (hg : PG X tg (tG F t)) (hs : swapsWithSole [tg] e pos.line X.env = pure false := by rfl) (hw : swappedStores [tg] e X.env = pure none := by rfl) (h1 : (assignEach [tg] X.env).map (·.2) = [assign tg X.env] := by rfl) : ES1 X F (.Assign [tg] e pos) (sAsgM t fm) :=
  PS.weak (ps_asg he hg hs hw h1) fun D σ H q => by
    obtain ⟨Γ, p, st, q⟩ := q
    refine ⟨Γ, p, st, (OutOk.bind.mp q).imp fun r p1 q v H1 k1 s1 r1 => ?_⟩
    obtain ⟨Γ', e2, q⟩ := out_opt.mp (OutOk.bind.mp q)
    have q : ∀ σ' H', Kp F Γ σ H Γ' σ' H' → StOk F Γ' p1 σ' H' → D.nx σ' H' := q
    exact ⟨r.2, p1, r.1, s1, r1, Γ', e2, fun σ' kp st' => q σ' H1 (k1.trans kp) st'⟩
theorem es_dropM (he : EM X F e fm) (hs : swapsWith e none pos.line X.env = pure false := by rfl) : ES1 X F (.Expr e pos) (sDropM fm) := PS.weak (ps_expr he hs) fun D σ H q => by
  obtain ⟨Γ, p, st, q⟩ := q
  refine ⟨Γ, p, st, (OutOk.bind.mp q).imp fun r p1 q v H1 k1 s1 r1 => ?_⟩
  exact (show ∀ σ' H', Kp F Γ σ H r.2 σ' H' → StOk F r.2 p1 σ' H' → D.nx σ' H' from q) _ _ k1 s1
end
end PL

set_option Elab.async false
set_option linter.all false
set_option maxRecDepth 100000
set_option maxHeartbeats 4000000
/-! PL9: loops. -/
namespace PL
open PySem L2
variable [TabL]

/-- what is walked: Fut tells the heaps that may come -/
def ItOk (F : Fr) (Fut : Hp → (Addr → Prop) → Prop) (J : It) (ds : List D) : Prop := ∀ (H : Hp) (S' : Addr → Prop), Fut H S' → (∀ a, S' a → Mut (H a)) →
  (∀ i, i < ds.length → J.go i H ∧ ∀ x H', J.yld i H x H' → Same H H' ∧ ∃ d, ds[i]? = some d ∧ Rep F.toWd S' H' d x) ∧ J.stop ds.length H
def Fut (b : Bool) (F : Fr) (S : Addr → Prop) (H1 H : Hp) (S' : Addr → Prop) : Prop := match b with
  | true => Ext F H1 H ∧ ∀ a, S' a → S a ∨ H1 a = none
  | false => Goes S S' H1 H
def tI (b : Bool) (F : Fr) (f : SEnv → M (List D)) : TI := fun σ H R => ∃ S Γ p, ES F S Γ p σ H ∧ OutOk F (f Γ p) fun ds p' => ∀ J H1, Ext F H H1 → PotOk F H1 p' → ItOk F (Fut b F S H1) J ds → R J H1
abbrev EI (b : Bool) (X : Cx) (F : Fr) (tg e : Expr) (f : SEnv → M (List D)) : Prop := PI X tg e (tI b F f)
theorem PI.weak {X : Cx} {tg e : Expr} {t t' : TI} (h : PI X tg e t) (hw : ∀ σ H Q, t' σ H Q → t σ H Q) : PI X tg e t' := ⟨fun pins s σ H R I q => h.run pins s σ H R I (hw σ H R q)⟩
theorem PI.or {X : Cx} {tg e : Expr} {t t' : TI} (h : PI X tg e t) (h' : PI X tg e t') : PI X tg e (fun σ H R => t σ H R ∨ t' σ H R) := ⟨fun pins s σ H R I q => q.elim (h.run pins s σ H R I) (h'.run pins s σ H R I)⟩
def eItems (g : D → Option (List D)) (f : SEnv → M D) : SEnv → M (List D) := fun Γ => do let d ← f Γ; ofOpt (g d)
section
variable {X : Cx} {F : Fr} {k : Nat} {tg e : Expr} {f : SEnv → M D} {S : Addr → Prop} {H1 : Hp}
theorem itok_list {b : Bool} {a : Addr} {vs : List V} {l : List D} (es : ∀ a, S a → Mut (H1 a)) (hp : ∀ a, F.pa = some a → S a) (h : H1 a = some (.lst vs)) (hb : (b = false ∧ ¬ S a) ∨ (b = true ∧ F.pa ≠ some a)) (r : Reps F.toWd S H1 l vs) : ItOk F (Fut b F S H1) (Itl F.K a) l := by
  intro H S' fut mt
  have hh : H a = some (.lst vs) ∧ Reps F.toWd S' H l vs := by
    rcases hb with ⟨rfl, n⟩ | ⟨rfl, n⟩
    · have g : Goes S S' H1 H := fut
      exact ⟨g.keep _ _ h n nt_lst, Reps.goes g _ _ r⟩
    · obtain ⟨e, sb⟩ := (show Ext F H1 H ∧ ∀ a, S' a → S a ∨ H1 a = none from fut)
      have g : Goes S S' H1 H := ⟨(e.goes es hp).keep, sb, es⟩
      exact ⟨e.get _ _ h n nt_lst, Reps.goes g _ _ r⟩
  obtain ⟨h2, r2⟩ := hh
  refine ⟨fun i hi => ?_, vs, SqL.of h2, by rw [r.length]; exact Nat.le_refl _⟩
  have hi' : i < vs.length := by rw [← r.length]; exact hi
  refine ⟨⟨vs, vs[i], SqL.of h2, List.getElem?_eq_getElem hi'⟩, fun x H' ⟨e, y⟩ => ?_⟩
  subst e
  obtain ⟨d, e, q⟩ := r2.get' (y vs (SqL.of h2))
  exact ⟨Same.refl _, d, e, q⟩
/-- a list or a tuple, walked -/
theorem ei_seq' (b : Bool) (o : On X F k) (he : EXP (RI b) X F e f) : EI b X F tg e (eItems itemsT f) := PI.weak (PI.or (pi_list he) (pi_tup he)) fun σ H R q => by
  obtain ⟨S, Γ, p, es, q⟩ := q
  have q := OutOk.bind.mp q
  have tupc : (∀ d p1, f Γ p = .ok (d, p1) → ∃ l, d = .tup l) → iTup X.K (tX (RI b) F f) σ H R := fun hd => by
    refine ⟨S, Γ, p, es, ?_⟩
    cases g : f Γ p with
    | bad => rw [g] at q; exact q.elim
    | exc x => rw [g] at q; exact q
    | ok y =>
      obtain ⟨d, p1⟩ := y
      obtain ⟨l, rfl⟩ := hd d p1 g
      rw [g] at q
      intro v H1 e1 q1 r1
      have q9 : ∀ (J : It) (H2 : Hp), Ext F H H2 → PotOk F H2 p1 → ItOk F (Fut b F S H2) J l → R J H2 := q
      have r1' : RepT F S H1 (.tup l) v := by
        cases b with
        | true => exact r1
        | false => exact .inl r1
      obtain ⟨a, vs, rfl, h, rs⟩ := r1'.tup
      refine ⟨a, rfl, ⟨vs, by rw [o.K]; exact h⟩, ?_⟩
      have es1 := es.ext e1 q1
      rw [o.K]
      refine q9 _ H1 e1 q1 ?_
      intro H2 S' fut mt
      have hh : SqT F.K H2 a vs ∧ Reps F.toWd S' H2 l vs := by
        cases b with
        | false => exact ⟨Goes.sqt (show Goes S S' H1 H2 from fut) h, Reps.goes (show Goes S S' H1 H2 from fut) _ _ rs⟩
        | true =>
          obtain ⟨e, sb⟩ := (show Ext F H1 H2 ∧ ∀ a, S' a → S a ∨ H1 a = none from fut)
          have g : Goes S S' H1 H2 := ⟨(e.goes es1.mt es1.pa).keep, sb, es1.mt⟩
          exact ⟨g.sqt h, Reps.goes g _ _ rs⟩
      obtain ⟨h2, r2⟩ := hh
      refine ⟨fun i hi => ?_, vs, h2, by rw [rs.length]; exact Nat.le_refl _⟩
      have hi' : i < vs.length := by rw [← rs.length]; exact hi
      refine ⟨⟨vs, vs[i], h2, List.getElem?_eq_getElem hi'⟩, fun x H' ⟨e, y⟩ => ?_⟩
      subst e
      obtain ⟨d, e, q⟩ := r2.get' (y vs h2)
      exact ⟨Same.refl _, d, e, q⟩
  have lstc : (∀ d p1, f Γ p = .ok (d, p1) → ∃ l, d = .lst l) → iList X.K (tX (RI b) F f) σ H R := fun hd => by
    refine ⟨S, Γ, p, es, ?_⟩
    cases g : f Γ p with
    | bad => rw [g] at q; exact q.elim
    | exc x => rw [g] at q; exact q
    | ok y =>
      obtain ⟨d, p1⟩ := y
      obtain ⟨l, rfl⟩ := hd d p1 g
      rw [g] at q
      intro v H1 e1 q1 r1
      have q9 : ∀ (J : It) (H2 : Hp), Ext F H H2 → PotOk F H2 p1 → ItOk F (Fut b F S H2) J l → R J H2 := q
      have es1 := es.ext e1 q1
      rw [o.K]
      cases b with
      | true =>
        rcases (show RepT F S H1 (.lst l) v from r1) with r1 | ⟨a, rfl, np, vs, h, rs⟩
        · unfold Rep at r1
          obtain ⟨a, rfl, n, vs, h, rs⟩ := r1
          exact ⟨a, rfl, ⟨vs, SqL.of h⟩, q9 _ H1 e1 q1 (itok_list es1.mt es1.pa h (.inr ⟨rfl, fun z => n (es1.pa a z)⟩) rs)⟩
        · exact ⟨a, rfl, ⟨vs, SqL.of h⟩, q9 _ H1 e1 q1 (itok_list es1.mt es1.pa h (.inr ⟨rfl, np⟩) rs)⟩
      | false =>
        have r1 : Rep F.toWd S H1 (.lst l) v := r1
        unfold Rep at r1
        obtain ⟨a, rfl, n, vs, h, rs⟩ := r1
        exact ⟨a, rfl, ⟨vs, SqL.of h⟩, q9 _ H1 e1 q1 (itok_list es1.mt es1.pa h (.inl ⟨rfl, n⟩) rs)⟩
  cases g : f Γ p with
  | bad => rw [g] at q; exact q.elim
  | exc x => exact .inl (lstc fun d p1 e => by rw [g] at e; cases e)
  | ok y =>
    obtain ⟨d, p1⟩ := y
    have q' := q
    rw [g] at q'
    obtain ⟨ds, e2, _⟩ := out_opt.mp q'
    cases d <;> try cases e2
    · exact .inr (tupc fun d p1 e => by rw [g] at e; cases e; exact ⟨_, rfl⟩)
    · exact .inl (lstc fun d p1 e => by rw [g] at e; cases e; exact ⟨_, rfl⟩)
theorem ei_seq (o : On X F k) (he : EV X F e f) : EI false X F tg e (eItems itemsT f) := ei_seq' false o he
theorem ei_seqB (o : On X F k) (he : EVB X F e f) : EI true X F tg e (eItems itemsT f) := ei_seq' true o he
/-- range(n), range(a, b) -/
def rngI (lo : Int) (n : Nat) : List D := (List.range n).map fun (i : Nat) => .int (lo + i)
def rng1 : List D → Option (List D)
  | [.int j] => if -(2 ^ 62) ≤ j ∧ j < 2 ^ 62 then some (rngI 0 j.toNat) else none
  | _ => none
def rng2 : List D → Option (List D)
  | [.int i, .int j] => if -(2 ^ 62) ≤ i ∧ i < 2 ^ 62 ∧ -(2 ^ 62) ≤ j ∧ j < 2 ^ 62 then some (rngI i (j - i).toNat) else none
  | _ => none
def eRng (g : List D → Option (List D)) (fs : SEnv → M (List D)) : SEnv → M (List D) := fun Γ => do let ds ← fs Γ; ofOpt (g ds)
theorem itok_rng {b : Bool} {lo : Int} {n : Nat} : ItOk F (Fut b F S H1) (Itr lo n) (rngI lo n) := by
  intro H S' fut mt
  have hl : (rngI lo n).length = n := by unfold rngI; rw [List.length_map, List.length_range]
  refine ⟨fun i hi => ?_, Nat.le_of_eq hl.symm⟩
  rw [hl] at hi
  refine ⟨hi, fun x H' ⟨e, y⟩ => ?_⟩
  subst e y
  refine ⟨Same.refl _, .int (lo + i), ?_, rep_i⟩
  unfold rngI
  rw [List.getElem?_map, List.getElem?_range hi]
  rfl
variable {a a2 : Expr} {fs : SEnv → M (List D)} {p pos : Pos} {b : Bool}
theorem ei_range1 (o : On X F k) (hg : Gl X "range") (hm : F.mg "range" = none) (ha : EA true X F [a] fs) (hs : starEach [a] X.env = [(false, eval a X.env)] := by rfl) : EI b X F tg (.Call (.Name "range" p) [a] [] pos) (eRng rng1 fs) :=
  PI.weak (pi_range1 hg (by rw [o.mg]; exact hm) ha hs) fun σ H R q => by
    obtain ⟨S, Γ, p, es, q⟩ := q
    refine ⟨S, Γ, p, es, (OutOk.bind.mp q).imp fun ds p1 q vs H1 e1 q1 r1 => ?_⟩
    obtain ⟨l, e2, q⟩ := out_opt.mp q
    unfold rng1 at e2
    split at e2
    · obtain ⟨v, rfl, r⟩ := pir1 r1
      obtain ⟨hb, rfl⟩ := ite_sm e2
      exact ⟨_, by rw [r.int], hb.1, hb.2, q _ H1 e1 q1 itok_rng⟩
    · cases e2
theorem ei_range2 (o : On X F k) (hg : Gl X "range") (hm : F.mg "range" = none) (ha : EA true X F [a, a2] fs) (hs : starEach [a, a2] X.env = [(false, eval a X.env), (false, eval a2 X.env)] := by rfl) (hs2 : starEach [a2] X.env = [(false, eval a2 X.env)] := by rfl) :
    EI b X F tg (.Call (.Name "range" p) [a, a2] [] pos) (eRng rng2 fs) :=
  PI.weak (pi_range2 hg (by rw [o.mg]; exact hm) ha hs hs2) fun σ H R q => by
    obtain ⟨S, Γ, p, es, q⟩ := q
    refine ⟨S, Γ, p, es, (OutOk.bind.mp q).imp fun ds p1 q vs H1 e1 q1 r1 => ?_⟩
    obtain ⟨l, e2, q⟩ := out_opt.mp q
    unfold rng2 at e2
    split at e2
    · obtain ⟨v, v', rfl, r, r'⟩ := pir2 r1
      obtain ⟨hb, rfl⟩ := ite_sm e2
      exact ⟨_, _, by rw [r.int, r'.int], ⟨hb.1, hb.2.1, hb.2.2.1, hb.2.2.2⟩, q _ H1 e1 q1 itok_rng⟩
    · cases e2
end

/-! ### for -/
def forL (step : D → DS) : List D → DS
  | [], Γ => pure (.nx, Γ)
  | d :: l, Γ => do
    let r ← step d Γ
    match r.1 with
    | .nx => forL step l r.2
    | .ct => forL step l r.2
    | .bk => pure (.nx, r.2)
    | .rt x => pure (.rt x, r.2)
def turnS (t : D → SEnv → Option SEnv) (body : DS) (cl : List Nat) : D → DS := fun d Γ => do
  let Γ1 ← ofOpt (t d Γ)
  let r ← body Γ1
  pure (r.1, clrs cl r.2)
def sFor (it : SEnv → M (List D)) (t : D → SEnv → Option SEnv) (body : DS) (cl : List Nat) : DS := fun Γ => do
  let ds ← it Γ
  forL (turnS t body cl) ds Γ
section
variable {X : Cx} {F : Fr} {k : Nat} {tg e : Expr} {it : SEnv → M (List D)} {t : D → SEnv → Option SEnv} {body : List Stmt} {g : DS} {pos : Pos}
def ContS (F : Fr) (D : Ends) (Γ : SEnv) (σ : St) (H : Hp) : Fl × SEnv → Pot → Prop := fun r p' => match r.1 with
  | .nx => ∀ σ' H', Kp F Γ σ H r.2 σ' H' → StOk F r.2 p' σ' H' → D.nx σ' H'
  | .bk => ∀ σ' H', Kp F Γ σ H r.2 σ' H' → StOk F r.2 p' σ' H' → D.bk σ' H'
  | .ct => ∀ σ' H', Kp F Γ σ H r.2 σ' H' → StOk F r.2 p' σ' H' → D.ct σ' H'
  | .rt d => ∀ v H', SameX F H' → PotOk F H' p' → Rep F.toWd F.S0 H' d v → D.rt v H'
theorem OutOk.assoc {α β γ : Type} {m : M α} {f : α → M β} {h : β → M γ} {p : Pot} {K : γ → Pot → Prop} : OutOk F (((m >>= f) >>= h) p) K ↔ OutOk F (m p) fun a q => OutOk F (f a q) fun b q => OutOk F (h b q) K := by
  rw [OutOk.bind, OutOk.bind]
/-- the loop's core: from turn i on -/
theorem for_core (hg : PG X tg (tG F t)) (cl : List Nat) {D : Ends} {Γ0 : SEnv} {σ0 : St} {H0 H1 : Hp} {p1 : Pot} {ds : List PL.D} {J : It} (st0 : StOk F Γ0 p1 σ0 H1) (kp0 : Kp F Γ0 σ0 H0 Γ0 σ0 H1) (J1 : ItOk F (Fut false F (Sof F Γ0 σ0) H1) J ds)
    (q : OutOk F (forL (turnS t g cl) ds Γ0 p1) (ContS F D Γ0 σ0 H0)) :
    ∃ W : Nat → Nat → St → Hp → Prop, (∃ m, W 0 m σ0 H1) ∧ ∀ i m σ H, W i m σ H →
      (J.stop i H ∧ D.nx σ H) ∨ (J.go i H ∧ ∃ N : St → Hp → Prop, (∀ σ' H', N σ' H' → ∃ m', m' < m ∧ W (i + 1) m' σ' H') ∧ ∀ x H', J.yld i H x H' → tG F t x σ H' fun σ2 H2 => tS F g { D with nx := N, ct := N, bk := D.nx } σ2 H2) := by
  refine ⟨fun i m σ H => m = ds.length - i ∧ i ≤ ds.length ∧ ∃ Γ p, StOk F Γ p σ H ∧ Kp F Γ0 σ0 H1 Γ σ H ∧ OutOk F (forL (turnS t g cl) (ds.drop i) Γ p) (ContS F D Γ0 σ0 H0), ⟨_, rfl, Nat.zero_le _, Γ0, p1, st0, .refl, by rw [List.drop_zero]; exact q⟩, ?_⟩
  rintro i m σ H ⟨rfl, hi, Γ, p, st, kp, q⟩
  have jj := J1 H (Sof F Γ σ) (kp.goes st0) st.es.mt
  by_cases hlt : i < ds.length
  · obtain ⟨hgo, hy⟩ := jj.1 i hlt
    refine .inr ⟨hgo, fun σ' H' => ∃ Γ' p', StOk F Γ' p' σ' H' ∧ Kp F Γ0 σ0 H1 Γ' σ' H' ∧ OutOk F (forL (turnS t g cl) (ds.drop (i + 1)) Γ' p') (ContS F D Γ0 σ0 H0), fun σ' H' ⟨Γ', p', s', k', q'⟩ => ⟨ds.length - (i + 1), by omega, rfl, hlt, Γ', p', s', k', q'⟩, fun x H' yl => ?_⟩
    obtain ⟨sm, d, ed, r⟩ := hy x H' yl
    have eH : Ext F H H' := .of sm
    have q0 := st.es.pot.same sm
    have st' := st.ext eH q0
    have kp' := kp.trans (Kp.ext st eH q0)
    rw [List.drop_eq_getElem_cons hlt] at q
    have ed' : ds[i] = d := by rw [List.getElem?_eq_getElem hlt] at ed; exact Option.some.inj ed
    rw [ed'] at q
    unfold forL turnS at q
    have q := OutOk.assoc.mp (OutOk.bind.mp q |> fun z => OutOk.bind.mpr z)
    obtain ⟨Γ1, e1, q⟩ := out_opt.mp q
    refine ⟨Γ, p, d, st', r, Γ1, e1, fun σ1 k1 s1 => ?_⟩
    refine ⟨Γ1, p, s1, (OutOk.bind.mp q).imp fun r p2 q => ?_⟩
    obtain ⟨fl, Γ2⟩ := r
    have kpt := kp'.trans k1
    cases fl with
    | nx =>
      intro σ2 H2 k2 s2
      obtain ⟨s3, k3⟩ := StOk.clrs cl s2
      exact ⟨_, p2, s3, (kpt.trans k2).trans k3, q⟩
    | ct =>
      intro σ2 H2 k2 s2
      obtain ⟨s3, k3⟩ := StOk.clrs cl s2
      exact ⟨_, p2, s3, (kpt.trans k2).trans k3, q⟩
    | bk =>
      intro σ2 H2 k2 s2
      obtain ⟨s3, k3⟩ := StOk.clrs cl s2
      exact (show ∀ σ' H', Kp F Γ0 σ0 H0 (clrs cl Γ2) σ' H' → StOk F (clrs cl Γ2) p2 σ' H' → D.nx σ' H' from q) _ _ (kp0.trans ((kpt.trans k2).trans k3)) s3
    | rt d => exact q
  · have ei : i = ds.length := by omega
    subst ei
    rw [List.drop_length] at q
    exact .inl ⟨jj.2, (show ∀ σ' H', Kp F Γ0 σ0 H0 Γ σ' H' → StOk F Γ p σ' H' → D.nx σ' H' from q) _ _ (kp0.trans kp) st⟩
theorem es_for (o : On X F k) (hp : PassesOwn (model X.prog X.w) X.A X.env X.xe) (cl : List Nat) (hi : EI false X F tg e it) (hg : PG X tg (tG F t)) (hb : ESs X F body g) (hs : ∀ x, foldedSetIterable e X.env x = pure x := by intro _; rfl) : ES1 X F (.For tg e body [] pos) (sFor it t g cl) :=
  PS.weak (ps_for hp o.calm hi hg hb hs) fun D σ H q => by
    obtain ⟨Γ, p, st, q⟩ := q
    refine ⟨_, Γ, p, st.es, (OutOk.bind.mp q).imp fun ds p1 q J H1 e1 q1 J1 => ?_⟩
    exact for_core hg cl (st.ext e1 q1) (Kp.ext st e1 q1) J1 q
end

/-! ### while -/
/-- at most n turns -/
def whileF (c : SEnv → M D) (body : DS) : Nat → DS
  | 0, _ => M.bad
  | n + 1, Γ => do
    match ← c Γ with
    | .bl true => do
      let r ← body Γ
      match r.1 with
      | .nx => whileF c body n r.2
      | .ct => whileF c body n r.2
      | .bk => pure (.nx, r.2)
      | .rt x => pure (.rt x, r.2)
    | .bl false => pure (.nx, Γ)
    | _ => M.bad
def isBad {α : Type} : Out α → Bool
  | .bad => true
  | _ => false
open Classical in
/-- as many turns as it takes; bad where it goes on for ever -/
noncomputable def sWhile (c : SEnv → M D) (body : DS) (cl : List Nat) : DS := fun Γ p =>
  if h : ∃ n, isBad (whileF c (sSeq body fun Γ => pure (.nx, clrs cl Γ)) n Γ p) = false then whileF c (sSeq body fun Γ => pure (.nx, clrs cl Γ)) (Classical.choose h) Γ p else .bad
section
variable {X : Cx} {F : Fr} {k : Nat} {c : Expr} {fc : SEnv → M D} {body : List Stmt} {g : DS} {pos : Pos}
theorem while_core {D : Ends} {Γ0 : SEnv} {σ0 : St} {H0 : Hp} {p0 : Pot} (st0 : StOk F Γ0 p0 σ0 H0) (n : Nat) (q : OutOk F (whileF fc g n Γ0 p0) (ContS F D Γ0 σ0 H0)) : tWhile (tT F fc) (tS F g) D σ0 H0 := by
  refine ⟨fun m σ H => ∃ Γ p, StOk F Γ p σ H ∧ Kp F Γ0 σ0 H0 Γ σ H ∧ OutOk F (whileF fc g m Γ p) (ContS F D Γ0 σ0 H0), ⟨n, Γ0, p0, st0, .refl, q⟩, ?_⟩
  rintro m σ H ⟨Γ, p, st, kp, q⟩
  cases m with
  | zero => exact q.elim
  | succ m =>
    unfold whileF at q
    refine ⟨_, Γ, p, st.es, (OutOk.bind.mp q).imp fun d p1 q => ?_⟩
    have hb : ∃ b, d = .bl b := by cases d <;> first | exact ⟨_, rfl⟩ | exact q.elim
    obtain ⟨b, rfl⟩ := hb
    refine ⟨b, rfl, fun H1 e1 q1 => ?_⟩
    have s1 := st.ext e1 q1
    have k1 := kp.trans (Kp.ext st e1 q1)
    cases b with
    | false => exact iteF ((show ∀ σ' H', Kp F Γ0 σ0 H0 Γ σ' H' → StOk F Γ p1 σ' H' → D.nx σ' H' from q) _ _ k1 s1)
    | true =>
      refine iteT ⟨fun σ' H' => ∃ Γ' p', StOk F Γ' p' σ' H' ∧ Kp F Γ0 σ0 H0 Γ' σ' H' ∧ OutOk F (whileF fc g m Γ' p') (ContS F D Γ0 σ0 H0), fun σ' H' h => ⟨m, Nat.lt_succ_self _, h⟩, ?_⟩
      refine ⟨Γ, p1, s1, (OutOk.bind.mp (show OutOk F ((g Γ >>= fun r => match r.1 with
        | .nx => whileF fc g m r.2
        | .ct => whileF fc g m r.2
        | .bk => pure (.nx, r.2)
        | .rt x => pure (.rt x, r.2)) p1) _ from q)).imp fun r p2 q => ?_⟩
      obtain ⟨fl, Γ2⟩ := r
      cases fl with
      | nx => exact fun σ2 H2 k2 s2 => ⟨Γ2, p2, s2, k1.trans k2, q⟩
      | ct => exact fun σ2 H2 k2 s2 => ⟨Γ2, p2, s2, k1.trans k2, q⟩
      | bk => exact fun σ2 H2 k2 s2 => (show ∀ σ' H', Kp F Γ0 σ0 H0 Γ2 σ' H' → StOk F Γ2 p2 σ' H' → D.nx σ' H' from q) _ _ (k1.trans k2) s2
      | rt d => exact q
theorem es_while (hp : PassesOwn (model X.prog X.w) X.A X.env X.xe) (cl : List Nat) (hc : ET X F c fc) (hb : ESs X F body g) : ES1 X F (.While c body [] pos) (sWhile fc g cl) :=
  PS.weak (ps_while hp hc (PSs.weak (t' := tS F (sSeq g fun Γ => pure (.nx, clrs cl Γ))) hb fun D σ H q => by
    obtain ⟨Γ, p, st, q⟩ := q
    refine ⟨Γ, p, st, (OutOk.bind.mp q).imp fun r p1 q => ?_⟩
    obtain ⟨fl, Γ1⟩ := r
    cases fl with
    | nx =>
      intro σ1 H1 k1 s1
      obtain ⟨s2, k2⟩ := StOk.clrs cl s1
      exact (show ∀ σ' H', Kp F Γ σ H (clrs cl Γ1) σ' H' → StOk F (clrs cl Γ1) p1 σ' H' → D.nx σ' H' from q) _ _ (k1.trans k2) s2
    | bk => exact q
    | ct => exact q
    | rt d => exact q)) fun D σ H q => by
    obtain ⟨Γ, p, st, q⟩ := q
    unfold sWhile at q
    split at q
    · exact while_core st _ q
    · exact q.elim
end
end PL

set_option Elab.async false
set_option linter.all false
set_option maxRecDepth 100000
set_option maxHeartbeats 4000000
/-! PL10: list comprehensions. -/
namespace PL
open PySem L2
variable [TabL]

abbrev Fr.noE (F : Fr) : Fr := { F with E := fun _ _ _ => False }
theorem ES.noE {F : Fr} {S : Addr → Prop} {Γ : SEnv} {p : Pot} {σ : St} {H : Hp} (h : ES F S Γ p σ H) : ES F.noE S Γ p σ H := ⟨fun i s e => let ⟨x, e1, r⟩ := h.env i s e; ⟨x, e1, by cases s <;> exact r⟩, h.pot, h.mt, h.pa, h.s0, h.same⟩
theorem ES.ofNoE {F : Fr} {S : Addr → Prop} {Γ : SEnv} {p : Pot} {σ : St} {H : Hp} (h : ES F.noE S Γ p σ H) : ES F S Γ p σ H := ⟨fun i s e => let ⟨x, e1, r⟩ := h.env i s e; ⟨x, e1, by cases s <;> exact r⟩, h.pot, h.mt, h.pa, h.s0, h.same⟩
theorem OutOk.nox {α : Type} {F F' : Fr} {m : M α} {p : Pot} {k : α → Pot → Prop} (h : OutOk F (M.nox m p) k) : OutOk F' (m p) k := by
  unfold M.nox at h
  cases g : m p with
  | ok y => rw [g] at h; exact h
  | exc x => rw [g] at h; exact h.elim
  | bad => rw [g] at h; exact h.elim
theorem On.blk {X : Cx} {F : Fr} {k : Nat} (o : On X F k) (s : Shared) (H : Hp) (scope : Scope) (cenv : Env) (fp : List Addr) : On (X.blk s H scope cenv fp) F.noE k :=
  ⟨o.P, o.w, o.K, o.mg, o.room, o.nd, o.calm, fun u s' ⟨a, B, sI, pins, σ, H, cls, d, e, I, nb, up, sky, na, os, ag, w⟩ => w.elim⟩

/-- the target of a comprehension -/
def tGx (vs : List Nat) (F : Fr) (t : D → SEnv → Option SEnv) : TG := fun v σ H Q => ∃ S Γ p d, ES F S Γ p σ H ∧ Rep F.toWd S H d v ∧ ∃ Γ', t d Γ = some Γ' ∧ ∀ σ', wipe σ' vs = wipe σ vs → ES F S Γ' p σ' H → Q σ' H
def tGxs (vs : List Nat) (F : Fr) (t : List D → SEnv → Option SEnv) : TGs := fun ws σ H Q => ∃ S Γ p ds, ES F S Γ p σ H ∧ Reps F.toWd S H ds ws ∧ ∃ Γ', t ds Γ = some Γ' ∧ ∀ σ', wipe σ' vs = wipe σ vs → ES F S Γ' p σ' H → Q σ' H
theorem ES.set {F : Fr} {S : Addr → Prop} {Γ : SEnv} {p : Pot} {σ : St} {H : Hp} {i : Nat} {d : D} {v : V} (s : ES F S Γ p σ H) (r : Rep F.toWd S H d v) : ES F S (Γ.set i (.val d)) p (σ.set i (some v)) H := by
  refine ⟨fun j t h => ?_, s.pot, s.mt, s.pa, s.s0, s.same⟩
  rcases get_set_cases h with ⟨rfl, rfl, hl⟩ | ⟨hj, h⟩
  · obtain ⟨x, e, _⟩ := s.env j _ (List.getElem?_eq_getElem hl)
    have hσ : j < σ.length := (List.getElem?_eq_some_iff.mp e).1
    exact ⟨some v, List.getElem?_set_self hσ, v, rfl, r⟩
  · obtain ⟨x, e, r⟩ := s.env j t h
    exact ⟨x, by rw [List.getElem?_set_ne (Ne.symm hj)]; exact e, r⟩
theorem ES.clr {F : Fr} {S : Addr → Prop} {Γ : SEnv} {p : Pot} {σ : St} {H : Hp} {i : Nat} (s : ES F S Γ p σ H) : ES F S (Γ.set i .no) p (σ.set i none) H := by
  refine ⟨fun j t h => ?_, s.pot, s.mt, s.pa, s.s0, s.same⟩
  rcases get_set_cases h with ⟨rfl, rfl, hl⟩ | ⟨hj, h⟩
  · obtain ⟨x, e, _⟩ := s.env j _ (List.getElem?_eq_getElem hl)
    have hσ : j < σ.length := (List.getElem?_eq_some_iff.mp e).1
    exact ⟨none, List.getElem?_set_self hσ, trivial⟩
  · obtain ⟨x, e, r⟩ := s.env j t h
    exact ⟨x, by rw [List.getElem?_set_ne (Ne.symm hj)]; exact e, r⟩
theorem wipe_set {i : Nat} {x : Option V} : ∀ {vs : List Nat} {σ : St}, i ∈ vs → wipe (σ.set i x) vs = wipe σ vs
  | [], _, h => by cases h
  | v :: vs, σ, h => by
    show (wipe (σ.set i x) vs).set v none = (wipe σ vs).set v none
    by_cases hm : i ∈ vs
    · rw [wipe_set hm]
    · have hv : v = i := by
        rcases List.mem_cons.mp h with e | e
        · exact e.symm
        · exact absurd e hm
      subst hv
      have key : ∀ (ws : List Nat), v ∉ ws → wipe (σ.set v x) ws = (wipe σ ws).set v x := by
        intro ws
        induction ws with
        | nil => intro _; rfl
        | cons w ws ih =>
          intro hn
          show (wipe (σ.set v x) ws).set w none = ((wipe σ ws).set w none).set v x
          rw [ih fun z => hn (List.mem_cons_of_mem _ z)]
          exact List.set_comm _ _ fun z => hn (z ▸ List.mem_cons_self)
      rw [key vs hm, List.set_set]
theorem ES.wipe {F : Fr} {S : Addr → Prop} {p : Pot} {σ : St} {H : Hp} : ∀ (vs : List Nat) {Γ : SEnv}, ES F S Γ p σ H → ES F S (clrs vs.reverse Γ) p (L2.wipe σ vs) H
  | [], Γ, s => s
  | v :: vs, Γ, s => by
    have key : ∀ (l : List Nat) (Γ : SEnv), clrs (l ++ [v]) Γ = (clrs l Γ).set v .no := by
      intro l
      induction l with
      | nil => intro Γ; rfl
      | cons a l ih => intro Γ; exact ih _
    rw [List.reverse_cons, key]
    show ES F S ((clrs vs.reverse Γ).set v .no) p ((L2.wipe σ vs).set v none) H
    exact (ES.wipe vs s).clr
section
variable {X : Cx} {F : Fr} {vs : List Nat}
theorem egx_name {i : Nat} {x : Str} {pos : Pos} (hm : i ∈ vs) (hN : X.N.Nodup) (hi : X.N[i]? = some x := by rfl) (hx : Loc X.env.scope x := by first | exact Or.inl rfl | exact Or.inr rfl) (hf : X.fn x = true ∨ X.env.scope.names.lookup x = some .local := by first | exact .inl rfl | exact .inr rfl) : PG X (.Name x pos) (tGx vs F (gN i)) :=
  PG.weak (pg_name (i := i) hN hi hx hf) fun v σ H Q q => by
    obtain ⟨S, Γ, p, d, st, r, Γ', e, q⟩ := q
    cases e
    exact q _ (wipe_set hm) (st.set r)
theorem egxs_nil : PGs X [] (tGxs vs F gs0) := PGs.weak pgs_nil fun ws σ H Q q => by
  obtain ⟨S, Γ, p, ds, st, r, Γ', e, q⟩ := q
  cases ds with
  | nil =>
    cases e
    unfold Reps at r
    exact ⟨r, q _ rfl st⟩
  | cons d ds => cases e
theorem egxs_cons {e : Expr} {es : List Expr} {t : D → SEnv → Option SEnv} {u : List D → SEnv → Option SEnv} (h1 : PG X e (tGx vs F t)) (h2 : PGs X es (tGxs vs F u))
    (ha : (assignEach (e :: es) X.env).map (·.2) = assign e X.env :: (assignEach es X.env).map (·.2) := by rfl) : PGs X (e :: es) (tGxs vs F (gs1 t u)) := PGs.weak (pgs_cons h1 h2 ha) fun ws σ H Q q => by
  obtain ⟨S, Γ, p, ds, st, r, Γ', e, q⟩ := q
  cases ds with
  | nil => cases e
  | cons d ds =>
    have r := r
    unfold Reps at r
    obtain ⟨v, vs', rfl, r1, r2⟩ := r
    have e : (t d Γ).bind (u ds) = some Γ' := e
    cases g : t d Γ with
    | none => rw [g] at e; cases e
    | some Γ1 =>
      rw [g] at e
      refine ⟨v, vs', rfl, S, Γ, p, d, st, r1, Γ1, g, fun σ1 w1 st1 => ?_⟩
      exact ⟨S, Γ1, p, ds, st1, r2, Γ', e, fun σ2 w2 st2 => q σ2 (w2.trans w1) st2⟩
theorem egx_tup {es : List Expr} {kk k : Nat} {pos : Pos} {t : List D → SEnv → Option SEnv} {n : Nat} (o : On X F k) (h : PGs X es (tGxs vs F t)) (hl : ∀ ds Γ Γ', t ds Γ = some Γ' → ds.length = n) (hn : (assignEach es X.env).length = n := by rfl)
    (hp : (assignEach es X.env).findIdx? (·.1) = none := by rfl) : PG X (.Tuple es kk pos) (tGx vs F (gT t)) := PG.weak (pg_tup o.calm h hn hp) fun v σ H Q q => by
  obtain ⟨S, Γ, p, d, st, r, Γ', e, q⟩ := q
  cases d <;> try cases e
  rename_i l
  unfold Rep at r
  obtain ⟨a, ws, rfl, hs, rs⟩ := r
  exact ⟨a, ws, rfl, by rw [o.K]; exact hs, by rw [reps_len rs]; exact hl l Γ Γ' e, S, Γ, p, l, st, rs, Γ', e, q⟩
end

/-! ### the comprehension -/
def lcL (step : D → M (Option D)) : List D → M (List D)
  | [] => pure []
  | d :: l => do
    match ← step d with
    | some r => do let rs ← lcL step l; pure (r :: rs)
    | none => lcL step l
def stepC (t : D → SEnv → Option SEnv) (ft fe : SEnv → M D) (Γ : SEnv) : D → M (Option D) := fun d => do
  let Γ1 ← ofOpt (t d Γ)
  match ← M.nox (ft Γ1) with
  | .bl true => do let r ← M.nox (fe Γ1); pure (some r)
  | .bl false => pure none
  | _ => M.bad
def szD (ds : List D) : Option (List D) := if ds.length ≤ sizeLine then some ds else none
def eLc (vs : List Nat) (it : SEnv → M (List D)) (t : D → SEnv → Option SEnv) (ft fe : SEnv → M D) : SEnv → M D := fun Γ => do
  let ds ← it Γ
  let ds ← ofOpt (szD ds)
  let rs ← lcL (stepC t ft fe (clrs vs.reverse Γ)) ds
  pure (.lst rs)
def tYesD : SEnv → M D := eC (.bl true)
section
variable {X : Cx} {F : Fr} {k : Nat} {own : List (Str × Nat)} {elt tg iter : Expr} {ifs : List Expr} {scope : Scope} {pos : Pos} {it : SEnv → M (List D)} {t : D → SEnv → Option SEnv} {ft fe : SEnv → M D}
theorem lc_read {σ : St} {H : Hp} {Q : VK} {S : Addr → Prop} {Γ : SEnv} {p : Pot} (vs : List Nat) (es : ES F S Γ p σ H) (q : OutOk F (eLc vs it t ft fe Γ p) fun d p' => ∀ v H', Ext F H H' → PotOk F H' p' → RN F S H H' d v → Q v H') :
    tLc (tI true F it) (tGx vs F.noE t) (tT F.noE ft) (tX RV F.noE fe) vs σ H Q := by
  refine ⟨S, Γ, p, es, (OutOk.bind.mp q).imp fun ds p1 q J H1 e1 q1 J1 D hD => ?_⟩
  obtain ⟨ds', esz, q⟩ := out_opt.mp (OutOk.bind.mp q)
  obtain ⟨hsz, rfl⟩ := ite_sm esz
  have es1 := es.ext e1 q1
  have nS : ¬ S D := fun w => by have := es1.mt D w; rw [hD] at this; exact this
  -- the addresses that may not be met from now on
  let S' : Addr → Prop := fun a => S a ∨ a = D
  have inv0 : Ext F H1 (upd H1 D (.lst [])) := .of (upd_Same hD)
  -- what is known at each turn
  have esAt : ∀ {H2 : Hp} {p2 : Pot}, Ext F H1 H2 → PotOk F H2 p2 → (∃ xs, H2 D = some (.lst xs)) → ES F S' Γ p2 σ H2 := fun {H2 p2} e2 q2 hx => by
    have g : Goes S S' H1 H2 := ⟨fun a o h n nt => e2.get a o h (fun z => n (es1.pa a z)) nt, fun a w => w.elim .inl fun z => .inr (z ▸ hD), es1.mt⟩
    refine ⟨fun i s h => ?_, q2, fun a w => ?_, fun a h => .inl (es1.pa a h), fun a h => .inl (es1.s0 a h), es1.same.ext e2⟩
    · obtain ⟨x, ex, r⟩ := es1.env i s h
      refine ⟨x, ex, ?_⟩
      cases s with
      | no => trivial
      | val d => obtain ⟨v, e, r⟩ := r; exact ⟨v, e, Rep.goes g _ _ r⟩
      | own d => obtain ⟨a, e, sa, np, r⟩ := r; exact ⟨a, e, .inl sa, np, r.goes g fun o h nt => e2.get a o h np nt⟩
      | pot => exact r
      | exc x => exact SlOk.excGoes g r
      | thk q => exact SlOk.thkGoes g r
      | scr ns => exact SlOk.scrGoes g r
    · rcases w with w | rfl
      · exact e2.mt es1.mt q2 a w
      · obtain ⟨xs, hx⟩ := hx; rw [hx]; trivial
  refine ⟨fun i m H2 => m = ds.length - i ∧ i ≤ ds.length ∧ ∃ p2 acc accD, acc.length ≤ i ∧ Ext F H1 H2 ∧ PotOk F H2 p2 ∧ H2 D = some (.lst acc) ∧ Reps F.toWd S' H2 accD acc ∧
    OutOk F (lcL (stepC t ft fe (clrs vs.reverse Γ)) (ds.drop i) p2) fun rs p' => ∀ v H', Ext F H H' → PotOk F H' p' → RN F S H H' (.lst (accD ++ rs)) v → Q v H',
    ⟨_, rfl, Nat.zero_le _, p1, [], [], Nat.zero_le _, inv0, q1.same (upd_Same hD), upd_same, .nil, by rw [List.drop_zero]; exact OutOk.bind.mp q⟩, ?_⟩
  rintro i m H2 ⟨rfl, hi, p2, acc, accD, hal, e2, q2, hx, ra, q⟩
  have es2 := esAt e2 q2 ⟨acc, hx⟩
  have jj := J1 H2 S' ⟨e2, fun a w => w.elim .inl fun z => .inr (z ▸ hD)⟩ es2.mt
  by_cases hlt : i < ds.length
  · obtain ⟨hgo, hy⟩ := jj.1 i hlt
    refine .inr ⟨hgo, fun H' => ∃ p2 acc accD, acc.length ≤ i + 1 ∧ Ext F H1 H' ∧ PotOk F H' p2 ∧ H' D = some (.lst acc) ∧ Reps F.toWd S' H' accD acc ∧
      OutOk F (lcL (stepC t ft fe (clrs vs.reverse Γ)) (ds.drop (i + 1)) p2) fun rs p' => ∀ v H', Ext F H H' → PotOk F H' p' → RN F S H H' (.lst (accD ++ rs)) v → Q v H',
      fun H' h => ⟨ds.length - (i + 1), by omega, rfl, hlt, h⟩, fun x H3 yl => ?_⟩
    obtain ⟨sm, d, ed, r⟩ := hy x H3 yl
    have e23 : Ext F H2 H3 := .of sm
    have q3 := q2.same sm
    have es3 : ES F S' Γ p2 σ H3 := es2.ext e23 q3
    rw [List.drop_eq_getElem_cons hlt] at q
    have ed' : ds[i] = d := by rw [List.getElem?_eq_getElem hlt] at ed; exact Option.some.inj ed
    rw [ed'] at q
    unfold lcL at q
    have q := OutOk.bind.mp q
    unfold stepC at q
    obtain ⟨Γ1, eΓ, q⟩ := out_opt.mp (OutOk.bind.mp q)
    have esw := ES.wipe vs es3
    refine ⟨S', clrs vs.reverse Γ, p2, d, esw.noE, r, Γ1, eΓ, fun σ2 w2 es4 => ?_⟩
    have hw2 : ∀ σ : St, ∀ vs : List Nat, L2.wipe (L2.wipe σ vs) vs = L2.wipe σ vs := by
      intro σ vs
      have key : ∀ (ws us : List Nat), (∀ w ∈ ws, w ∈ us) → L2.wipe (L2.wipe σ us) ws = L2.wipe σ us := by
        intro ws
        induction ws with
        | nil => intro us _; rfl
        | cons w ws ih =>
          intro us hs
          show (L2.wipe (L2.wipe σ us) ws).set w none = L2.wipe σ us
          rw [ih us fun z hz => hs z (List.mem_cons_of_mem _ hz)]
          have hw := hs w List.mem_cons_self
          apply List.ext_getElem?
          intro j
          by_cases hj : w = j
          · subst hj
            by_cases hl : w < (L2.wipe σ us).length
            · rw [List.getElem?_set_self hl]
              cases g : (L2.wipe σ us)[w]? with
              | none => rw [List.getElem?_eq_none_iff] at g; omega
              | some o =>
                cases o with
                | none => rfl
                | some y => exact absurd hw (wipe_some g).2
            · rw [List.getElem?_eq_none (by simpa using hl), List.getElem?_eq_none (by omega)]
          · rw [List.getElem?_set_ne hj]
      exact key vs vs fun _ h => h
    refine ⟨by rw [w2, hw2], S', Γ1, p2, es4, ?_⟩
    refine (OutOk.bind.mp q).nox.imp fun b p3 q => ?_
    have hb : ∃ c, b = .bl c := by cases b <;> first | exact ⟨_, rfl⟩ | exact q.elim
    obtain ⟨c, rfl⟩ := hb
    refine ⟨c, rfl, fun H4 e34 q4 => ?_⟩
    have e24 : Ext F H1 H4 := (e2.trans e23).trans e34
    have npD : F.pa ≠ some D := fun z => nS (es1.pa D z)
    have hx4 : H4 D = some (.lst acc) := e34.get _ _ (e23.get _ _ hx npD nt_lst) npD nt_lst
    have g24 : Goes S' S' H2 H4 := ⟨fun a o h n nt => e34.get _ _ (e23.get _ _ h (fun z => n (.inl (es1.pa a z))) nt) (fun z => n (.inl (es1.pa a z))) nt, fun _ w => .inl w, es2.mt⟩
    cases c with
    | false =>
      exact iteF ⟨p3, acc, accD, Nat.le_succ_of_le hal, e24, q4, hx4, Reps.goes g24 _ _ ra, q⟩
    | true =>
      have q := OutOk.bind.mp (show OutOk F ((M.nox (fe Γ1) >>= fun r => pure (some r)) p3) _ from q)
      refine iteT ⟨S', Γ1, p3, es4.ext e34 q4, q.nox.imp fun y p4 q v H5 e45 q5 r5 => ?_⟩
      have q := OutOk.bind.mp (show OutOk F ((lcL (stepC t ft fe (clrs vs.reverse Γ)) (ds.drop (i + 1)) >>= fun rs => pure (y :: rs)) p4) _ from q)
      have e25 : Ext F H1 H5 := e24.trans e45
      have hx5 : H5 D = some (.lst acc) := e45.get _ _ hx4 npD nt_lst
      have es5 := esAt e25 q5 ⟨acc, hx5⟩
      have hz : acc.length < sizeLine := by omega
      have g45 : Goes S' S' H4 H5 := ⟨fun a o h n nt => e45.get _ _ h (fun z => n (.inl (es1.pa a z))) nt, fun _ w => .inl w, (esAt e24 q4 ⟨acc, hx4⟩).mt⟩
      have g56 : Goes S' S' H5 (upd H5 D (.lst (acc ++ [v]))) := ⟨fun a o h n _ => by rw [upd_ne (fun z => n (.inr z))]; exact h, fun _ w => .inl w, es5.mt⟩
      refine ⟨acc, hx5, hz, p4, acc ++ [v], accD ++ [y], by rw [List.length_append]; exact Nat.succ_le_succ hal, e25.trans2 (Kept.set1 (X := fun b => b = D) hx5 nc_lst rfl) (fun c o h z => by rw [z, hD] at h; cases h), fun a h => ?_, upd_same, Reps.goes g56 _ _ ((Reps.goes g45 _ _ (Reps.goes g24 _ _ ra)).append (.cons r5 .nil)), ?_⟩
      · have z := es1.pa a h
        obtain ⟨c1, c2⟩ := q5 a h
        refine ⟨by rw [upd_ne (fun w => by subst w; exact nS z)]; exact c1, ?_⟩
        by_cases hc : F.ca = D
        · obtain ⟨_, d2⟩ := q1 a h
          rw [hc, hD] at d2; cases d2
        · rw [upd_ne hc]; exact c2
      · exact q.imp fun rs p' q => by
          rw [List.append_assoc]
          exact q
  · have ei : i = ds.length := by omega
    subst ei
    rw [List.drop_length] at q
    have q : ∀ v H', Ext F H H' → PotOk F H' p2 → RN F S H H' (.lst (accD ++ [])) v → Q v H' := q
    exact .inl ⟨jj.2, q _ H2 (e1.trans e2) q2 ⟨D, rfl, es.sub e1 q1 D hD, acc, hx, by rw [List.append_nil]; exact ra⟩⟩
theorem ev_lc (o : On X F k) (hi : EI true X F tg iter it) (ok : BlkOk X.N X.env.scope scope own)
    (hg : ∀ (s : Shared) (H : Hp) (C : Addr) (cl : List (Str × Addr)) (fp : List Addr), On (X.blk s H scope (compEnvC scope cl C X.env) fp) F.noE k → PG (X.blk s H scope (compEnvC scope cl C X.env) fp) tg (tGx (own.map (·.2)) F.noE t))
    (ht : ∀ (s : Shared) (H : Hp) (C : Addr) (cl : List (Str × Addr)) (fp : List Addr), On (X.blk s H scope (compEnvC scope cl C X.env) fp) F.noE k → PTs (X.blk s H scope (compEnvC scope cl C X.env) fp) ifs (tT F.noE ft))
    (he : ∀ (s : Shared) (H : Hp) (C : Addr) (cl : List (Str × Addr)) (fp : List Addr), On (X.blk s H scope (compEnvC scope cl C X.env) fp) F.noE k → EV (X.blk s H scope (compEnvC scope cl C X.env) fp) F.noE elt fe) (hs : ∀ x, foldedSetIterable iter X.env x = pure x := by intro _; rfl) :
    EVN X F (.ListComp elt [⟨tg, iter, ifs, 0⟩] scope pos) (eLc (own.map (·.2)) it t ft fe) :=
  PE.weak (pe_lc o.calm o.nd hi ok (fun s H C cl fp => hg s H C cl fp (o.blk _ _ _ _ _)) (fun s H C cl fp => ht s H C cl fp (o.blk _ _ _ _ _)) (fun s H C cl fp => he s H C cl fp (o.blk _ _ _ _ _)) hs) fun σ H Q q => by
    obtain ⟨S, Γ, p, es, q⟩ := q
    exact lc_read _ es q
theorem ets_nil : PTs X [] (tT F tYesD) := ⟨fun pins s σ H Q I q => pts_nil.run pins s σ H Q I (by
  obtain ⟨S, Γ, p, es, q⟩ := q
  obtain ⟨b, e, q⟩ := (show ∃ b, D.bl true = .bl b ∧ ∀ H', Ext F H H' → PotOk F H' p → Q b H' from q)
  cases e
  exact q H .refl es.pot)⟩
theorem ets_one {c : Expr} (h : ET X F c ft) : PTs X [c] (tT F ft) := pts_one h
end
end PL

set_option Elab.async false
set_option linter.all false
set_option maxRecDepth 100000
set_option maxHeartbeats 4000000
/-! PL11: defs, their calls, instances. -/
namespace PL
open PySem L2
variable [TabL]

def pot0 : Pot := ⟨[], 0, 0, 0⟩
/-- a def's frame; one that draws from the pot -/
abbrev frP (W : Wd) (H : Hp) (S : Addr → Prop) (E : XK) : Fr := { W with H0 := H, S0 := S, pa := none, ca := 0, self := none, exc := none, E := E }
abbrev frQ (W : Wd) (H : Hp) (S : Addr → Prop) (pa ca : Addr) (E : XK) : Fr := { W with H0 := H, S0 := S, pa := some pa, ca := ca, self := none, exc := none, E := E }
def spP (W : Wd) (n : Nat) (m : List D → Out D) : Sp := fun vs H Q E => ∃ S ds, (∀ a, S a → Mut (H a)) ∧ Reps W S H ds vs ∧ ds.length = n ∧ match m ds with
  | .ok d => ∀ v H', Same H H' → Rep W S H' d v → Q v H'
  | .exc x => ∀ C dx H', W.mg x.c = some (.ref C) → Same H H' → XAt W S H' dx x → E (.ref C) dx H'
  | .bad => False
def spQ (W : Wd) (n : Nat) (m : List D → M D) : Sp := fun vs H Q E => ∃ S ds pa ca p vs', vs = .ref pa :: vs' ∧ (∀ a, S a → Mut (H a)) ∧ S pa ∧ PotAt H pa ca p ∧ Reps W S H ds vs' ∧ ds.length = n ∧ match m ds p with
  | .ok (d, p') => ∀ v H', Kept (fun a => some pa = some a) H H' → PotAt H' pa ca p' → Rep W S H' d v → Q v H'
  | .exc _ => False
  | .bad => False
def runP (N : Nat) (f : DS) (ds : List D) : Out D := match f (ds.map .val ++ List.replicate (N - ds.length) .no) pot0 with
  | .ok ((.rt d, _), _) => .ok d
  | .ok ((.nx, _), _) => .ok .non
  | .exc x => .exc x
  | _ => .bad
def runQ (N : Nat) (f : DS) (ds : List D) : M D := fun p => match f (.pot :: (ds.map .val ++ List.replicate (N - (ds.length + 1)) .no)) p with
  | .ok ((.rt d, _), p') => .ok (d, p')
  | .ok ((.nx, _), p') => .ok (.non, p')
  | .exc x => .exc x
  | _ => .bad

section
variable {P : Program} {w : World} {K : PySem.W.Frag} {mg : Str → Option Value} {base : Heap}
theorem start_env {F : Fr} {S : Addr → Prop} {H : Hp} {n : Nat} {ds : List D} {vs : List V} (r : Reps F.toWd S H ds vs) : EnvE F S (ds.map .val ++ List.replicate n .no) (vs.map some ++ List.replicate n none) H := by
  intro i s e
  have hl := r.length
  by_cases hi : i < ds.length
  · rw [List.getElem?_append_left (by simpa using hi), List.getElem?_map] at e
    cases g : ds[i]? with
    | none => rw [g] at e; cases e
    | some d =>
      rw [g] at e; cases e
      obtain ⟨v, ev, rv⟩ := r.get g
      refine ⟨some v, ?_, v, rfl, rv⟩
      rw [List.getElem?_append_left (by rw [List.length_map]; omega), List.getElem?_map, ev]; rfl
  · rw [List.getElem?_append_right (by simpa using hi), List.getElem?_replicate] at e
    split at e
    · cases e
      refine ⟨none, ?_, trivial⟩
      rw [List.getElem?_append_right (by rw [List.length_map]; omega), List.getElem?_replicate, if_pos (by simp at *; omega)]
    · cases e
theorem no_own {ds : List D} {n i : Nat} {d : D} : ¬ (ds.map Sl.val ++ List.replicate n Sl.no)[i]? = some (Sl.own d) := by
  intro e
  have := List.mem_of_getElem? e
  simp at this
theorem nof {a : Addr} {R : Prop} (e : (none : Option Addr) = some a) : R := by cases e
/-- a def of plain data -/
theorem fn_def {x qual : Str} {st : Stmt} {f : Addr} {fd : FuncData} {N ps : List Str} {k : Nat} {den : DS} (F0 : L2.Fun K x qual st f fd) (Sc : FnScope N ps (defScope st))
    (hb : ∀ (cdv : Value) (A : Around) (outer : List Env) (s : Shared) (H : Hp) (E : XK) (S0 : Addr → Prop), On (cxOf (L2.CX P w) P w K mg base N qual (defScope st) f cdv A outer s H E) (frP ⟨P, w, K, mg⟩ H S0 E) k → ESs (cxOf (L2.CX P w) P w K mg base N qual (defScope st) f cdv A outer s H E) (frP ⟨P, w, K, mg⟩ H S0 E) (defBody st) den) :
    FnOk P w K mg base (L2.CX P w) (k + 1) f fd ps (spP ⟨P, w, K, mg⟩ ps.length (runP N.length den)) := by
  refine okX F0 Sc (fun vs H Q E h => ?_) (fun cdv A outer s H vs Q E hr h => ?_)
  · obtain ⟨S, ds, _, r, e, _⟩ := h
    rw [← r.length, e]
  · obtain ⟨S, ds, mt, r, e, h⟩ := h
    let F : Fr := frP ⟨P, w, K, mg⟩ H S E
    have on : On (cxOf (L2.CX P w) P w K mg base N qual (defScope st) f cdv A outer s H E) F k := ⟨rfl, rfl, rfl, rfl, hr, Sc.nd, rfl, takes_of rfl rfl rfl rfl⟩
    refine ⟨tS F den, hb cdv A outer s H E S on, ?_⟩
    have nown : ∀ a, ¬ Owned (ds.map .val ++ List.replicate (N.length - ds.length) .no) (L2.start N vs) a := fun a ⟨i, d, h1, _⟩ => no_own h1
    have hl := r.length
    have hst : L2.start N vs = vs.map some ++ List.replicate (N.length - ds.length) none := by unfold L2.start; rw [← hl]
    have env0 := start_env (F := F) (S := S) (n := N.length - ds.length) r
    have sof : ∀ a, Sof F (ds.map .val ++ List.replicate (N.length - ds.length) .no) (L2.start N vs) a → S a := fun a w => by
      rcases w with w | w | w
      · exact w
      · exact (nown a w).elim
      · cases w
    have gs : Goes S (Sof F (ds.map .val ++ List.replicate (N.length - ds.length) .no) (L2.start N vs)) H H := ⟨fun _ _ h _ _ => h, fun a w => .inl (sof a w), mt⟩
    have st0 : StOk F (ds.map .val ++ List.replicate (N.length - ds.length) .no) pot0 (L2.start N vs) H := by
      refine ⟨⟨fun i sl ei => ?_, fun a e => (nof e), fun a w => mt a (sof a w), fun a e => (nof e), fun a w => .inl w, Kept.refl⟩, fun a w => (nown a w).elim, fun i j d d' a h1 => (no_own h1).elim, fun a w => (nown a w).elim, fun a e => (nof e)⟩
      obtain ⟨x, ex, rx⟩ := env0 i sl ei
      rw [hst]
      refine ⟨x, ex, ?_⟩
      cases sl with
      | no => trivial
      | val d => obtain ⟨v, e1, rv⟩ := rx; exact ⟨v, e1, Rep.goes (hst ▸ gs) _ _ rv⟩
      | own d => exact (no_own ei).elim
      | pot => have := List.mem_of_getElem? ei; simp at this
      | exc x => have := List.mem_of_getElem? ei; simp at this
      | thk q => have := List.mem_of_getElem? ei; simp at this
      | scr ns => have := List.mem_of_getElem? ei; simp at this
    have same : ∀ {H'}, SameX F H' → Same H H' := fun s => s.imp fun _ _ _ z => z.elim (fun z => nomatch z) fun z => nomatch z
    refine ⟨_, pot0, st0, ?_⟩
    unfold runP at h
    cases g : den (ds.map .val ++ List.replicate (N.length - ds.length) .no) pot0 with
    | bad => rw [g] at h; exact h.elim
    | exc x => rw [g] at h; exact fun C dx H' m s _ xa => h C dx H' m (same s) xa
    | ok z =>
      obtain ⟨⟨fl, Γ'⟩, p'⟩ := z
      rw [g] at h
      cases fl with
      | rt d => exact fun v H' s _ rv => h v H' (same s) rv
      | nx => exact fun σ' H' kp s' => h .non H' (same s'.es.same) rep_n
      | bk => exact h.elim
      | ct => exact h.elim
/-- a def whose first argument is the pot -/
theorem fn_defQ {x qual : Str} {st : Stmt} {f : Addr} {fd : FuncData} {N ps : List Str} {p0 : Str} {k : Nat} {den : DS} (F0 : L2.Fun K x qual st f fd) (Sc : FnScope N (p0 :: ps) (defScope st))
    (hb : ∀ (cdv : Value) (A : Around) (outer : List Env) (s : Shared) (H : Hp) (E : XK) (S0 : Addr → Prop) (pa ca : Addr), On (cxOf (L2.CX P w) P w K mg base N qual (defScope st) f cdv A outer s H E) (frQ ⟨P, w, K, mg⟩ H S0 pa ca E) k → ESs (cxOf (L2.CX P w) P w K mg base N qual (defScope st) f cdv A outer s H E) (frQ ⟨P, w, K, mg⟩ H S0 pa ca E) (defBody st) den) :
    FnOk P w K mg base (L2.CX P w) (k + 1) f fd (p0 :: ps) (spQ ⟨P, w, K, mg⟩ ps.length (runQ N.length den)) := by
  refine okX F0 Sc (fun vs H Q E h => ?_) (fun cdv A outer s H vs Q E hr h => ?_)
  · obtain ⟨S, ds, pa, ca, p, vs', rfl, _, _, _, r, e, _⟩ := h
    rw [List.length_cons, ← r.length, e, List.length_cons]
  · obtain ⟨S, ds, pa, ca, p, vs', rfl, mt, spa, pot, r, e, h⟩ := h
    let F : Fr := frQ ⟨P, w, K, mg⟩ H S pa ca E
    have on : On (cxOf (L2.CX P w) P w K mg base N qual (defScope st) f cdv A outer s H E) F k := ⟨rfl, rfl, rfl, rfl, hr, Sc.nd, rfl, takes_of rfl rfl rfl rfl⟩
    refine ⟨tS F den, hb cdv A outer s H E S pa ca on, ?_⟩
    have nown : ∀ a, ¬ Owned (.pot :: (ds.map .val ++ List.replicate (N.length - (ds.length + 1)) .no)) (L2.start N (.ref pa :: vs')) a := fun a ⟨i, d, h1, _⟩ => by
      cases i with
      | zero => cases h1
      | succ i => exact no_own h1
    have hl := r.length
    have hst : L2.start N (.ref pa :: vs') = some (V.ref pa) :: (vs'.map some ++ List.replicate (N.length - (ds.length + 1)) none) := by unfold L2.start; rw [hl]; rfl
    have env0 := start_env (F := F) (S := S) (n := N.length - (ds.length + 1)) r
    have sof : ∀ a, Sof F (.pot :: (ds.map .val ++ List.replicate (N.length - (ds.length + 1)) .no)) (L2.start N (.ref pa :: vs')) a → S a := fun a w => by
      rcases w with w | w | w
      · exact w
      · exact (nown a w).elim
      · cases w; exact spa
    have gs : Goes S (Sof F (.pot :: (ds.map .val ++ List.replicate (N.length - (ds.length + 1)) .no)) (L2.start N (.ref pa :: vs'))) H H := ⟨fun _ _ h _ _ => h, fun a w => .inl (sof a w), mt⟩
    have st0 : StOk F (.pot :: (ds.map .val ++ List.replicate (N.length - (ds.length + 1)) .no)) p (L2.start N (.ref pa :: vs')) H := by
      refine ⟨⟨fun i sl ei => ?_, fun a e => by cases e; exact pot, fun a w => mt a (sof a w), fun a e => .inr (.inr e), fun a w => .inl w, Kept.refl⟩, fun a w => (nown a w).elim, fun i j d d' a h1 h2 _ _ => ?_, fun a w => (nown a w).elim, fun a e => ⟨?_, fun z => nomatch z⟩⟩
      · rw [hst]
        cases i with
        | zero => cases ei; exact ⟨_, rfl, pa, rfl, rfl⟩
        | succ i =>
          have ei : (ds.map Sl.val ++ List.replicate (N.length - (ds.length + 1)) .no)[i]? = some sl := ei
          obtain ⟨x, ex, rx⟩ := env0 i sl ei
          refine ⟨x, ex, ?_⟩
          cases sl with
          | no => trivial
          | val d => obtain ⟨v, e1, rv⟩ := rx; exact ⟨v, e1, Rep.goes (hst ▸ gs) _ _ rv⟩
          | own d => exact (no_own ei).elim
          | pot => have := List.mem_of_getElem? ei; simp at this
          | exc x => have := List.mem_of_getElem? ei; simp at this
          | thk q => have := List.mem_of_getElem? ei; simp at this
          | scr ns => have := List.mem_of_getElem? ei; simp at this
      · cases i with
        | zero => cases h1
        | succ i => exact (no_own h1).elim
      · obtain ⟨_, c2⟩ := pot
        show H ca ≠ none
        rw [c2]; exact fun z => nomatch z
    have same : ∀ {H'}, SameX F H' → Kept (fun a => some pa = some a) H H' := fun s => s.imp fun _ _ _ z => z.elim id fun z => nomatch z
    refine ⟨_, p, st0, ?_⟩
    unfold runQ at h
    cases g : den (.pot :: (ds.map .val ++ List.replicate (N.length - (ds.length + 1)) .no)) p with
    | bad => rw [g] at h; exact h.elim
    | exc x => rw [g] at h; exact h.elim
    | ok z =>
      obtain ⟨⟨fl, Γ'⟩, p'⟩ := z
      rw [g] at h
      cases fl with
      | rt d => exact fun v H' s q rv => h v H' (same s) (q pa rfl) rv
      | nx => exact fun σ' H' kp s' => h .non H' (same s'.es.same) (s'.es.pot pa rfl) rep_n
      | bk => exact h.elim
      | ct => exact h.elim
end

/-! ### calls -/
def eCallP (m : List D → Out D) (fs : SEnv → M (List D)) : SEnv → M D := fun Γ => do let ds ← fs Γ; M.lift (m ds)
def isPot : Option Sl → Option Unit
  | some .pot => some ()
  | _ => none
def eCallQ (i : Nat) (m : List D → M D) (fs : SEnv → M (List D)) : SEnv → M D := fun Γ => do let _ ← ofOpt (isPot Γ[i]?); let ds ← fs Γ; M.nox (m ds)
section
variable {X : Cx} {F : Fr} {k k' : Nat} {x xp : Str} {e : Expr} {es : List Expr} {fs : SEnv → M (List D)} {p pos pp : Pos} {f : Addr} {fd : FuncData} {ps : List Str}
theorem passes_on (o : On X F k) : Passes (L2.CX X.prog X.w) X F.E := passes_call o.tk fun _ _ _ _ h => h
theorem toWd_of (o : On X F k) : F.toWd = ⟨X.prog, X.w, X.K, X.mg⟩ := by rw [o.P, o.w, o.K, o.mg]
theorem tX_callP {n : Nat} {m : List D → Out D} (o : On X F k) (hn : ∀ Γ p ds p', fs Γ p = .ok (ds, p') → ds.length = n) {σ : St} {H : Hp} {Q : VK} (q : tX RV F (eCallP m fs) σ H Q) : tCall (spP ⟨X.prog, X.w, X.K, X.mg⟩ n m) [] F.E (tA false F fs) σ H Q := by
  obtain ⟨S, Γ, p, es, q⟩ := q
  have q := OutOk.bind.mp q
  refine ⟨S, Γ, p, es, ?_⟩
  cases g : fs Γ p with
  | bad => rw [g] at q; exact q.elim
  | exc z => rw [g] at q; exact q
  | ok z =>
    obtain ⟨ds, p1⟩ := z
    rw [g] at q
    intro vs H1 e1 q1 r1
    rw [List.append_nil]
    have es1 := es.ext e1 q1
    have hl := hn Γ p ds p1 g
    have q : OutOk F (M.lift (m ds) p1) _ := q
    refine ⟨S, ds, es1.mt, by rw [← toWd_of o]; exact r1.reps, hl, ?_⟩
    unfold M.lift at q
    rw [← toWd_of o]
    cases gm : m ds with
    | bad => rw [gm] at q; exact q.elim
    | exc z =>
      rw [gm] at q
      exact fun C dx H' mm sm xa => q C dx H' mm (es1.same.ext (.of sm)) (fun a w => (es1.ext (.of sm) (q1.same sm)).mt a (es1.s0 a w)) (by
        rcases xa with xa | ⟨a, fs, h1, h2, h3, h4⟩
        · exact .inl xa
        · refine .inr ⟨a, fs, h1, h2, h3, Reps.goes ⟨fun _ _ h _ _ => h, fun a w => .inl (es1.s0 a w), ?_⟩ _ _ h4⟩
          exact (es1.ext (.of sm) (q1.same sm)).mt)
    | ok d =>
      rw [gm] at q
      exact fun v H' sm rv => (show ∀ v H', Ext F H H' → PotOk F H' p1 → RV F S H H' d v → Q v H' from q) v H' (e1.trans (.of sm)) (q1.same sm) rv
theorem ev_call {n : Nat} {m : List D → Out D} (o : On X F k) (G : FnOk X.prog X.w X.K X.mg X.base (L2.CX X.prog X.w) k' f fd ps (spP ⟨X.prog, X.w, X.K, X.mg⟩ n m)) (hk' : k' ≤ k) (hg : Gl X x) (hm : F.mg x = some (.ref f)) (hk : PySem.W.keepIn F.K (.ref f) = true) (hb : Binds F.K fd ps [])
    (ha : EA false X F (e :: es) fs) (hn : ∀ Γ p ds p', fs Γ p = .ok (ds, p') → ds.length = n) (hdb : (x == ("__debug__" : Str)) = false := by decide) (he : starEach (e :: es) X.env = (false, eval e X.env) :: starEach es X.env := by rfl) (hpl : (backTo pos (starEach es X.env)).any (·.1) = false := by rfl) :
    EV X F (.Call (.Name x p) (e :: es) [] pos) (eCallP m fs) :=
  PE.weak (pe_call (dvs := []) G (o.room.mono hk') hg (by rw [o.mg]; exact hm) (by rw [o.K]; exact hk) (by rw [o.K]; exact hb) .nil (passes_on o) ha hdb he hpl) fun _ _ _ q => tX_callP o hn q
/-- f(pot, ..) -/
theorem ev_callQ (i : Nat) {n : Nat} {m : List D → M D} {p0 : Str} (o : On X F k) (G : FnOk X.prog X.w X.K X.mg X.base (L2.CX X.prog X.w) k' f fd (p0 :: ps) (spQ ⟨X.prog, X.w, X.K, X.mg⟩ n m)) (hk' : k' ≤ k) (hg : Gl X x) (hm : F.mg x = some (.ref f)) (hk : PySem.W.keepIn F.K (.ref f) = true) (hb : Binds F.K fd (p0 :: ps) [])
    (hN : X.N[i]? = some xp) (hv : Vis X.env.scope xp) (ha : EA false X F es fs) (hn : ∀ Γ p ds p', fs Γ p = .ok (ds, p') → ds.length = n) (hxd : (xp == ("__debug__" : Str)) = false := by decide) (hxc : (xp == ("__classdict__" : Str)) = false := by decide)
    (hdb : (x == ("__debug__" : Str)) = false := by decide) (he : starEach (.Name xp pp :: es) X.env = (false, eval (.Name xp pp) X.env) :: starEach es X.env := by rfl) (hpl : (backTo pos (starEach es X.env)).any (·.1) = false := by rfl) :
    EV X F (.Call (.Name x p) (.Name xp pp :: es) [] pos) (eCallQ i m fs) :=
  PE.weak (pe_call (dvs := []) G (o.room.mono hk') hg (by rw [o.mg]; exact hm) (by rw [o.K]; exact hk) (by rw [o.K]; exact hb) .nil (passes_on o) (pa_cons (pe_var hN hv hxd hxc) ha he) hdb he hpl) fun σ H Q q => by
    obtain ⟨S, Γ, p, es, q⟩ := q
    obtain ⟨u, eu, q⟩ := out_opt.mp (OutOk.bind.mp q)
    have hp : Γ[i]? = some .pot := by
      cases g : Γ[i]? with
      | none => rw [g] at eu; cases eu
      | some s => rw [g] at eu; cases s <;> first | rfl | cases eu
    obtain ⟨x0, ex, pa, rfl, hpa⟩ := es.env i _ hp
    have q := OutOk.bind.mp q
    refine ⟨_, ex, S, Γ, p, es, ?_⟩
    cases g : fs Γ p with
    | bad => rw [g] at q; exact q.elim
    | exc z => rw [g] at q; exact q
    | ok z =>
      obtain ⟨ds, p1⟩ := z
      rw [g] at q
      intro vs H1 e1 q1 r1
      show spQ _ n m (V.ref pa :: vs ++ []) H1 Q F.E
      rw [List.append_nil]
      have es1 := es.ext e1 q1
      have hl := hn Γ p ds p1 g
      have q : OutOk F (M.nox (m ds) p1) _ := q
      unfold M.nox at q
      have ext : ∀ {H'}, Kept (fun a => some pa = some a) H1 H' → Ext F H1 H' := fun s => s.imp fun _ _ _ z => by rw [hpa]; exact z
      refine ⟨S, ds, pa, F.ca, p1, vs, rfl, es1.mt, es1.pa pa hpa, q1 pa hpa, by rw [← toWd_of o]; exact r1.reps, hl, ?_⟩
      rw [← toWd_of o]
      cases gm : m ds p1 with
      | bad => rw [gm] at q; exact q.elim
      | exc z => rw [gm] at q; exact q.elim
      | ok z =>
        obtain ⟨d, p2⟩ := z
        rw [gm] at q
        have q : ∀ v H', Ext F H H' → PotOk F H' p2 → RV F S H H' d v → Q v H' := q
        exact fun v H' sm pt rv => q v H' (e1.trans (ext sm)) (fun a e => by rw [hpa] at e; cases e; exact pt) rv
end

/-! ### defs of the module -/
structure DefF (K : PySem.W.Frag) (mg : Str → Option Value) (x : Str) (st : Stmt) (ps : List Str) (f : Addr) (fd : FuncData) : Prop where
  fn : L2.Fun K x x st f fd
  mg : mg x = some (.ref f)
  bd : Binds K fd ps []
def DefE (K : PySem.W.Frag) (mg : Str → Option Value) (x : Str) (st : Stmt) (ps : List Str) : Prop := ∃ f fd, DefF K mg x st ps f fd
structure OkdF (W : Wd) (base : Heap) (k : Nat) (x : Str) (ps : List Str) (sp : Sp) (f : Addr) (fd : FuncData) : Prop where
  mg : W.mg x = some (.ref f)
  kp : PySem.W.keepIn W.K (.ref f) = true
  bd : Binds W.K fd ps []
  ok : FnOk W.P W.w W.K W.mg base (L2.CX W.P W.w) k f fd ps sp
def Okd (W : Wd) (base : Heap) (k : Nat) (x : Str) (ps : List Str) (sp : Sp) : Prop := ∃ f fd, OkdF W base k x ps sp f fd
def LenA (fs : SEnv → M (List D)) (n : Nat) : Prop := ∀ Γ p ds p', fs Γ p = .ok (ds, p') → ds.length = n
theorem len_nil : LenA eNil 0 := fun Γ p ds p' e => by cases e; rfl
theorem len_cons {f : SEnv → M D} {fs : SEnv → M (List D)} {n : Nat} (h : LenA fs n) : LenA (eCons f fs) (n + 1) := fun Γ p ds p' e => by
  have e : M.bind (f Γ) (fun d => M.bind (fs Γ) fun ds => pure (d :: ds)) p = .ok (ds, p') := e
  unfold M.bind at e
  cases g : f Γ p with
  | bad => rw [g] at e; cases e
  | exc x => rw [g] at e; cases e
  | ok z =>
    obtain ⟨d, p1⟩ := z
    rw [g] at e
    dsimp only at e
    cases g2 : fs Γ p1 with
    | bad => rw [g2] at e; cases e
    | exc x => rw [g2] at e; cases e
    | ok z =>
      obtain ⟨l, p2⟩ := z
      rw [g2] at e
      cases e
      rw [List.length_cons, h Γ p1 l _ g2]
section
variable {P : Program} {w : World} {K : PySem.W.Frag} {mg : Str → Option Value} {base : Heap}
theorem okd_badP {x : Str} {st : Stmt} {ps : List Str} {k n : Nat} (d : DefE K mg x st ps) : Okd ⟨P, w, K, mg⟩ base k x ps (spP ⟨P, w, K, mg⟩ n fun _ => .bad) := by
  obtain ⟨f, fd, d⟩ := d
  exact ⟨f, fd, d.mg, d.fn.kp, d.bd, fun vs H Q E ⟨S, ds, _, _, _, h⟩ => h.elim, fun A outer s H args us vs Q E _ _ _ _ ⟨S, ds, _, _, _, h⟩ => h.elim⟩
theorem okd_badQ {x : Str} {st : Stmt} {ps : List Str} {k n : Nat} (d : DefE K mg x st ps) : Okd ⟨P, w, K, mg⟩ base k x ps (spQ ⟨P, w, K, mg⟩ n fun _ => M.bad) := by
  obtain ⟨f, fd, d⟩ := d
  exact ⟨f, fd, d.mg, d.fn.kp, d.bd, fun vs H Q E ⟨S, ds, _, _, _, _, _, _, _, _, _, _, h⟩ => h.elim, fun A outer s H args us vs Q E _ _ _ _ ⟨S, ds, _, _, _, _, _, _, _, _, _, _, h⟩ => h.elim⟩
theorem okd_def {x : Str} {st : Stmt} {N ps : List Str} {k : Nat} {den : DS} (d : DefE K mg x st ps) (Sc : FnScope N ps (defScope st))
    (hb : ∀ (f : Addr) (cdv : Value) (A : Around) (outer : List Env) (s : Shared) (H : Hp) (E : XK) (S0 : Addr → Prop), On (cxOf (L2.CX P w) P w K mg base N x (defScope st) f cdv A outer s H E) (frP ⟨P, w, K, mg⟩ H S0 E) k → ESs (cxOf (L2.CX P w) P w K mg base N x (defScope st) f cdv A outer s H E) (frP ⟨P, w, K, mg⟩ H S0 E) (defBody st) den) :
    Okd ⟨P, w, K, mg⟩ base (k + 1) x ps (spP ⟨P, w, K, mg⟩ ps.length (runP N.length den)) := by
  obtain ⟨f, fd, d⟩ := d
  exact ⟨f, fd, d.mg, d.fn.kp, d.bd, fn_def d.fn Sc (hb f)⟩
theorem okd_defQ {x : Str} {st : Stmt} {N ps : List Str} {p0 : Str} {k : Nat} {den : DS} (d : DefE K mg x st (p0 :: ps)) (Sc : FnScope N (p0 :: ps) (defScope st))
    (hb : ∀ (f : Addr) (cdv : Value) (A : Around) (outer : List Env) (s : Shared) (H : Hp) (E : XK) (S0 : Addr → Prop) (pa ca : Addr), On (cxOf (L2.CX P w) P w K mg base N x (defScope st) f cdv A outer s H E) (frQ ⟨P, w, K, mg⟩ H S0 pa ca E) k → ESs (cxOf (L2.CX P w) P w K mg base N x (defScope st) f cdv A outer s H E) (frQ ⟨P, w, K, mg⟩ H S0 pa ca E) (defBody st) den) :
    Okd ⟨P, w, K, mg⟩ base (k + 1) x (p0 :: ps) (spQ ⟨P, w, K, mg⟩ ps.length (runQ N.length den)) := by
  obtain ⟨f, fd, d⟩ := d
  exact ⟨f, fd, d.mg, d.fn.kp, d.bd, fn_defQ d.fn Sc (hb f)⟩
end
section
variable {X : Cx} {F : Fr} {k k' : Nat} {x xp : Str} {e : Expr} {es : List Expr} {fs : SEnv → M (List D)} {p pos pp : Pos} {ps : List Str}
/-- a call of a def of the module -/
theorem ev_callD {n : Nat} {m : List D → Out D} (o : On X F k) (G : Okd F.toWd X.base k' x ps (spP F.toWd n m)) (hk' : k' ≤ k) (hg : Gl X x) (ha : EA false X F (e :: es) fs) (hn : LenA fs n) (hdb : (x == ("__debug__" : Str)) = false := by decide)
    (he : starEach (e :: es) X.env = (false, eval e X.env) :: starEach es X.env := by rfl) (hpl : (backTo pos (starEach es X.env)).any (·.1) = false := by rfl) : EV X F (.Call (.Name x p) (e :: es) [] pos) (eCallP m fs) := by
  obtain ⟨f, fd, G⟩ := G
  refine ev_call o ?_ hk' hg G.mg G.kp G.bd ha hn hdb he hpl
  have g := G.ok
  rw [toWd_of o] at g
  exact g
theorem ev_callDQ (i : Nat) {n : Nat} {m : List D → M D} {p0 : Str} (o : On X F k) (G : Okd F.toWd X.base k' x (p0 :: ps) (spQ F.toWd n m)) (hk' : k' ≤ k) (hg : Gl X x) (ha : EA false X F es fs) (hn : LenA fs n)
    (hN : X.N[i]? = some xp := by rfl) (hv : Vis X.env.scope xp := by first | exact Or.inl rfl | exact Or.inr (Or.inl rfl) | exact Or.inr (Or.inr rfl)) (hxd : (xp == ("__debug__" : Str)) = false := by decide) (hxc : (xp == ("__classdict__" : Str)) = false := by decide)
    (hdb : (x == ("__debug__" : Str)) = false := by decide) (he : starEach (.Name xp pp :: es) X.env = (false, eval (.Name xp pp) X.env) :: starEach es X.env := by rfl) (hpl : (backTo pos (starEach es X.env)).any (·.1) = false := by rfl) :
    EV X F (.Call (.Name x p) (.Name xp pp :: es) [] pos) (eCallQ i m fs) := by
  obtain ⟨f, fd, G⟩ := G
  refine ev_callQ i o ?_ hk' hg G.mg G.kp G.bd hN hv ha hn hxd hxc hdb he hpl
  have g := G.ok
  rw [toWd_of o] at g
  exact g
end
end PL

set_option Elab.async false
set_option linter.all false
set_option maxRecDepth 100000
set_option maxHeartbeats 4000000
/-! PL12: operators over any data, constants of the module, fields, isinstance. -/
namespace PL
open PySem L2
variable [TabL]

def addA (a b : D) : Option D := match addD a b with
  | some d => some d
  | none => addL a b
def mulA (a b : D) : Option D := match mulD a b with
  | some d => some d
  | none => mulL a b
def slA (d : D) (lo hi : Option Int) : Option D := match slT d lo hi with
  | some d => some d
  | none => slL d lo hi
def negD : D → Option D
  | .int i => some (.int (-i))
  | _ => none
section
variable {X : Cx} {F : Fr} {k : Nat} {a b e : Expr} {fa fb f : SEnv → M D} {fs : SEnv → M (List D)} {pos p p2 : Pos}
theorem OpD.orV {r r' : R2} {g g' : D → D → Option D} (h : OpD F r g RV) (h' : OpD F r' g' RN) : OpD F (fun x y H Q => r x y H Q ∨ r' x y H Q) (fun a b => match g a b with
  | some d => some d
  | none => g' a b) RV := by
  intro S H0 H d1 d2 d v1 v2 Q mt hk hn r1 r2 e kk
  have e : (match g d1 d2 with
    | some d => some d
    | none => g' d1 d2) = some d := e
  cases q : g d1 d2 with
  | some d' =>
    rw [q] at e
    cases e
    exact .inl (h S H0 H d1 d2 d v1 v2 Q mt hk hn r1 r2 q kk)
  | none =>
    rw [q] at e
    refine .inr (h' S H H d1 d2 d v1 v2 Q mt Kept.refl (fun _ h => h) r1 r2 e fun v H' s r => kk v H' s (show RV F S H H' d v from r.v mt fun a w => ?_))
    have m := mt a w
    cases g1 : H a with
    | none => rw [g1] at m; exact m.elim
    | some o => rw [g1] at m; rw [s.get a o g1 id (mut_nt m)]; exact m
theorem ev_addA (o : On X F k) (ha : EVB X F a fa) (hb : EVB X F b fb) : EV X F (.BinOp a .Add b pos) (eOp addA fa fb) := ev_op ((op_add.or (op_add_str.or op_catA)).or op_cat) (OpD.orV (by rw [o.K]; exact opd_add) opd_addL) ha hb
theorem ev_mulA (o : On X F k) (ha : EVB X F a fa) (hb : EVB X F b fb) : EV X F (.BinOp a .Mult b pos) (eOp mulA fa fb) := ev_op (op_mul.or op_rep) (OpD.orV opd_mul opd_mulL) ha hb
theorem ev_neg (ha : EVB X F a fa) : EV X F (.UnaryOp .USub a pos) (eUn negD fa) := PE.weak (pe_un un_neg ha) fun σ H Q q => by
  obtain ⟨S, Γ, p, es, q⟩ := q
  refine ⟨S, Γ, p, es, (OutOk.bind.mp q).imp fun d p1 q v H1 e1 q1 r1 => ?_⟩
  obtain ⟨d', e2, q⟩ := out_opt.mp q
  cases d <;> try cases e2
  exact ⟨_, RepT.int r1, q _ H1 e1 q1 rep_i⟩
theorem sld_A : SlD F (fun x lo hi H Q => (rSlA F.K x lo hi H Q ∨ rSlS x lo hi H Q) ∨ rSlL F.K x lo hi H Q) slA RV := by
  intro S H0 H d1 d lo hi v1 Q mt hn r1 e kk
  unfold slA at e
  cases q : slT d1 lo hi with
  | some d' => rw [q] at e; cases e; exact .inl (sld_T S H0 H d1 d lo hi v1 Q mt hn r1 q kk)
  | none =>
    rw [q] at e
    refine .inr (sld_L S H H d1 d lo hi v1 Q mt (fun _ h => h) r1 e fun v H' s r => kk v H' s (show RV F S H H' d v from r.v mt fun a w => ?_))
    have m := mt a w
    cases g1 : H a with
    | none => rw [g1] at m; exact m.elim
    | some o => rw [g1] at m; rw [s.get a o g1 id (mut_nt m)]; exact m
theorem ev_slA {lo hi : Option Expr} {fl fh : SEnv → M (Option Int)} (o : On X F k) (ha : EVB X F e f) (hl : EO X F lo fl) (hh : EO X F hi fh) : EV X F (.Subscript e (.Slice lo hi none p2) pos) (eSl slA f fl fh) :=
  ev_sl (SlR.or (SlR.or sl_tupA sl_str) sl_list) (by rw [o.K]; exact sld_A) ha hl hh

/-! ### the module's constants -/
inductive CRel : D → Value → Prop
  | int (i t) : CRel (.int i) (.int i t)
  | str (x t) : CRel (.str x) (.str x t)
theorem ev_const {x : Str} {d : D} {pos : Pos} (o : On X F k) (hg : Gl X x) (hm : ∃ u, F.mg x = some u ∧ CRel d u) (hb : (x == ("__debug__" : Str)) = false := by decide) : EV X F (.Name x pos) (eC d) := by
  obtain ⟨u, hm, r⟩ := hm
  cases r with
  | int i t => exact ev_glob (v := .int i) o hg hm ⟨t, rfl⟩ (fun _ _ _ => rep_i) hb
  | str y t => exact ev_glob (v := .str y) o hg hm ⟨t, rfl⟩ (fun _ _ _ => rep_s) hb
/-- a class's field -/
def FldF (W : Wd) (c f : Str) : Prop := ∃ C, W.mg c = some (.ref C) ∧ Cls W.K C ∧ NoAttr W.K C f
theorem ev_fldF {c f : Str} (o : On X F k) (h : FldF F.toWd c f) (ha : EVB X F a fa) (hb : attributeBase a f X.env (eval a X.env) = eval a X.env := by rfl) : EV X F (.Attribute a f pos) (eUn (fldD c f) fa) := by
  obtain ⟨C, hm, cl, na⟩ := h
  exact ev_fld o hm cl na ha hb

/-! ### isinstance -/
/-- a value's type, our dicts among them -/
def TyY (K : PySem.W.Frag) (H : Hp) (x : V) (t : Value) : Prop := TyX K H x t ∨ ∃ a φ, x = .ref a ∧ t = .type "dict" ∧ H a = some (.ext φ) ∧ ∀ h : Heap, φ h → ∃ o, h.get? a = some o ∧ o.cls = .type "dict"
theorem kit_ofY {pins : List (Addr × Obj)} {σ : L2.St} {H : Hp} {s : Shared} {x : V} {u t : Value} (I : Inv X pins σ H s) (rx : RelV x u) (ty : TyY X.K H x t) : ∃ P : Heap → Prop, PySem.W.KitX X.K u t P ∧ P s.heap ∧ u ≠ .builtin "__main__.__loader__#opaque" := by
  rcases ty with ty | ⟨a, φ, rfl, rfl, e, hφ⟩
  · exact kit_of I rx ty
  · cases (show u = Value.ref a from rx)
    have x : ObjOk X.prog X.w H s.heap a (.ext φ) := I.hok a _ e
    obtain ⟨o, h1, h2⟩ := hφ _ x.1
    exact ⟨_, PySem.W.kitx_dict, ⟨o, h1, h2⟩, fun z => nomatch z⟩
theorem call_isiY : CallR X (.builtin "isinstance") (fun xs H Q => ∃ (x c : V) (t u : Value) (b : Bool), xs = [x, c] ∧ ClsV c u ∧ TyY X.K H x t ∧ PySem.W.kitOne X.K t u = some b ∧ Q (.bl b) H) := by
  intro pins s σ H xs us Q I r h
  obtain ⟨x, c, t, u, b, rfl, k, ty, e, q⟩ := h
  obtain ⟨u1, u2, rfl, r1, r2⟩ := vals2 r
  have e2 := k.eq r2
  subst e2
  obtain ⟨P, Z, p, hx⟩ := kit_ofY I r1 ty
  exact PySem.W.kia_one Z I.kIn p e hx fun tk => ⟨.bl b, H, I.tok tk, rfl, q⟩
theorem call_isiTY : CallR X (.builtin "isinstance") (fun xs H Q => ∃ (x : V) (tp : Addr) (cs : List V) (t : Value) (us : List Value) (b : Bool), xs = [x, .ref tp] ∧ H tp = some (.tup cs) ∧ Paired ClsV cs us ∧ TyY X.K H x t ∧ PySem.W.kitAny X.K t us = some b ∧ Q (.bl b) H) := by
  intro pins s σ H xs us Q I r h
  obtain ⟨x, tp, cs, t, ws, b, rfl, hT, k, ty, e, q⟩ := h
  obtain ⟨u1, u2, rfl, r1, r2⟩ := vals2 r
  cases (show u2 = Value.ref tp from r2)
  obtain ⟨P, Z, p, hx⟩ := kit_ofY I r1 ty
  obtain ⟨_, its, rv, o, h1, h2, n, h3⟩ := (show ObjOk X.prog X.w H s.heap tp (.tup cs) from I.hok tp _ hT)
  have e3 := ClsV.all k rv
  subst e3
  obtain ⟨oc, od, dt, sl⟩ := o
  simp only at h2 h3
  subst h2 h3
  exact PySem.W.kia_tup Z I.kIn p h1 e hx fun tk => ⟨.bl b, H, I.tok tk, rfl, q⟩
def sevenT : List String := ["NoneType", "bool", "int", "str", "tuple", "list", "dict"]
def sixT : List String := ["bool", "int", "str", "tuple", "list", "dict"]
def tyS : D → String
  | .non => "NoneType"
  | .bl _ => "bool"
  | .int _ => "int"
  | .str _ => "str"
  | .tup _ => "tuple"
  | .lst _ => "list"
  | .dct _ _ => "dict"
  | .ins _ _ _ => ""
  | .fn _ => ""
  | .ext _ _ _ _ => ""
def isB (T a : String) : Bool := a == T || (a == "bool" && T == "int")
/-- what is known of a class of plain instances -/
structure InsF (K : PySem.W.Frag) (C : Addr) : Prop where
  cl : Cls K C
  ha : PySem.W.findIn K (.ref C) "__class__" = some (some (.builtin "object.__class__"))
  hn : PySem.W.specialIn K (.builtin "object.__class__") "__get__" = some (some (.builtin "getset_descriptor.__get__"))
  htk : PySem.W.takesIn K (.builtin "object.__class__") = some true
  hm : PySem.W.mroIn K C (.type "object") = some true
  bt : ∀ T ∈ sixT, PySem.W.kitOne K (.ref C) (.type T) = some false
  tb : ∀ T ∈ sevenT, PySem.W.kitOne K (.type T) (.ref C) = some false
/-- the classes of plain instances that the text has -/
structure InsAll (W : Wd) (cls : List Str) : Prop where
  one : ∀ c ∈ cls, ∀ C, W.mg c = some (.ref C) → InsF W.K C
  two : ∀ c ∈ cls, ∀ c' ∈ cls, ∀ C C', W.mg c = some (.ref C) → W.mg c' = some (.ref C') → PySem.W.kitOne W.K (.ref C) (.ref C') = some (decide (c = c'))
def isiD (cls : List Str) (T : String) : D → Option D
  | .ins c _ _ => if c ∈ cls then some (.bl false) else none
  | .fn _ => none
  | .ext _ _ _ _ => none
  | d => some (.bl (isB T (tyS d)))
def isi2 (cls : List Str) (T T2 : String) : D → Option D
  | .ins c _ _ => if c ∈ cls then some (.bl false) else none
  | .fn _ => none
  | .ext _ _ _ _ => none
  | d => some (.bl (isB T (tyS d) || isB T2 (tyS d)))
def isiC (cls : List Str) (c : Str) : D → Option D
  | .ins c' _ _ => if c' ∈ cls then some (.bl (decide (c' = c))) else none
  | .fn _ => none
  | .ext _ _ _ _ => none
  | _ => some (.bl false)
theorem isi_kit : ∀ T ∈ sixT, ∀ a ∈ sevenT, kitB a T = some (isB T a) := by decide +kernel
theorem tyS_mem {d : D} (h : (∀ c n l, d ≠ .ins c n l) ∧ (∀ x, d ≠ .fn x) ∧ ∀ t x n l, d ≠ .ext t x n l) : tyS d ∈ sevenT := by
  cases d <;> first | exact absurd rfl (h.1 _ _ _) | exact absurd rfl (h.2.1 _) | exact absurd rfl (h.2.2 _ _ _ _) | simp [tyS, sevenT]
theorem ty_of {S : Addr → Prop} {H : Hp} {d : D} {v : V} (r : RepT F S H d v) (h : (∀ c n l, d ≠ .ins c n l) ∧ (∀ x, d ≠ .fn x) ∧ ∀ t x n l, d ≠ .ext t x n l) : TyY F.K H v (.type (tyS d)) := by
  cases d with
  | non => rw [r.non]; exact .inl (.base .non)
  | bl b => rw [r.bl]; exact .inl (.base (.bl b))
  | int b => rw [r.int]; exact .inl (.base (.int b))
  | str b => rw [r.str]; exact .inl (.base (.str b))
  | tup l =>
    obtain ⟨a, vs, rfl, q, _⟩ := r.tup
    rcases q with (q | ⟨o, q⟩) | ⟨o, its, n, q, c, _⟩
    · exact .inl (.base (.tup q))
    · exact .inl (.fTuple q)
    · exact .inl (.kTuple q c)
  | lst l => obtain ⟨a, vs, rfl, q, _⟩ := r.lst; exact .inl (.base (.lst q))
  | dct ks ds =>
    have z : ∃ a, v = .ref a ∧ ((∃ kvs : List (Key × V), H a = some (.dK kvs)) ∨ ∃ es, H a = some (HOd F.toWd a es)) := by
      rcases r with r | ⟨a, rfl, _, r⟩
      · unfold Rep at r
        obtain ⟨a, rfl, _, r⟩ := r
        rcases r with ⟨kvs, q, _⟩ | ⟨es, q, _⟩
        · exact ⟨a, rfl, .inl ⟨kvs, q⟩⟩
        · exact ⟨a, rfl, .inr ⟨es, q⟩⟩
      · rcases r with ⟨kvs, q, _⟩ | ⟨es, q, _⟩
        · exact ⟨a, rfl, .inl ⟨kvs, q⟩⟩
        · exact ⟨a, rfl, .inr ⟨es, q⟩⟩
    obtain ⟨a, rfl, ⟨kvs, q⟩ | ⟨es, q⟩⟩ := z
    · exact .inl (.base (.dK q))
    · exact .inr ⟨a, _, rfl, rfl, q, fun h ⟨_, _, _, xs, _, o, ep, h1, h2, _⟩ => ⟨o, h1, h2.1⟩⟩
  | ins c n l => exact absurd rfl (h.1 _ _ _)
  | fn x => exact absurd rfl (h.2.1 _)
  | ext t x n l => exact absurd rfl (h.2.2 _ _ _ _)
theorem ty_ins {S : Addr → Prop} {H : Hp} {c : Str} {ns : List Str} {ds : List D} {v : V} {cls : List Str} (T : InsAll F.toWd cls) (hc : c ∈ cls) (r : RepT F S H (.ins c ns ds) v) : ∃ C, F.mg c = some (.ref C) ∧ TyY F.K H v (.ref C) ∧ InsF F.K C := by
  obtain ⟨a, C, dx, fs, rfl, m, h, _⟩ := r.ins
  have I := T.one c hc C m
  exact ⟨C, m, .inl (.base (.ins h I.cl I.ha I.hn I.htk I.hm)), I⟩
theorem pe_ty {T : String} {x : Str} {p : Pos} (hg : Gl X x) (hm : X.mg x = none) (hv : bootBuiltins x = some (.type T)) (hn : x ≠ "__name__" := by decide) (hb : (x == ("__debug__" : Str)) = false := by decide) : PE X (.Name x p) (tC (.ty T)) := pe_bltn hg hm hv rfl hn hb
theorem isi_read {r : List V → Hp → VK → Prop} {c : V} {t : TA} {g : D → Option D} (ht : ∀ σ H Q, Q [c] H → t σ H Q) (hr : ∀ (S : Addr → Prop) (H : Hp) (d : D) (v : V) (b : D) (Q : VK), RepT F S H d v → g d = some b → (∀ bb, b = .bl bb → Q (.bl bb) H) → r [v, c] H Q) (hgb : ∀ d b, g d = some b → ∃ bb, b = .bl bb) {σ : L2.St} {H : Hp} {Q : VK}
    (q : tX RV F (eUn g fa) σ H Q) : tCB r (tCons (tX RB F fa) t) σ H Q := by
  obtain ⟨S, Γ, p, es, q⟩ := q
  refine ⟨S, Γ, p, es, (OutOk.bind.mp q).imp fun d p1 q v H1 e1 q1 r1 => ?_⟩
  obtain ⟨b, e2, q⟩ := out_opt.mp q
  refine ht σ H1 _ (hr S H1 d v b Q r1 e2 fun bb eb => ?_)
  subst eb
  exact q _ H1 e1 q1 rep_b
variable {cls : List Str}
theorem ev_isi {T : String} {x : Str} (o : On X F k) (hT : T ∈ sixT) (I : InsAll F.toWd cls) (hi : F.mg "isinstance" = none) (hx : F.mg x = none) (hg : Gl X "isinstance") (hgx : Gl X x) (hv : bootBuiltins x = some (.type T)) (ha : EVB X F a fa) (hn : x ≠ "__name__" := by decide) (hb : (x == ("__debug__" : Str)) = false := by decide)
    (h1 : starEach [a, .Name x p2] X.env = (false, eval a X.env) :: starEach [.Name x p2] X.env := by rfl) (h2 : (backTo pos (starEach [.Name x p2] X.env)).any (·.1) = false := by rfl) (h3 : starEach [.Name x p2] X.env = (false, eval (.Name x p2) X.env) :: starEach [] X.env := by rfl) :
    EV X F (.Call (.Name "isinstance" p) [a, .Name x p2] [] pos) (eUn (isiD cls T) fa) :=
  PE.weak (pe_callB call_isiY hg (by rw [o.mg]; exact hi) (by decide +kernel) (pa_cons ha (pa_cons (pe_ty hgx (by rw [o.mg]; exact hx) hv hn hb) pa_nil h3) h1) (he := h1) (hpl := h2)) fun σ H Q q =>
    isi_read (c := .ty T) (fun σ H Q q => q) (fun S H d v b Q r e kk => by
      by_cases hd : ∃ c n l, d = .ins c n l
      · obtain ⟨c, n, l, rfl⟩ := hd
        obtain ⟨hc, rfl⟩ := ite_sm e
        obtain ⟨C, m, ty, IF⟩ := ty_ins I hc r
        exact ⟨v, .ty T, .ref C, .type T, false, rfl, .ty T, by rw [o.K]; exact ty, by rw [o.K]; exact IF.bt T hT, kk _ rfl⟩
      · have hd : (∀ c n l, d ≠ .ins c n l) ∧ (∀ x, d ≠ .fn x) ∧ ∀ t x n l, d ≠ .ext t x n l := ⟨fun c n l z => hd ⟨c, n, l, z⟩, fun x z => (by subst z; cases e), fun t x n l z => (by subst z; cases e)⟩
        have e : b = .bl (isB T (tyS d)) := by
          cases d <;> first | (cases e; rfl) | exact absurd rfl (hd.1 _ _ _) | exact absurd rfl (hd.2.1 _) | exact absurd rfl (hd.2.2 _ _ _ _)
        subst e
        exact ⟨v, .ty T, .type (tyS d), .type T, _, rfl, .ty T, by rw [o.K]; exact ty_of r hd, kit_ty (isi_kit T hT _ (tyS_mem hd)), kk _ rfl⟩) (fun d b e => by
      cases d <;> first | (cases e; exact ⟨_, rfl⟩) | cases e | (obtain ⟨_, rfl⟩ := ite_sm e; exact ⟨_, rfl⟩)) q
theorem ev_isi2 {T T2 : String} {x x2 : Str} {pt p3 : Pos} {kt : Nat} (o : On X F k) (hT : T ∈ sixT) (hT2 : T2 ∈ sixT) (I : InsAll F.toWd cls) (hi : F.mg "isinstance" = none) (hx : F.mg x = none) (hx2 : F.mg x2 = none) (hg : Gl X "isinstance") (hgx : Gl X x) (hgx2 : Gl X x2) (hv : bootBuiltins x = some (.type T)) (hv2 : bootBuiltins x2 = some (.type T2)) (ha : EVB X F a fa)
    (hn : x ≠ "__name__" := by decide) (hb : (x == ("__debug__" : Str)) = false := by decide) (hn2 : x2 ≠ "__name__" := by decide) (hb2 : (x2 == ("__debug__" : Str)) = false := by decide)
    (h1 : starEach [a, .Tuple [.Name x p2, .Name x2 p3] kt pt] X.env = (false, eval a X.env) :: starEach [.Tuple [.Name x p2, .Name x2 p3] kt pt] X.env := by rfl) (h2 : (backTo pos (starEach [.Tuple [.Name x p2, .Name x2 p3] kt pt] X.env)).any (·.1) = false := by rfl)
    (h3 : starEach [.Tuple [.Name x p2, .Name x2 p3] kt pt] X.env = (false, eval (.Tuple [.Name x p2, .Name x2 p3] kt pt) X.env) :: starEach [] X.env := by rfl) (h4 : starEach [.Name x p2, .Name x2 p3] X.env = (false, eval (.Name x p2) X.env) :: starEach [.Name x2 p3] X.env := by rfl) (h5 : starEach [.Name x2 p3] X.env = (false, eval (.Name x2 p3) X.env) :: starEach [] X.env := by rfl) :
    EV X F (.Call (.Name "isinstance" p) [a, .Tuple [.Name x p2, .Name x2 p3] kt pt] [] pos) (eUn (isi2 cls T T2) fa) :=
  PE.weak (pe_callB call_isiTY hg (by rw [o.mg]; exact hi) (by decide +kernel) (pa_cons ha (pa_cons (pe_tup (pa_cons (pe_ty hgx (by rw [o.mg]; exact hx) hv hn hb) (pa_cons (pe_ty hgx2 (by rw [o.mg]; exact hx2) hv2 hn2 hb2) pa_nil h5) h4)) pa_nil h3) h1) (he := h1) (hpl := h2)) fun σ H Q q => by
    obtain ⟨S, Γ, p, es, q⟩ := q
    refine ⟨S, Γ, p, es, (OutOk.bind.mp q).imp fun d p1 q v H1 e1 q1 r1 => ?_⟩
    obtain ⟨b, e2, q⟩ := out_opt.mp q
    refine ⟨by show 2 ≤ sizeLine; decide, fun tp htp => ?_⟩
    have es1 := es.ext e1 q1
    have es2 := es1.ext (.of (upd_Same (o := .tup [.ty T, .ty T2]) htp)) (q1.same (upd_Same htp))
    have r2 : RepT F S (upd H1 tp (.tup [.ty T, .ty T2])) d v := RepT.ext es1 (.of (upd_Same htp)) r1
    have fin : ∀ bb, b = .bl bb → Q (.bl bb) (upd H1 tp (.tup [.ty T, .ty T2])) := fun bb eb => by
      subst eb
      exact q _ _ (e1.trans (.of (upd_Same htp))) (q1.same (upd_Same htp)) rep_b
    have any2 : ∀ t b1 b2, PySem.W.kitOne F.K t (.type T) = some b1 → PySem.W.kitOne F.K t (.type T2) = some b2 → PySem.W.kitAny F.K t [.type T, .type T2] = some (b1 || b2) := fun t b1 b2 k1 k2 =>
      kitAny_cons k1 (fun z => by subst z; exact kitAny_cons k2 (fun z => by subst z; rfl) fun z => by subst z; rfl) fun z => by subst z; rfl
    by_cases hd : ∃ c n l, d = .ins c n l
    · obtain ⟨c, n, l, rfl⟩ := hd
      obtain ⟨hc, rfl⟩ := ite_sm e2
      obtain ⟨C, m, ty, IF⟩ := ty_ins I hc r2
      exact ⟨v, tp, _, .ref C, [.type T, .type T2], false, rfl, upd_same, .cons (.ty T) (.cons (.ty T2) .nil), by rw [o.K]; exact ty, by rw [o.K]; exact any2 _ _ _ (IF.bt T hT) (IF.bt T2 hT2), fin _ rfl⟩
    · have hd : (∀ c n l, d ≠ .ins c n l) ∧ (∀ x, d ≠ .fn x) ∧ ∀ t x n l, d ≠ .ext t x n l := ⟨fun c n l z => hd ⟨c, n, l, z⟩, fun x z => (by subst z; cases e2), fun t x n l z => (by subst z; cases e2)⟩
      have e : b = .bl (isB T (tyS d) || isB T2 (tyS d)) := by
        cases d <;> first | (cases e2; rfl) | exact absurd rfl (hd.1 _ _ _) | exact absurd rfl (hd.2.1 _) | exact absurd rfl (hd.2.2 _ _ _ _)
      exact ⟨v, tp, _, .type (tyS d), [.type T, .type T2], _, rfl, upd_same, .cons (.ty T) (.cons (.ty T2) .nil), by rw [o.K]; exact ty_of r2 hd, by rw [o.K]; exact any2 _ _ _ (kit_ty (isi_kit T hT _ (tyS_mem hd))) (kit_ty (isi_kit T2 hT2 _ (tyS_mem hd))), fin _ e⟩
theorem ev_isiC {c : Str} (o : On X F k) (hc : c ∈ cls) (I : InsAll F.toWd cls) (hC : ∃ C, F.mg c = some (.ref C)) (hi : F.mg "isinstance" = none) (hg : Gl X "isinstance") (hgx : Gl X c) (ha : EVB X F a fa) (hb : (c == ("__debug__" : Str)) = false := by decide)
    (h1 : starEach [a, .Name c p2] X.env = (false, eval a X.env) :: starEach [.Name c p2] X.env := by rfl) (h2 : (backTo pos (starEach [.Name c p2] X.env)).any (·.1) = false := by rfl) (h3 : starEach [.Name c p2] X.env = (false, eval (.Name c p2) X.env) :: starEach [] X.env := by rfl) :
    EV X F (.Call (.Name "isinstance" p) [a, .Name c p2] [] pos) (eUn (isiC cls c) fa) := by
  obtain ⟨C, hC⟩ := hC
  have IC := I.one c hc C hC
  exact PE.weak (pe_callB call_isiY hg (by rw [o.mg]; exact hi) (by decide +kernel) (pa_cons ha (pa_cons (pe_glob (v := .ref C) hgx (by rw [o.mg]; exact hC) rfl hb) pa_nil h3) h1) (he := h1) (hpl := h2)) fun σ H Q q =>
    isi_read (c := .ref C) (fun σ H Q q => q) (fun S H d v b Q r e kk => by
      by_cases hd : ∃ c n l, d = .ins c n l
      · obtain ⟨c', n, l, rfl⟩ := hd
        obtain ⟨hc', rfl⟩ := ite_sm e
        obtain ⟨C', m, ty, IF⟩ := ty_ins I hc' r
        exact ⟨v, .ref C, .ref C', .ref C, _, rfl, .own C, by rw [o.K]; exact ty, by rw [o.K]; exact I.two c' hc' c hc C' C m hC, kk _ rfl⟩
      · have hd : (∀ c n l, d ≠ .ins c n l) ∧ (∀ x, d ≠ .fn x) ∧ ∀ t x n l, d ≠ .ext t x n l := ⟨fun c n l z => hd ⟨c, n, l, z⟩, fun x z => (by subst z; cases e), fun t x n l z => (by subst z; cases e)⟩
        have e : b = .bl false := by
          cases d <;> first | (cases e; rfl) | exact absurd rfl (hd.1 _ _ _) | exact absurd rfl (hd.2.1 _) | exact absurd rfl (hd.2.2 _ _ _ _)
        subst e
        exact ⟨v, .ref C, .type (tyS d), .ref C, _, rfl, .own C, by rw [o.K]; exact ty_of r hd, by rw [o.K]; exact IC.tb _ (tyS_mem hd), kk _ rfl⟩) (fun d b e => by
      cases d <;> first | (cases e; exact ⟨_, rfl⟩) | cases e | (obtain ⟨_, rfl⟩ := ite_sm e; exact ⟨_, rfl⟩)) q
/-! ### comparisons as tests -/
theorem et_cmp {op : CmpOp} {r : R2} {g : D → D → Option D} (ho : OpR X (compareOp op) r) (hd : OpD F r g RV) (hb2 : ∀ x y d, g x y = some d → ∃ b, d = .bl b) (ha : EVB X F a fa) (hb : EVB X F b fb) (hm : behindInMarks op b = false) : ET X F (.Compare a [op] [b] pos) (eOp g fa fb) :=
  PT.weak (pt_cmpR ho ha hb hm) fun σ H Q q => by
    obtain ⟨S, Γ, p, es, q⟩ := q
    refine tX_op (F := F) (R := RV) hd ⟨S, Γ, p, es, ?_⟩
    -- the answer is a truth value
    have key : ∀ d p', eOp g fa fb Γ p = .ok (d, p') → ∃ b, d = .bl b := fun d p' e => by
      have e : M.bind (fa Γ) (fun x => M.bind (fb Γ) fun y => ofOpt (g x y)) p = .ok (d, p') := e
      unfold M.bind at e
      cases g1 : fa Γ p with
      | bad => rw [g1] at e; cases e
      | exc x => rw [g1] at e; cases e
      | ok z =>
        rw [g1] at e
        dsimp only at e
        cases g2 : fb Γ z.2 with
        | bad => rw [g2] at e; cases e
        | exc x => rw [g2] at e; cases e
        | ok z2 =>
          rw [g2] at e
          dsimp only at e
          unfold ofOpt at e
          cases g3 : g z.1 z2.1 with
          | none => rw [g3] at e; cases e
          | some d' => rw [g3] at e; cases e; exact hb2 _ _ _ g3
    cases g1 : eOp g fa fb Γ p with
    | bad => rw [g1] at q; exact q.elim
    | exc x => rw [g1] at q; exact q
    | ok z =>
      obtain ⟨d, p'⟩ := z
      obtain ⟨bb, rfl⟩ := key d p' g1
      rw [g1] at q
      obtain ⟨b', e, q⟩ := (show ∃ b', D.bl bb = .bl b' ∧ ∀ H', Ext F H H' → PotOk F H' p' → Q b' H' from q)
      cases e
      exact fun v H' e1 e2 r => ⟨bb, r.b.bl, q H' e1 e2⟩
theorem cmpI_bl {q : Int → Int → Bool} (x y d : D) (e : cmpI q x y = some d) : ∃ b, d = .bl b := by
  unfold cmpI at e
  split at e
  · cases e; exact ⟨_, rfl⟩
  · cases e
theorem et_lt (ha : EVB X F a fa) (hb : EVB X F b fb) : ET X F (.Compare a [.Lt] [b] pos) (eOp ltD fa fb) := et_cmp op_lt (opd_cmp _) cmpI_bl ha hb (nomark _)
theorem et_le (ha : EVB X F a fa) (hb : EVB X F b fb) : ET X F (.Compare a [.LtE] [b] pos) (eOp leD fa fb) := et_cmp op_le (opd_cmp _) cmpI_bl ha hb (nomark _)
theorem et_gt (ha : EVB X F a fa) (hb : EVB X F b fb) : ET X F (.Compare a [.Gt] [b] pos) (eOp gtD fa fb) := et_cmp op_gt (opd_cmp _) cmpI_bl ha hb (nomark _)
theorem et_ge (ha : EVB X F a fa) (hb : EVB X F b fb) : ET X F (.Compare a [.GtE] [b] pos) (eOp geD fa fb) := et_cmp op_ge (opd_cmp _) cmpI_bl ha hb (nomark _)
theorem et_isN (ha : EVB X F a fa) (hb : EVB X F b fb) : ET X F (.Compare a [.Is] [b] pos) (eOp isND fa fb) := et_cmp op_isN opd_isN (fun x y d e => by cases y <;> cases e; exact ⟨_, rfl⟩) ha hb (nomark _)
theorem et_notN (ha : EVB X F a fa) (hb : EVB X F b fb) : ET X F (.Compare a [.IsNot] [b] pos) (eOp notND fa fb) := et_cmp op_notN opd_notN (fun x y d e => by cases y <;> cases e; exact ⟨_, rfl⟩) ha hb (nomark _)
theorem et_isB (ha : EVB X F a fa) (hb : EVB X F b fb) : ET X F (.Compare a [.Is] [b] pos) (eOp isBD fa fb) := et_cmp op_isBl opd_isB (fun x y d e => by cases x <;> cases y <;> cases e; exact ⟨_, rfl⟩) ha hb (nomark _)
theorem et_notB (ha : EVB X F a fa) (hb : EVB X F b fb) : ET X F (.Compare a [.IsNot] [b] pos) (eOp notBD fa fb) := et_cmp op_notBl opd_notB (fun x y d e => by cases x <;> cases y <;> cases e; exact ⟨_, rfl⟩) ha hb (nomark _)
theorem map_bl {α : Type} {o : Option α} {h : α → Bool} {d : D} (e : (o.map fun k => D.bl (h k)) = some d) : ∃ b, d = .bl b := by
  cases o with
  | none => cases e
  | some x => cases e; exact ⟨_, rfl⟩
theorem et_eq (o : On X F k) (ha : EVB X F a fa) (hb : EVB X F b fb) : ET X F (.Compare a [.Eq] [b] pos) (eOp eqD fa fb) :=
  et_cmp (op_eq.or (op_eqD o.room.units)) (opd_eqB (g := id) (fun _ _ _ _ q => .inl ⟨rfl, by rw [dec_str']; exact q⟩) (fun _ _ _ _ q => .inl ⟨rfl, by rw [dec_int']; exact q⟩) fun x y d e H Q h1 h2 h3 h4 q => .inr ⟨d, e, by rw [o.K]; exact h1, by rw [o.K]; exact h2, h3, h4, q⟩) (fun x y d e => map_bl (h := id) e) ha hb (nomark _)
theorem et_ne (o : On X F k) (ha : EVB X F a fa) (hb : EVB X F b fb) : ET X F (.Compare a [.NotEq] [b] pos) (eOp neD fa fb) :=
  et_cmp (op_ne.or (op_neD o.room.units)) (opd_eqB (g := not) (fun _ _ _ _ q => .inl ⟨rfl, by rw [dec_str']; exact q⟩) (fun _ _ _ _ q => .inl ⟨rfl, by rw [dec_int']; exact q⟩) fun x y d e H Q h1 h2 h3 h4 q => .inr ⟨d, e, by rw [o.K]; exact h1, by rw [o.K]; exact h2, h3, h4, q⟩) (fun x y d e => map_bl (h := not) e) ha hb (nomark _)
/-- a chain as a test -/
theorem et_leLe {c : Expr} {fc : SEnv → M D} (ha : EVB X F a fa) (hb : EVB X F b fb) (hc : EVB X F c fc) (hm : lastMarks [.LtE, .LtE] [b, c] = false := by with_unfolding_all rfl) : ET X F (.Compare a [.LtE, .LtE] [b, c] pos) (eChain leD leD fa fb fc) :=
  PT.weak (pt_chain op_le op_le ha hb hc hm) fun σ H Q q => by
    obtain ⟨S, Γ, p, es, q⟩ := q
    refine ⟨S, Γ, p, es, (OutOk.bind.mp q).imp fun d1 p1 q v1 H1 e1 q1 r1 => ?_⟩
    have es1 := es.ext e1 q1
    refine ⟨S, Γ, p1, es1, (OutOk.bind.mp q).imp fun d2 p2 q v2 H2 e2 q2 r2 => ?_⟩
    have es2 := es1.ext e2 q2
    obtain ⟨d, e3, q⟩ := out_opt.mp (OutOk.bind.mp q)
    refine opd_cmp _ S H H2 d1 d2 d v1 v2 _ es2.mt (e1.trans e2) (es.sub (e1.trans e2) q2) (r1.ext es1 e2) r2 e3 fun v H3 s3 r3 => ?_
    obtain ⟨kk, rfl⟩ := cmpI_bl _ _ _ e3
    refine ⟨kk, r3.b.bl, ?_⟩
    have es3 := es2.ext (.of s3) (q2.same s3)
    cases kk with
    | true =>
      refine iteT ⟨S, Γ, p2, es3, OutOk.imp (OutOk.bind.mp (show OutOk F ((fc Γ >>= fun c => ofOpt (leD d2 c)) p2) _ from q)) fun d3 p3 q v3 H4 e4 q4 r4 => ?_⟩
      obtain ⟨d', e5, q⟩ := out_opt.mp q
      have es4 := es3.ext e4 q4
      have e14 := (e1.trans e2).trans ((Ext.of s3).trans e4)
      obtain ⟨b5, rfl⟩ := cmpI_bl _ _ _ e5
      obtain ⟨b', e6, q⟩ := q
      cases e6
      exact opd_cmp _ S H H4 d2 d3 _ v2 v3 _ es4.mt e14 (es.sub e14 q4) ((r2.ext es2 (.of s3)).ext es3 e4) r4 e5 fun v H' s r => ⟨_, r.b.bl, q H' (e14.trans (.of s)) (q4.same s)⟩
    | false =>
      have e13 := (e1.trans e2).trans (Ext.of s3)
      obtain ⟨b', e6, q⟩ := (show ∃ b', D.bl false = .bl b' ∧ ∀ H', Ext F H H' → PotOk F H' p2 → Q b' H' from q)
      cases e6
      exact iteF ⟨_, rfl, q H3 e13 (q2.same s3)⟩
/-! ### targets' lengths -/
theorem gl_nil : ∀ (ds : List D) (Γ Γ' : SEnv), gs0 ds Γ = some Γ' → ds.length = 0 := fun ds Γ Γ' e => by
  cases ds with
  | nil => rfl
  | cons d ds => cases e
theorem gl_cons {n : Nat} {t : D → SEnv → Option SEnv} {u : List D → SEnv → Option SEnv} (h : ∀ (ds : List D) (Γ Γ' : SEnv), u ds Γ = some Γ' → ds.length = n) : ∀ (ds : List D) (Γ Γ' : SEnv), gs1 t u ds Γ = some Γ' → ds.length = n + 1 := fun ds Γ Γ' e => by
  cases ds with
  | nil => cases e
  | cons d ds =>
    have e : (t d Γ).bind (u ds) = some Γ' := e
    cases g : t d Γ with
    | none => rw [g] at e; cases e
    | some Γ1 => rw [g] at e; rw [List.length_cons, h ds Γ1 Γ' e]
end
end PL

set_option Elab.async false
set_option linter.all false
set_option maxRecDepth 100000
set_option maxHeartbeats 4000000
/-! PL13: several names at once, op=, the pot. -/
namespace PL
open PySem L2
variable [TabL]

/-! ### a, b = e1, e2 -/
structure Pi where
  i : Nat
  own : Bool
  f : SEnv → M D
def Pi.sl (x : Pi) (d : D) : Sl := if x.own then .own d else .val d
def parL : List Pi → SEnv → SEnv → M SEnv
  | [], _, Γa => pure Γa
  | x :: r, Γe, Γa => do let d ← x.f Γe; parL r (Γe.set x.i .no) (Γa.set x.i (x.sl d))
def sPar (xs : List Pi) : DS := fun Γ => do let Γ' ← parL xs Γ Γ; pure (.nx, Γ')
def setAll : St → List Pi → List V → St
  | σ, x :: xs, v :: vs => setAll (σ.set x.i (some v)) xs vs
  | σ, _, _ => σ
def Pi.R (x : Pi) : RR := if x.own then RN else RV
def tPars (F : Fr) : List Pi → TA
  | [] => tNil
  | x :: r => tCons (tX x.R F x.f) (tPars F r)
section
variable {F : Fr}
/-- the names asked so far are told apart from those that are asked -/
def Rel2 (Γe Γa : SEnv) (σ σa : St) : Prop := ∀ (i : Nat) (s : Sl), Γe[i]? = some s → (s = Sl.no ∧ i < σ.length) ∨ (Γa[i]? = some s ∧ σ[i]? = σa[i]?)
theorem Rel2.es {Γe Γa : SEnv} {σ σa : St} {p : Pot} {H : Hp} (r : Rel2 Γe Γa σ σa) (st : StOk F Γa p σa H) : ES F (Sof F Γa σa) Γe p σ H :=
  ⟨fun i s g => by
    rcases r i s g with ⟨rfl, h⟩ | ⟨g2, e⟩
    · exact ⟨σ[i], List.getElem?_eq_getElem h, trivial⟩
    · obtain ⟨x, ex, r⟩ := st.es.env i s g2
      exact ⟨x, by rw [e]; exact ex, r⟩, st.es.pot, st.es.mt, st.es.pa, st.es.s0, st.es.same⟩
theorem Rel2.step {Γe Γa : SEnv} {σ σa : St} {i : Nat} {s : Sl} {v : Option V} {p : Pot} {H : Hp} (r : Rel2 Γe Γa σ σa) (st : StOk F Γa p σa H) : Rel2 (Γe.set i .no) (Γa.set i s) σ (σa.set i v) := fun j t g => by
  rcases get_set_cases g with ⟨rfl, rfl, hl⟩ | ⟨hj, g⟩
  · refine .inl ⟨rfl, ?_⟩
    rcases r j _ (List.getElem?_eq_getElem hl) with ⟨_, h⟩ | ⟨g2, e⟩
    · exact h
    · obtain ⟨x, ex, _⟩ := st.es.env j _ g2
      rw [ex] at e
      exact (List.getElem?_eq_some_iff.mp e).1
  · rcases r j t g with ⟨rfl, h⟩ | ⟨g2, e⟩
    · exact .inl ⟨rfl, h⟩
    · exact .inr ⟨by rw [List.getElem?_set_ne (Ne.symm hj)]; exact g2, by rw [List.getElem?_set_ne (Ne.symm hj)]; exact e⟩
theorem par_read {Q : List V → Hp → Prop} : ∀ (xs : List Pi) {Γe Γa : SEnv} {p : Pot} {σ σa : St} {H : Hp}, StOk F Γa p σa H → Rel2 Γe Γa σ σa →
    OutOk F (parL xs Γe Γa p) (fun Γ' p' => ∀ vs H', vs.length = xs.length → Kp F Γa σa H Γ' (setAll σa xs vs) H' → StOk F Γ' p' (setAll σa xs vs) H' → Q vs H') → tPars F xs σ H Q
  | [], Γe, Γa, p, σ, σa, H, st, _, q => (show ∀ vs H', vs.length = 0 → Kp F Γa σa H Γa (setAll σa [] vs) H' → StOk F Γa p (setAll σa [] vs) H' → Q vs H' from q) [] H rfl .refl st
  | x :: xs, Γe, Γa, p, σ, σa, H, st, rel, q => by
    refine ⟨_, Γe, p, rel.es st, (OutOk.bind.mp q).imp fun d p1 q v H1 e1 q1 r1 => ?_⟩
    unfold Pi.R at r1
    cases ho : x.own with
    | false =>
      rw [ho] at r1
      have hs : x.sl d = .val d := by unfold Pi.sl; rw [ho]; rfl
      rw [hs] at q
      have s1 := st.ext e1 q1
      have s2 := s1.set (i := x.i) (show Rep F.toWd (Sof F Γa σa) H1 d v from r1)
      have k2 : Kp F Γa σa H (Γa.set x.i (.val d)) (σa.set x.i (some v)) H1 := (Kp.ext st e1 q1).trans .set
      exact par_read xs s2 (rel.step st) (q.imp fun Γ' p' q vs H' hv k s => q (v :: vs) H' (by rw [List.length_cons, hv]; rfl) (k2.trans k) s)
    | true =>
      rw [ho] at r1
      have hs : x.sl d = .own d := by unfold Pi.sl; rw [ho]; rfl
      rw [hs] at q
      obtain ⟨a, rfl, n, r⟩ := (show RN F (Sof F Γa σa) H H1 d v from r1)
      obtain ⟨s2, k2⟩ := st.setOwn (i := x.i) e1 q1 n r
      exact par_read xs s2 (rel.step st) (q.imp fun Γ' p' q vs H' hv k s => q (.ref a :: vs) H' (by rw [List.length_cons, hv]; rfl) (k2.trans k) s)
theorem Rel2.refl {Γ : SEnv} {σ : St} : Rel2 Γ Γ σ σ := fun i s g => .inr ⟨g, rfl⟩
end
section
variable {X : Cx} {F : Fr} {k : Nat}
/-- the items, from the left -/
inductive EPs (X : Cx) (F : Fr) : List Expr → List Pi → Prop
  | nil : EPs X F [] []
  | val {e : Expr} {es : List Expr} {i : Nat} {f : SEnv → M D} {xs : List Pi} (h : EV X F e f) (r : EPs X F es xs) (hs : starEach (e :: es) X.env = (false, eval e X.env) :: starEach es X.env := by rfl) : EPs X F (e :: es) (⟨i, false, f⟩ :: xs)
  | own {e : Expr} {es : List Expr} {i : Nat} {f : SEnv → M D} {xs : List Pi} (h : EVN X F e f) (r : EPs X F es xs) (hs : starEach (e :: es) X.env = (false, eval e X.env) :: starEach es X.env := by rfl) : EPs X F (e :: es) (⟨i, true, f⟩ :: xs)
theorem EPs.pa {es : List Expr} {xs : List Pi} (h : EPs X F es xs) : PA X es (tPars F xs) := by
  induction h with
  | nil => exact pa_nil
  | val h r hs ih => exact pa_cons h ih hs
  | own h r hs ih => exact pa_cons h ih hs
variable {i j l : Nat} {x y z : Str} {a b c : Expr} {px py pz pt pos : Pos} {kt k2 : Nat} {pt2 : Pos} {fa fb fc : SEnv → M D} {oa ob oc : Bool}
/-- two local names -/
theorem es_par2 (o : On X F k) (h : EPs X F [a, b] [⟨i, oa, fa⟩, ⟨j, ob, fb⟩]) (hi : X.N[i]? = some x := by rfl) (hj : X.N[j]? = some y := by rfl) (hij : i ≠ j := by decide) (hx : X.env.scope.names.lookup x = some .local := by rfl) (hy : X.env.scope.names.lookup y = some .local := by rfl)
    (hw : swappedStores [.Tuple [.Name x px, .Name y py] kt pt] (.Tuple [a, b] k2 pt2) X.env = pure (some [x, y]) := by rfl)
    (hs : swapsWithSole [.Tuple [.Name x px, .Name y py] kt pt] (.Tuple [a, b] k2 pt2) pos.line X.env = pure false := by rfl) : ES1 X F (.Assign [.Tuple [.Name x px, .Name y py] kt pt] (.Tuple [a, b] k2 pt2) pos) (sPar [⟨i, oa, fa⟩, ⟨j, ob, fb⟩]) :=
  PS.weak (ps_par o.calm o.nd hi hj hij hx hy h.pa hw hs) fun D σ H q => by
    obtain ⟨Γ, p, st, q⟩ := q
    refine par_read _ st .refl ((OutOk.bind.mp q).imp fun Γ' p' q vs H' hv k s => ?_)
    match vs, hv with
    | [v, w], _ => exact ⟨v, w, rfl, (show ∀ σ' H', Kp F Γ σ H Γ' σ' H' → StOk F Γ' p' σ' H' → D.nx σ' H' from q) _ _ k s⟩
theorem es_par3 (o : On X F k) (h : EPs X F [a, b, c] [⟨i, oa, fa⟩, ⟨j, ob, fb⟩, ⟨l, oc, fc⟩]) (hi : X.N[i]? = some x := by rfl) (hj : X.N[j]? = some y := by rfl) (hl : X.N[l]? = some z := by rfl) (hij : i ≠ j := by decide) (hil : i ≠ l := by decide) (hjl : j ≠ l := by decide)
    (hx : X.env.scope.names.lookup x = some .local := by rfl) (hy : X.env.scope.names.lookup y = some .local := by rfl) (hz : X.env.scope.names.lookup z = some .local := by rfl)
    (hw : swappedStores [.Tuple [.Name x px, .Name y py, .Name z pz] kt pt] (.Tuple [a, b, c] k2 pt2) X.env = pure (some [x, y, z]) := by rfl)
    (hs : swapsWithSole [.Tuple [.Name x px, .Name y py, .Name z pz] kt pt] (.Tuple [a, b, c] k2 pt2) pos.line X.env = pure false := by rfl) : ES1 X F (.Assign [.Tuple [.Name x px, .Name y py, .Name z pz] kt pt] (.Tuple [a, b, c] k2 pt2) pos) (sPar [⟨i, oa, fa⟩, ⟨j, ob, fb⟩, ⟨l, oc, fc⟩]) :=
  PS.weak (ps_par3 o.calm o.nd hi hj hl hij hil hjl hx hy hz h.pa hw hs) fun D σ H q => by
    obtain ⟨Γ, p, st, q⟩ := q
    refine par_read _ st .refl ((OutOk.bind.mp q).imp fun Γ' p' q vs H' hv k s => ?_)
    match vs, hv with
    | [u, v, w], _ => exact ⟨u, v, w, rfl, (show ∀ σ' H', Kp F Γ σ H Γ' σ' H' → StOk F Γ' p' σ' H' → D.nx σ' H' from q) _ _ k s⟩
/-- the targets, one by one -/
inductive TNs (X : Cx) : List Expr → List Pi → Prop
  | nil : TNs X [] []
  | cons {x : Str} {px : Pos} {es : List Expr} {i : Nat} {ow : Bool} {f : SEnv → M D} {xs : List Pi} (r : TNs X es xs) (hi : X.N[i]? = some x := by rfl) (hx : Loc X.env.scope x := by first | exact Or.inl rfl | exact Or.inr rfl) (hf : X.fn x = true ∨ X.env.scope.names.lookup x = some .local := by first | exact .inl rfl | exact .inr rfl)
      (ha : (assignEach (.Name x px :: es) X.env).map (·.2) = assign (.Name x px) X.env :: (assignEach es X.env).map (·.2) := by rfl) : TNs X (.Name x px :: es) (⟨i, ow, f⟩ :: xs)
def gAll : List Pi → TGs
  | [] => gNil
  | x :: xs => gCons (gName x.i) (gAll xs)
theorem TNs.pgs {es : List Expr} {xs : List Pi} (hN : X.N.Nodup) (h : TNs X es xs) : PGs X es (gAll xs) := by
  induction h with
  | nil => exact pgs_nil
  | cons r hi hx hf ha ih => exact pgs_cons (pg_name hN hi hx hf) ih ha
theorem gAll_run : ∀ (xs : List Pi) (vs : List V) (σ : St) (H : Hp) (Q : St → Hp → Prop), vs.length = xs.length → Q (setAll σ xs vs) H → gAll xs vs σ H Q
  | [], vs, σ, H, Q, e, q => by
    cases vs with
    | nil => exact ⟨rfl, q⟩
    | cons _ _ => cases e
  | x :: xs, vs, σ, H, Q, e, q => by
    cases vs with
    | nil => cases e
    | cons v vs => exact ⟨v, vs, rfl, gAll_run xs vs _ H Q (by simpa using e) q⟩
/-- by a tuple that is made and taken apart -/
theorem es_parN {es ts : List Expr} {xs : List Pi} {n : Nat} (o : On X F k) (h : EPs X F es xs) (ht : TNs X ts xs) (hl : xs.length = n) (hn : (assignEach ts X.env).length = n := by rfl) (hp : (assignEach ts X.env).findIdx? (·.1) = none := by rfl)
    (hs : swapsWithSole [.Tuple ts kt pt] (.Tuple es k2 pt2) pos.line X.env = pure false := by rfl) (hw : swappedStores [.Tuple ts kt pt] (.Tuple es k2 pt2) X.env = pure none := by rfl) (h1 : (assignEach [.Tuple ts kt pt] X.env).map (·.2) = [assign (.Tuple ts kt pt) X.env] := by rfl) (hz : n ≤ sizeLine := by decide) :
    ES1 X F (.Assign [.Tuple ts kt pt] (.Tuple es k2 pt2) pos) (sPar xs) :=
  PS.weak (ps_asg (pe_tup h.pa) (pg_tup o.calm (ht.pgs o.nd) hn hp) hs hw h1) fun D σ H q => by
    obtain ⟨Γ, p, st, q⟩ := q
    refine par_read _ st .refl ((OutOk.bind.mp q).imp fun Γ' p' q vs H' hv k s => ?_)
    refine ⟨by rw [hv, hl]; exact hz, fun w hw => ?_⟩
    have e : Ext F H' (upd H' w (.tup vs)) := .of (upd_Same hw)
    have q2 := s.es.pot.same (upd_Same (o := .tup vs) hw)
    refine ⟨w, vs, rfl, SqT.of upd_same, by rw [hv, hl], gAll_run xs vs σ _ _ hv ?_⟩
    exact (show ∀ σ' H', Kp F Γ σ H Γ' σ' H' → StOk F Γ' p' σ' H' → D.nx σ' H' from q) _ _ (k.trans (Kp.ext s e q2)) (s.ext e q2)

/-! ### x += e, ints -/
def addI : D → D → Option D
  | .int a, .int b => some (.int (a + b))
  | _, _ => none
def subI : D → D → Option D
  | .int a, .int b => some (.int (a - b))
  | _, _ => none
def sAug (i : Nat) (g : D → D → Option D) (f : SEnv → M D) : DS := fun Γ => do let x ← ofOpt (valOf Γ[i]?); let y ← f Γ; let z ← ofOpt (g x y); pure (.nx, Γ.set i (.val z))
theorem es_augI {op : Operator} {g : Int → Int → Int} {gd : D → D → Option D} {pos' : Pos} {e : Expr} {f : SEnv → M D} (o : On X F k) (ho : PIp X op (ipI g)) (hg : ∀ x y z, gd x y = some z → ∃ a b, x = .int a ∧ y = .int b ∧ z = .int (g a b)) (he : EVB X F e f)
    (hi : X.N[i]? = some x := by rfl) (hx : Loc X.env.scope x := by first | exact Or.inl rfl | exact Or.inr rfl) (hf : X.fn x = true ∨ X.env.scope.names.lookup x = some .local := by first | exact .inl rfl | exact .inr rfl) : ES1 X F (.AugAssign (.Name x pos') op e pos) (sAug i gd f) :=
  PS.weak (ps_aug o.nd hi hx he ho hf) fun D σ H q => by
    obtain ⟨Γ, p, st, q⟩ := q
    obtain ⟨d, ed, q⟩ := out_opt.mp (OutOk.bind.mp q)
    obtain ⟨x, e2, v, rfl, r⟩ := st.es.env i _ (valOf_some ed)
    refine ⟨v, e2, _, Γ, p, st.es, (OutOk.bind.mp q).imp fun d2 p1 q v1 H1 e1 q1 r1 => ?_⟩
    obtain ⟨z, ez, q⟩ := out_opt.mp (OutOk.bind.mp q)
    obtain ⟨a, b, rfl, rfl, rfl⟩ := hg _ _ _ ez
    have rv : v = .int a := by unfold Rep at r; exact r
    refine ⟨a, b, rv, RepT.int r1, ?_⟩
    have s1 := st.ext e1 q1
    exact (show ∀ σ' H', Kp F Γ σ H (Γ.set i (.val (.int (g a b)))) σ' H' → StOk F (Γ.set i (.val (.int (g a b)))) p1 σ' H' → D.nx σ' H' from q) _ _ ((Kp.ext st e1 q1).trans .set) (s1.set rep_i)
theorem es_augAdd {pos' : Pos} {e : Expr} {f : SEnv → M D} (o : On X F k) (he : EVB X F e f) (hi : X.N[i]? = some x := by rfl) (hx : Loc X.env.scope x := by first | exact Or.inl rfl | exact Or.inr rfl) (hf : X.fn x = true ∨ X.env.scope.names.lookup x = some .local := by first | exact .inl rfl | exact .inr rfl) : ES1 X F (.AugAssign (.Name x pos') .Add e pos) (sAug i addI f) :=
  es_augI o ip_add (fun x y z e => by
    unfold addI at e
    split at e
    · cases e; exact ⟨_, _, rfl, rfl, rfl⟩
    · cases e) he hi hx hf

/-! ### x[i], y[j] = e1, e2: two lists of ours -/
def sSet2 (i j : Nat) (f1 f2 fa fb : SEnv → M D) : DS := fun Γ => do
  let l1 ← ofOpt (ownL Γ[i]?)
  let l2 ← ofOpt (ownL Γ[j]?)
  let d1 ← fa Γ
  let d2 ← fb Γ
  match ← f1 Γ with
  | .int k1 => do
    let j1 ← ofOpt (ixN l1.length k1)
    match ← f2 (Γ.set i (.own (.lst (l1.set j1 d1)))) with
    | .int k2 => do
      let j2 ← ofOpt (ixN l2.length k2)
      pure (.nx, (Γ.set i (.own (.lst (l1.set j1 d1)))).set j (.own (.lst (l2.set j2 d2))))
    | _ => M.bad
  | _ => M.bad
theorem es_set2 {e1 e2 : Expr} {f1 f2 : SEnv → M D} {ap1 ap2 : Pos} (o : On X F k) (hij : i ≠ j) (ha : EV X F a fa) (hb : EV X F b fb) (h1 : EVB X F e1 f1) (h2 : EVB X F e2 f2) (hN : X.N[i]? = some x := by rfl) (hN2 : X.N[j]? = some y := by rfl)
    (hv : Vis X.env.scope x := by first | exact Or.inl rfl | exact Or.inr (Or.inl rfl) | exact Or.inr (Or.inr rfl)) (hv2 : Vis X.env.scope y := by first | exact Or.inl rfl | exact Or.inr (Or.inl rfl) | exact Or.inr (Or.inr rfl))
    (hd : (x == ("__debug__" : Str)) = false := by decide) (hcd : (x == ("__classdict__" : Str)) = false := by decide) (hd2 : (y == ("__debug__" : Str)) = false := by decide) (hcd2 : (y == ("__classdict__" : Str)) = false := by decide)
    (b1 : ∀ v, assign (.Subscript (.Name x px) e1 ap1) X.env v = (do
      let ov ← holding [v] (eval (.Name x px) X.env)
      let iv ← holding [v, ov] (eval e1 X.env)
      standAt ap1
      holding [v, ov, iv] (setItem ov iv v)
      release [v, ov, iv] []) := by intro _; rfl)
    (b2 : ∀ v, assign (.Subscript (.Name y py) e2 ap2) X.env v = (do
      let ov ← holding [v] (eval (.Name y py) X.env)
      let iv ← holding [v, ov] (eval e2 X.env)
      standAt ap2
      holding [v, ov, iv] (setItem ov iv v)
      release [v, ov, iv] []) := by intro _; rfl)
    (hs1 : starEach [a, b] X.env = (false, eval a X.env) :: starEach [b] X.env := by rfl) (hs2 : starEach [b] X.env = (false, eval b X.env) :: starEach [] X.env := by rfl)
    (g1 : (assignEach [.Subscript (.Name x px) e1 ap1, .Subscript (.Name y py) e2 ap2] X.env).map (·.2) = assign (.Subscript (.Name x px) e1 ap1) X.env :: (assignEach [.Subscript (.Name y py) e2 ap2] X.env).map (·.2) := by rfl)
    (g2 : (assignEach [.Subscript (.Name y py) e2 ap2] X.env).map (·.2) = assign (.Subscript (.Name y py) e2 ap2) X.env :: (assignEach [] X.env).map (·.2) := by rfl)
    (hn : (assignEach [.Subscript (.Name x px) e1 ap1, .Subscript (.Name y py) e2 ap2] X.env).length = 2 := by rfl) (hp : (assignEach [.Subscript (.Name x px) e1 ap1, .Subscript (.Name y py) e2 ap2] X.env).findIdx? (·.1) = none := by rfl)
    (hs : swapsWithSole [.Tuple [.Subscript (.Name x px) e1 ap1, .Subscript (.Name y py) e2 ap2] kt pt] (.Tuple [a, b] k2 pt2) pos.line X.env = pure false := by rfl) (hw : swappedStores [.Tuple [.Subscript (.Name x px) e1 ap1, .Subscript (.Name y py) e2 ap2] kt pt] (.Tuple [a, b] k2 pt2) X.env = pure none := by rfl)
    (h1' : (assignEach [.Tuple [.Subscript (.Name x px) e1 ap1, .Subscript (.Name y py) e2 ap2] kt pt] X.env).map (·.2) = [assign (.Tuple [.Subscript (.Name x px) e1 ap1, .Subscript (.Name y py) e2 ap2] kt pt) X.env] := by rfl) :
    ES1 X F (.Assign [.Tuple [.Subscript (.Name x px) e1 ap1, .Subscript (.Name y py) e2 ap2] kt pt] (.Tuple [a, b] k2 pt2) pos) (sSet2 i j f1 f2 fa fb) :=
  PS.weak (ps_asg (pe_tup (pa_cons ha (pa_cons hb pa_nil hs2) hs1)) (pg_tup o.calm (pgs_cons (pg_sub (pe_var hN hv hd hcd) h1 set_list b1) (pgs_cons (pg_sub (pe_var hN2 hv2 hd2 hcd2) h2 set_list b2) pgs_nil g2) g1) hn hp) hs hw h1') fun D σ H q => by
    obtain ⟨Γ, p, st, q⟩ := q
    obtain ⟨l1, el1, q⟩ := out_opt.mp (OutOk.bind.mp q)
    obtain ⟨l2, el2, q⟩ := out_opt.mp (OutOk.bind.mp q)
    have el1 := ownL_some el1
    have el2 := ownL_some el2
    refine ⟨_, Γ, p, st.es, (OutOk.bind.mp q).imp fun d1 p1 q v1 H1 x1 q1 r1 => ?_⟩
    have s1 := st.ext x1 q1
    refine ⟨_, Γ, p1, s1.es, (OutOk.bind.mp q).imp fun d2 p2 q v2 H2 x2 q2 r2 => ?_⟩
    have s2 := s1.ext x2 q2
    have r1' : Rep F.toWd (Sof F Γ σ) H2 d1 v1 := Rep.goes (x2.goes s1.es.mt s1.es.pa) _ _ r1
    refine ⟨by show 2 ≤ sizeLine; decide, fun w hw => ?_⟩
    have x3 : Ext F H2 (upd H2 w (.tup [v1, v2])) := .of (upd_Same hw)
    have s3 := s2.ext x3 (q2.same (upd_Same hw))
    have g3 := x3.goes s2.es.mt s2.es.pa
    have r1a := Rep.goes g3 _ _ r1'
    have r2a := Rep.goes g3 _ _ (show Rep F.toWd (Sof F Γ σ) H2 d2 v2 from r2)
    have k3 : Kp F Γ σ H Γ σ (upd H2 w (.tup [v1, v2])) := ((Kp.ext st x1 q1).trans (Kp.ext s1 x2 q2)).trans (Kp.ext s2 x3 (q2.same (upd_Same hw)))
    generalize hH3 : upd H2 w (.tup [v1, v2]) = H3 at s3 r1a r2a k3 ⊢
    have hw3 : H3 w = some (.tup [v1, v2]) := by rw [← hH3]; exact upd_same
    obtain ⟨a1, vs1, hσ1, ha1, np1, rs1⟩ := s3.own el1
    refine ⟨w, [v1, v2], rfl, SqT.of hw3, rfl, v1, [v2], rfl, .ref a1, hσ1, _, Γ, p2, s3.es, (OutOk.bind.mp q).imp fun d4 p4 q v4 H4 x4 q4 r4 => ?_⟩
    cases d4 <;> try exact q.elim
    rename_i kk1
    obtain ⟨j1, ej1, q⟩ := out_opt.mp (OutOk.bind.mp q)
    have g4 := x4.goes s3.es.mt s3.es.pa
    obtain ⟨s5, k5⟩ := s3.put (l' := l1.set j1 d1) (vs' := vs1.set j1 v1) x4 q4 el1 hσ1 ((Reps.goes g4 _ _ rs1).set (Rep.goes g4 _ _ r1a) j1)
    refine ⟨a1, vs1, kk1, j1, rfl, RepT.int r4, x4.get _ _ ha1 np1 nt_lst, by rw [← rs1.length]; exact ej1, ?_⟩
    have el2' : (Γ.set i (.own (.lst (l1.set j1 d1))))[j]? = some (Sl.own (.lst l2)) := by rw [List.getElem?_set_ne hij]; exact el2
    obtain ⟨a2, vs2, hσ2, ha2, np2, rs2⟩ := s5.own el2'
    have r2b := Rep.goes (k5.goes s3) _ _ r2a
    refine ⟨v2, [], rfl, .ref a2, hσ2, _, _, p4, s5.es, (OutOk.bind.mp q).imp fun d6 p6 q v6 H6 x6 q6 r6 => ?_⟩
    cases d6 <;> try exact q.elim
    rename_i kk2
    obtain ⟨j2, ej2, q⟩ := out_opt.mp (OutOk.bind.mp q)
    have g6 := x6.goes s5.es.mt s5.es.pa
    obtain ⟨s7, k7⟩ := s5.put (l' := l2.set j2 d2) (vs' := vs2.set j2 v2) x6 q6 el2' hσ2 ((Reps.goes g6 _ _ rs2).set (Rep.goes g6 _ _ r2b) j2)
    refine ⟨a2, vs2, kk2, j2, rfl, RepT.int r6, x6.get _ _ ha2 np2 nt_lst, by rw [← rs2.length]; exact ej2, rfl, ?_⟩
    exact (show ∀ σ' H', Kp F Γ σ H _ σ' H' → StOk F _ p6 σ' H' → D.nx σ' H' from q) _ _ ((k3.trans k5).trans k7) s7
end
end PL

set_option Elab.async false
set_option linter.all false
set_option maxRecDepth 100000
set_option maxHeartbeats 4000000
/-! PL14: the pot's parts; list(range(..)); in; {}. -/
namespace PL
open PySem L2
variable [TabL]

/-! ### the pot's parts -/
def Pot.sel (p : Pot) : Nat → Option Int
  | 1 => some p.used
  | 2 => some p.mix
  | 3 => some p.great
  | _ => none
def Pot.put (p : Pot) (v : Int) : Nat → Option Pot
  | 1 => some { p with used := v }
  | 2 => some { p with mix := v }
  | 3 => some { p with great := v }
  | _ => none
def getP : M Pot := fun p => .ok (p, p)
def setP (q : Pot) : M Unit := fun _ => .ok ((), q)
def ePotI (i j : Nat) : SEnv → M D := fun Γ => do let _ ← ofOpt (isPot Γ[i]?); let p ← getP; let v ← ofOpt (p.sel j); pure (.int v)
def ePotLen (i : Nat) : SEnv → M D := fun Γ => do let _ ← ofOpt (isPot Γ[i]?); let p ← getP; pure (.int p.cells.length)
def ePotCell (i : Nat) (f : SEnv → M D) : SEnv → M D := fun Γ => do
  let _ ← ofOpt (isPot Γ[i]?)
  match ← f Γ with
  | .int k => do let p ← getP; let v ← ofOpt (atI p.cells k); pure (.int v)
  | _ => M.bad
def sPotSet (i j : Nat) (f : SEnv → M D) : DS := fun Γ => do
  let _ ← ofOpt (isPot Γ[i]?)
  match ← f Γ with
  | .int v => do let p ← getP; let q ← ofOpt (p.put v j); setP q; pure (.nx, Γ)
  | _ => M.bad
section
variable {X : Cx} {F : Fr} {k : Nat} {e : Expr} {f : SEnv → M D} {i j : Nat} {xp : Str} {pp pos p1 p2 p3 : Pos} {k0 : Nat} {jj : Int}
theorem isPot_some {s : Option Sl} {u : Unit} (h : isPot s = some u) : s = some .pot := by
  unfold isPot at h
  split at h
  · rfl
  · cases h
theorem ES.potAt {S : Addr → Prop} {Γ : SEnv} {p : Pot} {σ : St} {H : Hp} (es : ES F S Γ p σ H) (h : Γ[i]? = some .pot) : ∃ pa, σ[i]? = some (some (V.ref pa)) ∧ F.pa = some pa ∧ PotAt H pa F.ca p := by
  obtain ⟨x, ex, pa, rfl, hp⟩ := es.env i _ h
  exact ⟨pa, ex, hp, es.pot pa hp⟩
theorem ev_potI (j : Nat) (hj : j = 1 ∨ j = 2 ∨ j = 3) (hN : X.N[i]? = some xp := by rfl) (hv : Vis X.env.scope xp := by first | exact Or.inl rfl | exact Or.inr (Or.inl rfl) | exact Or.inr (Or.inr rfl)) (hd : (xp == ("__debug__" : Str)) = false := by decide) (hcd : (xp == ("__classdict__" : Str)) = false := by decide) :
    EV X F (.Subscript (.Name xp pp) (.Constant (.int (j : Int)) k0 p2) pos) (ePotI i j) :=
  PE.weak (pe_ix ix_list (pe_var hN hv hd hcd) pe_int (fun _ _ => rfl)) fun σ H Q q => by
    obtain ⟨S, Γ, p, es, q⟩ := q
    obtain ⟨u, eu, q⟩ := out_opt.mp (OutOk.bind.mp q)
    obtain ⟨pa, h1, h2, c1, c2⟩ := es.potAt (isPot_some eu)
    have q := OutOk.bind.mp q
    obtain ⟨v, ev, q⟩ := out_opt.mp (OutOk.bind.mp (show OutOk F ((ofOpt (p.sel j) >>= fun v => pure (D.int v)) p) _ from q))
    have q : ∀ w H', Ext F H H' → PotOk F H' p → RV F S H H' (.int v) w → Q w H' := q
    refine ⟨.ref pa, h1, pa, _, j, .int v, rfl, rfl, SqL.of c1, ?_, q _ H .refl es.pot rep_i⟩
    rcases hj with rfl | rfl | rfl <;> (cases ev; rfl)
theorem ev_potLen (o : On X F k) (hm : F.mg "len" = none) (hg : Gl X "len") (hN : X.N[i]? = some xp := by rfl) (hv : Vis X.env.scope xp := by first | exact Or.inl rfl | exact Or.inr (Or.inl rfl) | exact Or.inr (Or.inr rfl)) (hd : (xp == ("__debug__" : Str)) = false := by decide) (hcd : (xp == ("__classdict__" : Str)) = false := by decide)
    (h1 : starEach [.Subscript (.Name xp pp) (.Constant (.int 0) k0 p2) pos] X.env = (false, eval (.Subscript (.Name xp pp) (.Constant (.int 0) k0 p2) pos) X.env) :: starEach [] X.env := by rfl) :
    EV X F (.Call (.Name "len" p1) [.Subscript (.Name xp pp) (.Constant (.int 0) k0 p2) pos] [] p3) (ePotLen i) :=
  PE.weak (pe_callB call_len hg (by rw [o.mg]; exact hm) PySem.boot_len (pa_cons (pe_ix ix_list (pe_var hN hv hd hcd) pe_int (fun _ _ => rfl)) pa_nil h1) (he := h1)) fun σ H Q q => by
    obtain ⟨S, Γ, p, es, q⟩ := q
    obtain ⟨u, eu, q⟩ := out_opt.mp (OutOk.bind.mp q)
    obtain ⟨pa, h1, h2, c1, c2⟩ := es.potAt (isPot_some eu)
    have q : ∀ w H', Ext F H H' → PotOk F H' p → RV F S H H' (.int p.cells.length) w → Q w H' := q
    refine ⟨.ref pa, h1, pa, _, 0, .ref F.ca, rfl, rfl, SqL.of c1, rfl, .ref F.ca, p.cells.length, rfl, .inl ⟨_, SqL.of c2, by rw [List.length_map]⟩, q _ H .refl es.pot rep_i⟩
theorem ev_potCell (he : EVB X F e f) (hN : X.N[i]? = some xp := by rfl) (hv : Vis X.env.scope xp := by first | exact Or.inl rfl | exact Or.inr (Or.inl rfl) | exact Or.inr (Or.inr rfl)) (hd : (xp == ("__debug__" : Str)) = false := by decide) (hcd : (xp == ("__classdict__" : Str)) = false := by decide) (hp : PlainIx e := by exact fun _ _ => rfl) :
    EV X F (.Subscript (.Subscript (.Name xp pp) (.Constant (.int 0) k0 p2) p1) e pos) (ePotCell i f) :=
  PE.weak (pe_ix ix_list (pe_ix ix_list (pe_var hN hv hd hcd) pe_int (fun _ _ => rfl)) he hp) fun σ H Q q => by
    obtain ⟨S, Γ, p, es, q⟩ := q
    obtain ⟨u, eu, q⟩ := out_opt.mp (OutOk.bind.mp q)
    obtain ⟨pa, h1, h2, c1, c2⟩ := es.potAt (isPot_some eu)
    refine ⟨.ref pa, h1, pa, _, 0, .ref F.ca, rfl, rfl, SqL.of c1, rfl, S, Γ, p, es, (OutOk.bind.mp q).imp fun d p1 q v1 H1 e1 q1 r1 => ?_⟩
    cases d <;> try exact q.elim
    rename_i kk
    have q := OutOk.bind.mp q
    obtain ⟨v, ev, q⟩ := out_opt.mp (OutOk.bind.mp (show OutOk F ((ofOpt (atI p1.cells kk) >>= fun v => pure (D.int v)) p1) _ from q))
    have q : ∀ w H', Ext F H H' → PotOk F H' p1 → RV F S H H' (.int v) w → Q w H' := q
    obtain ⟨d1, d2⟩ := q1 pa h2
    refine ⟨F.ca, _, kk, .int v, rfl, RepT.int r1, SqL.of d2, ?_, q _ H1 e1 q1 rep_i⟩
    unfold atI at ev ⊢
    rw [List.length_map]
    cases g : ixN p1.cells.length kk with
    | none => rw [g] at ev; cases ev
    | some n =>
      rw [g] at ev
      show (p1.cells.map V.int)[n]? = _
      rw [List.getElem?_map, show p1.cells[n]? = some v from ev]
      rfl
/-- the pot is written -/
theorem StOk.setPot {Γ : SEnv} {p q : Pot} {σ : St} {H : Hp} {pa : Addr} (st : StOk F Γ p σ H) (h : F.pa = some pa) (hc : q.cells = p.cells) : StOk F Γ q σ (upd H pa (.lst [.ref F.ca, .int q.used, .int q.mix, .int q.great])) ∧ Kp F Γ σ H Γ σ (upd H pa (.lst [.ref F.ca, .int q.used, .int q.mix, .int q.great])) := by
  obtain ⟨c1, c2⟩ := st.es.pot pa h
  have e : Ext F H (upd H pa (.lst [.ref F.ca, .int q.used, .int q.mix, .int q.great])) := Kept.set1 c1 nc_lst h
  have nc : F.ca ≠ pa := fun z => by
    rw [z, c1] at c2
    cases hcell : p.cells with
    | nil => rw [hcell] at c2; cases c2
    | cons a l => rw [hcell] at c2; cases c2
  have q1 : PotOk F (upd H pa (.lst [.ref F.ca, .int q.used, .int q.mix, .int q.great])) q := fun a ha => by
    rw [h] at ha; cases ha
    exact ⟨upd_same, by rw [upd_ne nc, hc]; exact c2⟩
  exact ⟨st.ext e q1, .ext st e q1⟩
theorem put_cells {p q : Pot} {v : Int} (h : p.put v j = some q) : q.cells = p.cells := by
  unfold Pot.put at h
  split at h <;> cases h <;> rfl
theorem es_potSet (j : Nat) (he : EV X F e f) (hN : X.N[i]? = some xp := by rfl) (hv : Vis X.env.scope xp := by first | exact Or.inl rfl | exact Or.inr (Or.inl rfl) | exact Or.inr (Or.inr rfl)) (hd : (xp == ("__debug__" : Str)) = false := by decide) (hcd : (xp == ("__classdict__" : Str)) = false := by decide)
    (b1 : ∀ v, assign (.Subscript (.Name xp pp) (.Constant (.int (j : Int)) k0 p2) p1) X.env v = (do
      let ov ← holding [v] (eval (.Name xp pp) X.env)
      let iv ← holding [v, ov] (eval (.Constant (.int (j : Int)) k0 p2) X.env)
      standAt p1
      holding [v, ov, iv] (setItem ov iv v)
      release [v, ov, iv] []) := by intro _; rfl)
    (b2 : swapsWithSole [.Subscript (.Name xp pp) (.Constant (.int (j : Int)) k0 p2) p1] e pos.line X.env = pure false := by rfl) (b3 : swappedStores [.Subscript (.Name xp pp) (.Constant (.int (j : Int)) k0 p2) p1] e X.env = pure none := by rfl)
    (b4 : (assignEach [.Subscript (.Name xp pp) (.Constant (.int (j : Int)) k0 p2) p1] X.env).map (·.2) = [assign (.Subscript (.Name xp pp) (.Constant (.int (j : Int)) k0 p2) p1) X.env] := by rfl) :
    ES1 X F (.Assign [.Subscript (.Name xp pp) (.Constant (.int (j : Int)) k0 p2) p1] e pos) (sPotSet i j f) :=
  PS.weak (ps_asg he (pg_sub (pe_var hN hv hd hcd) pe_int set_list b1) b2 b3 b4) fun D σ H q => by
    obtain ⟨Γ, p, st, q⟩ := q
    obtain ⟨u, eu, q⟩ := out_opt.mp (OutOk.bind.mp q)
    have hp := isPot_some eu
    refine ⟨_, Γ, p, st.es, (OutOk.bind.mp q).imp fun d p1 q v H1 e1 q1 r1 => ?_⟩
    cases d <;> try exact q.elim
    rename_i n
    have q := OutOk.bind.mp q
    obtain ⟨pq, epq, q⟩ := out_opt.mp (OutOk.bind.mp (show OutOk F ((ofOpt (p1.put n j) >>= fun q => setP q >>= fun _ => pure (Fl.nx, Γ)) p1) _ from q))
    have s1 := st.ext e1 q1
    obtain ⟨pa, h1, h2, c1, c2⟩ := s1.es.potAt hp
    obtain ⟨s2, k2⟩ := s1.setPot (q := pq) h2 (put_cells epq)
    have q : ∀ σ' H', Kp F Γ σ H Γ σ' H' → StOk F Γ pq σ' H' → D.nx σ' H' := q
    have rv : v = .int n := RepT.int (.inl r1)
    subst rv
    have fin := q _ _ ((Kp.ext st e1 q1).trans k2) s2
    have hj : j = 1 ∨ j = 2 ∨ j = 3 := by
      unfold Pot.put at epq
      split at epq <;> first | (exfalso; cases epq; done) | simp
    refine ⟨.ref pa, h1, pa, _, j, j, rfl, rfl, c1, ?_, ?_⟩
    · rcases hj with rfl | rfl | rfl <;> rfl
    · rcases hj with rfl | rfl | rfl <;> (cases epq; exact fin)

end
/-! ### list(range(..)) -/
def lrng1 : D → Option D
  | .int n => if -(2 ^ 62) ≤ n ∧ n ≤ 16777216 then some (.lst (rngI 0 n.toNat)) else none
  | _ => none
section
variable {X : Cx} {F : Fr} {k : Nat} {a b : Expr} {fs : SEnv → M (List D)} {f : SEnv → M D} {p pos p2 : Pos}
theorem reps_rng {W : Wd} {S : Addr → Prop} {H : Hp} (lo : Int) (n : Nat) : Reps W S H (rngI lo n) ((List.range n).map fun i => V.int (lo + (i : Nat))) := by
  unfold rngI
  have key : ∀ l : List Nat, Reps W S H (l.map fun (i : Nat) => D.int (lo + i)) (l.map fun i => V.int (lo + (i : Nat))) := by
    intro l
    induction l with
    | nil => exact .nil
    | cons a l ih => exact .cons rep_i ih
  exact key _
theorem ev_listRng1 {pr : Pos} (o : On X F k) (hm1 : F.mg "list" = none) (hm2 : F.mg "range" = none) (hg1 : Gl X "list") (hg2 : Gl X "range") (ha : EVB X F a f) (na : starEach [a] X.env = (false, eval a X.env) :: starEach [] X.env := by rfl)
    (na2 : starEach [.Call (.Name "range" pr) [a] [] p2] X.env = (false, eval (.Call (.Name "range" pr) [a] [] p2) X.env) :: starEach [] X.env := by rfl) : EVN X F (.Call (.Name "list" p) [.Call (.Name "range" pr) [a] [] p2] [] pos) (eUn lrng1 f) :=
  PE.weak (pe_listRg o.calm hg1 (by rw [o.mg]; exact hm1) (prg_1 hg2 (by rw [o.mg]; exact hm2) ha na) na2) fun σ H Q q => by
    obtain ⟨S, Γ, p, es, q⟩ := q
    refine ⟨S, Γ, p, es, (OutOk.bind.mp q).imp fun d p1 q v H1 e1 q1 r1 => ?_⟩
    obtain ⟨d', e2, q⟩ := out_opt.mp q
    cases d <;> try cases e2
    rename_i n
    obtain ⟨hb, rfl⟩ := ite_sm (show (if -(2 ^ 62) ≤ n ∧ n ≤ 16777216 then some (D.lst (rngI 0 n.toNat)) else none) = some d' from e2)
    refine ⟨n, RepT.int r1, ⟨by decide, by decide, hb.1, by omega, by omega⟩, fun w hw => ?_⟩
    have es1 := es.ext e1 q1
    refine q _ _ (e1.trans (.of (upd_Same hw))) (q1.same (upd_Same hw)) (new_lst es1.mt (es.sub e1 q1) ?_ hw)
    have z := reps_rng (W := F.toWd) (S := S) (H := H1) 0 n.toNat
    unfold rgV
    rw [Int.sub_zero]
    exact z

/-! ### in, not in, over lists and tuples -/
def memB (d c : D) : Option Bool := match toPy d, c with
  | some x, .lst l => match toPys l with
    | some xs => if SeqAt.shaped x && SeqAt.shaped (.list xs) then some (xs.any fun z => PyData.eqv z x) else none
    | none => none
  | _, _ => none
def inL (a b : D) : Option D := (memB a b).map .bl
def notInL (a b : D) : Option D := (memB a b).map fun k => .bl (!k)
/-- flat items in a tuple -/
def flatD : D → Option V
  | .non => some .non
  | .bl b => some (.bl b)
  | .int i => some (.int i)
  | .str x => some (.str x)
  | _ => none
def flatDs : List D → Option (List V)
  | [] => some []
  | d :: l => match flatD d, flatDs l with
    | some v, some r => some (v :: r)
    | _, _ => none
theorem flatD_rep {W : Wd} {S : Addr → Prop} {H : Hp} {d : D} {v x : V} (h : Rep W S H d v) (e : flatD d = some x) : v = x ∧ flatV x = true := by
  cases d <;> try cases e
  all_goals (unfold Rep at h; cases h; exact ⟨rfl, rfl⟩)
theorem flatDs_rep {W : Wd} {S : Addr → Prop} {H : Hp} : ∀ {l : List D} {vs xs : List V}, Reps W S H l vs → flatDs l = some xs → vs = xs ∧ xs.all flatV = true
  | [], vs, xs, h, e => by unfold Reps at h; cases e; exact ⟨h, rfl⟩
  | d :: l, vs, xs, h, e => by
    unfold Reps at h
    obtain ⟨v, r, rfl, h1, h2⟩ := h
    unfold flatDs at e
    cases g1 : flatD d with
    | none => rw [g1] at e; cases e
    | some x =>
      cases g2 : flatDs l with
      | none => rw [g1, g2] at e; cases e
      | some ys =>
        rw [g1, g2] at e; cases e
        obtain ⟨rfl, f1⟩ := flatD_rep h1 g1
        obtain ⟨rfl, f2⟩ := flatDs_rep h2 g2
        exact ⟨rfl, by rw [List.all_cons, f1, f2]; rfl⟩
def memT (d c : D) : Option Bool := match flatD d, c with
  | some x, .tup l => (flatDs l).map fun xs => inV x xs
  | some x, .lst l => (flatDs l).map fun xs => inV x xs
  | _, _ => none
def inD (a b : D) : Option D := match memT a b with
  | some k => some (.bl k)
  | none => inL a b
def notInD (a b : D) : Option D := match memT a b with
  | some k => some (.bl !k)
  | none => notInL a b
theorem flat_repT {S : Addr → Prop} {H : Hp} {d : D} {v x : V} (h : RepT F S H d v) (e : flatD d = some x) : v = x ∧ flatV x = true := by
  rcases h with h | ⟨a, rfl, _, h⟩
  · exact flatD_rep h e
  · cases d <;> first | exact h.elim | cases e
theorem opd_in {neg : Bool} {gg : Bool → Bool} (hgg : gg = fun k => if neg then !k else k) : OpD F (fun x y H Q => rIn F.K neg x y H Q ∨ (if neg then rNotInD F.K x y H Q else rInD F.K x y H Q)) (fun a b => match memT a b with
  | some k => some (.bl (gg k))
  | none => (memB a b).map fun k => .bl (gg k)) RV := by
  intro S H0 H d1 d2 d v1 v2 Q mt hk hn r1 r2 e kk
  replace e : (match memT d1 d2 with
    | some k => some (D.bl (gg k))
    | none => (memB d1 d2).map fun k => D.bl (gg k)) = some d := e
  have fin : ∀ b, d = .bl (gg b) → Q (.bl (if neg then !b else b)) H := fun b eb => by
    subst eb
    have z := kk (.bl (gg b)) H (Same.refl _) rep_b
    rw [hgg] at z
    exact z
  cases g : memT d1 d2 with
  | some b =>
    rw [g] at e
    refine .inl ?_
    unfold memT at g
    split at g
    · rename_i x l e1
      obtain ⟨rfl, f1⟩ := flat_repT r1 e1
      obtain ⟨a, vs, rfl, q, rs⟩ := r2.tup
      cases g2 : flatDs l with
      | none => rw [g2] at g; cases g
      | some xs =>
        rw [g2] at g; cases g
        obtain ⟨rfl, f2⟩ := flatDs_rep rs g2
        exact ⟨a, vs, rfl, .inr q, f1, f2, fin _ (by cases e; rfl)⟩
    · rename_i x l e1
      obtain ⟨rfl, f1⟩ := flat_repT r1 e1
      obtain ⟨a, vs, rfl, q, rs⟩ := r2.lst
      cases g2 : flatDs l with
      | none => rw [g2] at g; cases g
      | some xs =>
        rw [g2] at g; cases g
        obtain ⟨rfl, f2⟩ := flatDs_rep rs g2
        exact ⟨a, vs, rfl, .inl (SqL.of q), f1, f2, fin _ (by cases e; rfl)⟩
    · cases g
  | none =>
    rw [g] at e
    refine .inr ?_
    cases g1 : memB d1 d2 with
    | none => rw [g1] at e; cases e
    | some b =>
      rw [g1] at e
      unfold memB at g1
      split at g1
      · rename_i x l e1
        split at g1
        · rename_i xs e2
          split at g1
          · rename_i hs
            rw [Bool.and_eq_true] at hs
            cases g1
            have d1' := r1.dp e1
            obtain ⟨a, vs, rfl, q, rs⟩ := r2.lst
            have d2' : Dp F.K H (.ref a) (.list xs) := .lst (SqL.of q) (Reps.dps l vs xs rs e2)
            have z := fin _ (by cases e; rfl)
            cases neg with
            | true => exact ⟨_, _, d1', d2', hs.1, hs.2, z⟩
            | false => exact ⟨_, _, d1', d2', hs.1, hs.2, z⟩
          · cases g1
        · cases g1
      · cases g1
variable {fa fb : SEnv → M D}
theorem ev_in (o : On X F k) (ha : EVB X F a fa) (hb : EVB X F b fb) (hm : behindInMarks .In b = false := by rfl) : EV X F (.Compare a [.In] [b] pos) (eOp inD fa fb) :=
  ev_cmp (op_in_seq.or (op_inD (by have := o.room.un; omega))) (by rw [o.K]; exact opd_in (neg := false) (gg := fun k => k) rfl) ha hb hm
theorem ev_notIn (o : On X F k) (ha : EVB X F a fa) (hb : EVB X F b fb) (hm : behindInMarks .NotIn b = false := by rfl) : EV X F (.Compare a [.NotIn] [b] pos) (eOp notInD fa fb) :=
  ev_cmp (op_notIn_seq.or (op_notInD (by have := o.room.un; omega))) (by rw [o.K]; exact opd_in (neg := true) (gg := fun k => !k) rfl) ha hb hm

/-! ### {}, str(..) -/
def eDnew : SEnv → M D := fun _ => pure (.dct [] [])
theorem ev_dnew : EVN X F (.Dict [] [] pos) eDnew := PE.weak pe_dnewK fun σ H Q q => by
  obtain ⟨S, Γ, p, es, q⟩ := q
  intro w hw
  exact (show ∀ v H', Ext F H H' → PotOk F H' p → RN F S H H' (.dct [] []) v → Q v H' from q) _ _ (.of (upd_Same hw)) (es.pot.same (upd_Same hw)) ⟨w, rfl, hw, .inl ⟨[], upd_same, rfl, by simp, .nil⟩⟩
theorem cd_str : CallD F (fun xs H Q => (∃ i, xs = [.int i] ∧ i.natAbs.log2 < 1920 ∧ Q (.str (toString i)) H) ∨ ∃ a, xs = [.str a] ∧ Q (.str a) H) strD RV := by
  intro S H0 H ds d vs Q mt hn r e kk
  unfold strD at e
  split at e
  · obtain ⟨v, rfl, r1⟩ := pir1 r
    obtain ⟨hl, rfl⟩ := ite_sm e
    rw [r1.int]
    exact .inl ⟨_, rfl, hl, kk _ H (Same.refl _) rep_s⟩
  · obtain ⟨v, rfl, r1⟩ := pir1 r
    cases e
    rw [r1.str]
    exact .inr ⟨_, rfl, kk _ H (Same.refl _) rep_s⟩
  · cases e
end
end PL

set_option Elab.async false
set_option linter.all false
set_option maxRecDepth 100000
set_option maxHeartbeats 4000000
/-! PL15: own exception classes whose __init__ begins with super().__init__(..). -/
namespace PL
open PySem L2 NdefX
variable [TabL]

/-- what the top tells of such a class -/
structure XcF (P : Program) (K : PySem.W.Frag) (mg : Str → Option Value) (x : Str) (st : Stmt) (ps : List Str) (C fI cc cda : Addr) (fd : FuncData) : Prop where
  mgC : mg x = some (.ref C)
  sup : mg "super" = none
  ox : OexC K C
  iI : PySem.W.findIn K (.ref C) "__init__" = some (some (.ref fI))
  tI : PySem.W.typeIn K (.ref fI) = some (.type "function")
  fn : ∃ (oc : Value) (od : Option Addr) (osl : Array (Option Value)) (qual : Str) (dV kV doc pm : Value) (an : Option Addr) (ct ccl : Value) (cdd : Option Addr) (vs : Array Value) (ccs : Array (Option Value)) (file : Str) (tf : Tok),
    fd = PySem.W.fnX "__init__" qual (defArgs st) (defBody st) (defScope st) [("__class__", cc)] dV kV doc pm an (.ref cda) ct ∧ K.lookup fI = some ⟨oc, od, .func fd, osl⟩ ∧ PySem.W.codeIn K (.ref cda) qual = true ∧
    K.lookup cda = some ⟨ccl, cdd, .fields vs, ccs⟩ ∧ vs[2]? = some (.str file tf) ∧ ((P.main.file : Str) == file) = true
  cell : ∃ (cl : Value) (cld : Option Addr) (csl : Array (Option Value)), K.lookup cc = some ⟨cl, cld, .cell (some (.ref C)), csl⟩
  al : PySem.W.ks_superIn K C C "__init__" = some (some (.builtin "ValueError.__init__"))
  cls : ∃ cd, PySem.W.clsIn K C = some cd
  sv : PySem.W.subIn K (.ref C) (.type "ValueError") = some true
  op : PySem.W.nsIn K cStatics "thirdparty.any" = some none
  bd : Binds K fd ("self" :: ps) []
  htop : (P.main.scope.names.lookup ("super" : Str)).isSome = false

section
variable {X : Cx} {pins : List (Addr × Obj)} {σ : St} {H : Hp} {s : Shared} {a C : Addr}
/-- ValueError.__init__ bound to the object, called: nothing of it is told -/
theorem bound_ok {us : List Value} {u : Addr} {Q : Value → Shared → Prop} {E : Value → Shared → Prop} (T : OexC X.K C) (I : Inv X pins σ H s) (e : H a = some (exo a C none)) (hu : s.heap.get? u = some (PySem.W.kxs_mw "ValueError.__init__" a)) (hl : us.length ≤ sizeLine) (h : ∀ s', Inv X pins σ H s' → Q .none s') :
    wpAny (model X.prog X.w) X.A (call (.ref u) us) Q E s := by
  obtain ⟨nm, q, N, bs, bm, sn, sub, ab, col, dd, k0, k1, k2, k3, k5, hC, hbm⟩ := T.cls
  obtain ⟨t1, ho⟩ := exo_at I.hok e
  have hCh := I.kIn _ _ hC
  obtain ⟨hp, g, d, t, os⟩ := s
  have fin : ∀ (h' : Heap) (t2 : Addr), (∀ b o, b ≠ a → hp.get? b = some o → h'.get? b = some o) → h'.get? a = some ({ cls := .ref C, dict := none, data := .fields #[.ref t2, .none, .none, .none, .bool false, .none] } : Obj) → Q .none ⟨h', g, d, t, os⟩ := fun h' t2 k hx => by
    have J := I.write (t' := t) (x := a) (e := a) (o := exo a C none) (by rw [e]; exact True.intro) (.inl rfl) k ⟨_, hx⟩ (exo_ok hx)
    have eu : upd H a (exo a C none) = H := by
      funext b
      by_cases hb : b = a
      · rw [hb, upd_same, e]
      · rw [upd_ne hb]
    rw [eu] at J
    exact h _ J
  refine wpAny_call (codeAny_of_tree ?_)
  show wpAny _ X.A.in1 (callAny (.ref u) ⟨us, []⟩) _ _ _
  simp only [callAny]
  refine wpAny_bind (wpAny_load hu ?_)
  simp only [PySem.W.kxs_mw, show (Value.type "method-wrapper" == Value.type "method" || Value.type "method-wrapper" == Value.type "builtin_function_or_method" || Value.type "method-wrapper" == Value.type "method-wrapper") = true by decide, if_true]
  refine PySem.W.KFB.if_so (by decide) ?_
  refine wpAny_bind (PySem.ESX.check_bound F.excBase_ValueError hCh ho rfl ?_)
  refine wpAny_bind (wpAny_pure (wpAny_pure ?_))
  refine ⟨Code.quiet_builtin _ (by decide +kernel), codeAny_builtin F.excBase_ValueError.initEntry ?_⟩
  rw [Around.under_plainId F.excBase_ValueError.init.plain _]
  wp_walk
  refine fin _ hp.objs.size (fun b o hb ho => ?_) ?_
  · rw [Heap.get?_update_other _ _ (Ne.symm hb)]
    exact Heap.get?_push_of_some _ ho
  · rw [Heap.get?_update_self _ (Heap.get?_push_of_some _ ho) rfl]
    rfl
end

section
variable {X : Cx} {pins : List (Addr × Obj)} {σ : St} {H : Hp} {s : Shared} {a C fI cc cda : Addr} {x : Str} {st : Stmt} {ps : List Str} {fd : FuncData}
/-- where super() may stand -/
structure SupOk (X : Cx) (fI cc cda : Addr) : Prop where
  ks : Gl X "super"
  kc : X.env.kindOf "__class__" = some .free
  cl : X.env.cells.lookup ("__class__" : Str) = some cc
  fu : X.env.func = some fI
  co : X.env.code = .ref cda
  n0 : X.N[0]? = some ("self" : Str)
  se : X.env.kindOf "self" = some .local
theorem super_node {body : List Stmt} {p0 p1 : Pos} {whole : Sem Value} {ar : Arg} {Q : Value → Shared → Prop} {E : Value → Shared → Prop} (XF : XcF X.prog X.K X.mg x st ps C fI cc cda fd) (So : SupOk X fI cc cda) (I : Inv X pins σ H s) (hs : σ[0]? = some (some (V.ref a))) (e : H a = some (exo a C none))
    (hp : ((defArgs st).posonlyargs ++ (defArgs st).args).head? = some ar) (ha : ar.arg = "self")
    (h : ∀ so s', Inv X pins σ H s' → s'.heap.get? so = some (PySem.W.ks_superObj C a C) → Q (.ref so) s') :
    _root_.PySem.wpAt (model X.prog X.w) X.A (.func body X.env) (attributeBase (.Call (.Name "super" p0) [] [] p1) "__init__" X.env whole) Q E s := by
  obtain ⟨oc, od, osl, qual, dV, kV, doc, pm, an, ct, ccl, cdd, vs, ccs, file, tf, rfl, lk, hcd, lc, hv2, hfile⟩ := XF.fn
  obtain ⟨cl, cld, csl, lcc⟩ := XF.cell
  obtain ⟨cd, hcls⟩ := XF.cls
  have KX := I.kIn
  have hcls' := hcls
  obtain ⟨oD, hD1, hD2⟩ : ∃ oD, s.heap.get? C = some oD ∧ oD.data = .cls cd := by
    unfold PySem.W.clsIn at hcls'
    split at hcls'
    · rename_i c d cd' sl ho
      cases hcls'
      exact ⟨_, KX _ _ ho, rfl⟩
    · cases hcls'
  obtain ⟨t0, ho⟩ := exo_at I.hok e
  obtain ⟨hp0, g, d, t, os⟩ := s
  have hsub : PySem.W.mroIn X.K C (.ref C) = some true := by
    obtain ⟨nm, q, N, bs, bm, sn, sub, ab, col, dd, k0, k1, k2, k3, k5, hC, hbm⟩ := XF.ox.cls
    have hcl : PySem.W.clsIn X.K C = some { name := nm, bases := bs, mro := .ref C :: bm, ns := N, qualname := q, hasDict := true, slotNames := sn, subclasses := sub, abstract := ab, collection := col, hasDel := false } := by unfold PySem.W.clsIn; rw [hC] <;> rfl
    unfold PySem.W.mroIn
    rw [hcl, Option.bind_some, if_neg (by simp)]
    simp
  refine ks_wpAt_super_base So.ks So.kc (by decide) So.fu (KX _ _ lk) rfl hp So.co (KX _ _ lc) rfl hv2 hfile XF.htop ?_
  obtain ⟨mb, h1, h2⟩ := I.mod.blt
  refine PySem.W.ks_loadName_global I.ok.kind So.ks (Calls.loadGlobal_builtin (by rw [I.ok.glob]; exact I.mod.glob.keeps I.bk) XF.sup (by rw [I.ok.blt]; exact h1.keeps I.bk) ((h2 "super" (by decide)).trans (by decide +kernel : bootBuiltins "super" = some (.type "super"))) ⟨rfl, ?_⟩)
  refine wpAny_loadName_free I.ok.kind So.kc So.cl ⟨_, KX _ _ lcc, rfl⟩ ?_
  rw [ha]
  obtain ⟨m, hn, hl⟩ := I.loc
  obtain ⟨u, r, l⟩ := hl 0 "self" _ So.n0 hs (.inl So.se)
  obtain rfl : u = Value.ref a := r
  have hm : m "self" = some (Value.ref a) := by
    rcases l with ⟨_, hm⟩ | ⟨hk, _⟩
    · exact hm
    · have := So.se
      rcases hk with hk | hk <;> rw [hk] at this <;> cases this
  refine wpAny_loadName_local I.ok.kind So.se hn hm ?_
  refine ks_wpAny_isType_cls hD1 hD2 ⟨rfl, ?_⟩
  refine ks_wpAny_call_super hD1 hD2 ho rfl (fun c e => nomatch e) (PySem.W.looks_mroIn KX hsub) (fun h' e k => ?_)
  exact h _ _ (I.kept (t' := t) k) e
/-- super().__init__ looked up -/
theorem super_init {so : Addr} {pl : Sem Bool} {Q : Value × List Value → Shared → Prop} {E : Value → Shared → Prop} (XF : XcF X.prog X.K X.mg x st ps C fI cc cda fd) (I : Inv X pins σ H s) (e : H a = some (exo a C none)) (hso : s.heap.get? so = some (PySem.W.ks_superObj C a C))
    (h : ∀ u s', Inv X ((u, PySem.W.kxs_mw "ValueError.__init__" a) :: pins) σ H s' → Q (.ref u, []) s') : wpAny (model X.prog X.w) X.A (getMethod (.ref so) "__init__" pl) Q E s := by
  obtain ⟨cd, hcls⟩ := XF.cls
  have KX := I.kIn
  obtain ⟨t0, ho⟩ := exo_at I.hok e
  have hm := XF.al
  unfold PySem.W.ks_superIn at hm
  rw [hcls] at hm
  have Ia : PySem.W.InstAt s.heap a ({ cls := .ref C, dict := none, data := .fields #[.ref t0, .none, .none, .none, .bool false, .none] } : Obj) C none := ⟨ho, rfl, rfl, trivial⟩
  have hI : PySem.W.Looks (model X.prog X.w) s.heap (isInstance (.ref a) (.type "ValueError")) true := Ia.type.andThen (PySem.W.looks_subIn KX XF.sv)
  obtain ⟨hp0, g, d, t, os⟩ := s
  refine PySem.W.kxs_getMethod PySem.W.kxs_ValueError hso (PySem.W.looks_opaque KX XF.op) (l₀ := cd.mro) ?_ rfl KX hm hI (PySem.W.ks_ne KX Ia hcls) (by decide) ?_
  · exact fun A Q E s k q => wpAny_bind ((PySem.W.looks_clsIn KX hcls) A _ E s k (wpAny_pure q))
  · have J := I.kept (t' := t + 1) (h' := hp0.push (PySem.W.kxs_mw "ValueError.__init__" a)) fun b o e => Heap.get?_push_of_some _ e
    have hsz : hp0.objs.size ≤ hp0.objs.size := Nat.le_refl _
    refine h hp0.objs.size _ { J with pin := fun p hp => ?_ }
    rw [List.mem_append, List.mem_cons] at hp
    rcases hp with hp | rfl | hp
    · exact J.pin p (List.mem_append_left _ hp)
    · exact ⟨Heap.get?_push_at rfl rfl, I.hok.fresh hsz, Nat.ne_of_gt I.lt, I.nofs hsz, fun v e => nomatch e⟩
    · exact J.pin p (List.mem_append_right _ hp)
end

section
variable {P : Program} {w : World} {K : PySem.W.Frag} {mg : Str → Option Value} {base : Heap} {x : Str} {st : Stmt} {ps N : List Str} {C fI cc cda : Addr} {fd : FuncData} {k : Nat} {sp : Sp}
abbrev xNF (st : Stmt) (qual : Str) (cc cda : Addr) : NF := ⟨"__init__", qual, defArgs st, defBody st, defScope st, [("__class__", cc)], cda⟩
/-- THE RULE: such an __init__ by its first statement's arguments and its further statements -/
theorem fn_x {es : List Expr} {rest : List Stmt} {p0 p1 p2 p4 p5 : Pos} {ar : Arg} (XF : XcF P K mg x st ps C fI cc cda fd) (Sc : NScope N ("self" :: ps) ["__class__"] (defScope st)) (hks : (defScope st).names.lookup ("super" : Str) = some .globalImplicit)
    (hp : ((defArgs st).posonlyargs ++ (defArgs st).args).head? = some ar) (ha : ar.arg = "self") (hbody : defBody st = .Expr (.Call (.Attribute (.Call (.Name "super" p0) [] [] p1) "__init__" p2) es [] p4) p5 :: rest)
    (hes : es = [] ∨ ∃ e es', es = e :: es' ∧ (∀ env : Env, starEach (e :: es') env = (false, eval e env) :: starEach es' env) ∧ ∀ env : Env, (backTo p4 (starEach es' env)).any (·.1) = false)
    (hcall : ∀ env : Env, ∃ pl : Sem Bool, eval (.Call (.Attribute (.Call (.Name "super" p0) [] [] p1) "__init__" p2) es [] p4) env = (do
      let ov ← attributeBase (.Call (.Name "super" p0) [] [] p1) "__init__" env (eval (.Call (.Name "super" p0) [] [] p1) env)
      standAt p2.atName
      let (f, first) ← holding [ov] (getMethod ov "__init__" pl)
      callWith p4 f first (backTo p4 (starEach es env)) []))
    (len : ∀ vs H Q E, sp vs H Q E → vs.length = (("self" : Str) :: ps).length)
    (hr : ∀ (qual : Str) (A : Around) (outer : List Env) (s : Shared) (H : Hp) (vs : List V) (Q : VK) (E : XK), sp vs H Q E → ∃ (a : Addr) (us : List V) (ta : TA) (t : TS), vs = .ref a :: us ∧ H a = some (exo a C none) ∧ (es = [] → ta = tNil) ∧ PA (ncx (L2.CX P w) P w K mg base N (xNF st qual cc cda) fI A outer s H E) es ta ∧ PSs (ncx (L2.CX P w) P w K mg base N (xNF st qual cc cda) fI A outer s H E) rest t ∧
      ta (startF N vs [some (V.ref C)]) H fun vs' H1 => vs'.length ≤ 1000 ∧ H1 a = some (exo a C none) ∧ t { nx := fun _ H' => Q .non H', rt := Q } (startF N vs [some (V.ref C)]) H1) :
    FnOk P w K mg base (L2.CX P w) (k + 1) fI fd ("self" :: ps) sp := by
  refine ⟨len, fun A outer s H args us vs Q E hr0 e0 hb r hsp => ?_⟩
  obtain ⟨oc, od, osl, qual, dV, kV, doc, pm, an, ct, ccl, cdd, vvs, ccs, file, tf, hfd, lk, hcd, lc, hv2, hfile⟩ := id XF.fn
  obtain ⟨cl, cld, csl, lcc⟩ := id XF.cell
  have hl := len _ _ _ _ hsp
  have KX : K.In s.heap := e0.mod.kin.keeps fun b o e => (e0.bs b o e).1
  have lim : s.heap.NoLimit := e0.mod.nolimit.keeps fun b o e => (e0.bs b o e).1
  obtain ⟨a, us', ta, t, rfl, ea, hnil, hPA, hPS, q⟩ := hr qual A outer s H vs Q E hsp
  have eqn : (xNF st qual cc cda).fd doc pm ct = (xNF st qual cc cda).fd doc pm ct := rfl
  have CA : CellsAt [("__class__", cc)] ["__class__"] [some (V.ref C)] s.heap H := by
    have hb := e0.bs cc _ (e0.mod.kin _ _ lcc)
    refine ⟨rfl, fun y c e => ?_, fun x y c e1 e2 => ?_, fun i y e => ?_⟩
    · have := PySem.mem_of_lookup e
      simp at this
      obtain ⟨_, rfl⟩ := this
      exact ⟨hb.2, _, _, hb.1, rfl⟩
    · have h1 := PySem.mem_of_lookup e1
      have h2 := PySem.mem_of_lookup e2
      simp at h1 h2
      rw [h1.1, h2.1]
    · cases i with
      | zero =>
        cases e
        refine ⟨cc, by simp, fun v e => ?_⟩
        cases e
        exact ⟨_, rfl, _, hb.1, rfl⟩
      | succ i => cases e
  have hfd2 := hfd
  subst hfd
  refine codeAny_call_function hr0.depth (KX _ _ lk) rfl Sc.co Sc.gen rfl (PySem.W.codeRec_of KX hcd) (hb _ _ _ _ ?_)
  refine wpAny_newFunctionEnv Sc.nocell (fun ⟨n, _⟩ hy => Sc.par n (List.of_mem_zip hy).1) (fun h₁ hns hsb => ⟨lim.fresh _ hsb, ?_⟩) Sc.kind
  have kp : ∀ b o, s.heap.get? b = some o → h₁.get? b = some o := fun b o e => hsb.extBut b o (Nat.ne_of_lt (Heap.lt_size e)) (Heap.get?_push_of_some _ e)
  have I : Inv (ncx (L2.CX P w) P w K mg base N (xNF st qual cc cda) fI A outer s H E) [] (startF N (.ref a :: us') [some (V.ref C)]) H { s with heap := h₁, toks := s.toks + ((("self" : Str) :: ps).zip us).length } := inv_startN Sc hr0.hd e0 hl r CA hns kp
  have So : SupOk (ncx (L2.CX P w) P w K mg base N (xNF st qual cc cda) fI A outer s H E) fI cc cda := by
    refine ⟨hks, Sc.frk _ (by simp), by show List.lookup _ [_] = _; simp, rfl, rfl, ?_, Sc.par _ (by simp)⟩
    have := congrArg (·[0]?) Sc.pre
    rw [List.getElem?_take_of_lt (by simp)] at this
    exact this
  have hs0 : (startF N (.ref a :: us') [some (V.ref C)])[0]? = some (some (V.ref a)) := rfl
  have fin : ∀ {σ' : L2.St} {H' : Hp} {v : V} {u : Value} {s' : Shared}, Inv (ncx (L2.CX P w) P w K mg base N (xNF st qual cc cda) fI A outer s H E) [] σ' H' s' → L2.RelV v u → Q v H' → CE outer P w H s Q u s' :=
    fun {σ' H' v u s'} J rv q => ⟨v, H', J.os, J.bare, J.base, J.hok, rv, q⟩
  refine ks_codeAny_funcAt ?_
  show _root_.PySem.wpAt _ (A.deeper (envF (xNF st qual cc cda) fI s.heap.objs.size)) (.func (defBody st) (envF (xNF st qual cc cda) fI s.heap.objs.size)) (execs (defBody st) (envF (xNF st qual cc cda) fI s.heap.objs.size)) _ _ _
  rw [hbody]
  have tail : ∀ (cc0 : Code) (us2 : List Value) (vs2 : List V) (u : Addr) (s4 : Shared) (H4 : Hp), Inv (ncx (L2.CX P w) P w K mg base N (xNF st qual cc cda) fI A outer s H E) [] (startF N (.ref a :: us') [some (V.ref C)]) H4 s4 → Vals vs2 us2 →
      (vs2.length ≤ 1000 ∧ H4 a = some (exo a C none) ∧ t { nx := fun _ H' => Q .non H', rt := Q } (startF N (V.ref a :: us') [some (V.ref C)]) H4) → s4.heap.get? u = some (PySem.W.kxs_mw "ValueError.__init__" a) →
      wpAny (model P w) (A.deeper (envF (xNF st qual cc cda) fI s.heap.objs.size)) (call (.ref u) us2) (fun _ s' => _root_.PySem.wpAt (model P w) (A.deeper (envF (xNF st qual cc cda) fI s.heap.objs.size)) cc0 (execs rest (envF (xNF st qual cc cda) fI s.heap.objs.size))
        (fun f s' => CR (L2.CX P w) outer P w H s Q E (.ok (.ret (match f with | .ret v => v | _ => .none))) s') (fun e s' => wpAny (model P w) (A.deeper (envF (xNF st qual cc cda) fI s.heap.objs.size)) (leaving (envF (xNF st qual cc cda) fI s.heap.objs.size) e) (fun _ s'' => CR (L2.CX P w) outer P w H s Q E (.error e) s'') (fun e' s'' => CR (L2.CX P w) outer P w H s Q E (.error e') s'') s') s')
        (fun e s' => wpAny (model P w) (A.deeper (envF (xNF st qual cc cda) fI s.heap.objs.size)) (leaving (envF (xNF st qual cc cda) fI s.heap.objs.size) e) (fun _ s'' => CR (L2.CX P w) outer P w H s Q E (.error e) s'') (fun e' s'' => CR (L2.CX P w) outer P w H s Q E (.error e') s'') s') s4 := fun cc0 us2 vs2 u s4 H4 I4 r4 ⟨q1, q2, q3⟩ hu4 => by
    refine bound_ok (X := ncx (L2.CX P w) P w K mg base N (xNF st qual cc cda) fI A outer s H E) XF.ox I4 q2 hu4 (by rw [← r4.length, sizeLine_eq]; omega) fun s5 I5 => ?_
    refine wpAt_of_wpAny (wpAny_mono (hPS.run [] s5 _ H4 _ I5 q3) (fun fl s' hs => ?_) fun e s' hs => hs)
    cases fl with
    | ret u =>
      obtain ⟨v, σ', H', J, rv, q⟩ := hs
      exact fin J rv q
    | next =>
      obtain ⟨σ', H', J, q⟩ := hs
      exact fin (v := V.non) (u := Value.none) J rfl q
    | brk =>
      obtain ⟨_, _, _, q⟩ := hs
      exact False.elim q
    | cont =>
      obtain ⟨_, _, _, q⟩ := hs
      exact False.elim q
  obtain ⟨pl, hcall⟩ := hcall (envF (xNF st qual cc cda) fI s.heap.objs.size)
  have hsw : swapsWith (.Call (.Attribute (.Call (.Name "super" p0) [] [] p1) "__init__" p2) es [] p4) none p5.line (envF (xNF st qual cc cda) fI s.heap.objs.size) = pure false := by rfl
  refine ks_wpAt_execs_cons (ks_wpAt_Expr_any (ks_wpAt_MethodCall (super_node (X := ncx (L2.CX P w) P w K mg base N (xNF st qual cc cda) fI A outer s H E) XF So I hs0 ea hp ha fun so s1 I1 hso => ?_) hcall) (hi := I.quiet) (hs := hsw))
  refine super_init XF I1 ea hso fun u s2 I2 => ?_
  have un : ∀ {s3 : Shared} {H3 : Hp}, Inv (ncx (L2.CX P w) P w K mg base N (xNF st qual cc cda) fI A outer s H E) [(u, PySem.W.kxs_mw "ValueError.__init__" a)] (startF N (.ref a :: us') [some (V.ref C)]) H3 s3 →
      s3.heap.get? u = some (PySem.W.kxs_mw "ValueError.__init__" a) ∧ Inv (ncx (L2.CX P w) P w K mg base N (xNF st qual cc cda) fI A outer s H E) [] (startF N (.ref a :: us') [some (V.ref C)]) H3 s3 := fun J =>
    ⟨(J.pin (u, _) (List.mem_append_right _ (List.mem_cons_self ..))).1, { J with pin := fun p hp => absurd (show p ∈ ([] : List (Addr × Obj)) ++ [] from hp) (by simp) }⟩
  rcases hes with rfl | ⟨e, es', rfl, he, hpl⟩
  · obtain ⟨hu, I3⟩ := un I2
    refine PySem.W.kxs_callWith (i := "ValueError.__init__") (x := a) rfl (PyProof.Rows.evalArgs_empty ⟨hu, ?_⟩)
    rw [hnil rfl] at q
    exact tail _ [] [] u s2 H I3 .nil q hu
  · refine PySem.W.kxs_callWith (i := "ValueError.__init__") (x := a) ?_ ?_
    · rw [he]
      show (false || (backTo p4 (starEach es' _)).any (·.1)) = false
      rw [hpl]; rfl
    · rw [he]
      refine PySem.Calls.evalArgs_plain ?_
      have hrun := hPA.run p4 _ s2 _ H _ I2 q
      have he2 : starEach (e :: es') (ncx (L2.CX P w) P w K mg base N (xNF st qual cc cda) fI A outer s H E).env = (false, eval e (ncx (L2.CX P w) P w K mg base N (xNF st qual cc cda) fI A outer s H E).env) :: starEach es' (ncx (L2.CX P w) P w K mg base N (xNF st qual cc cda) fI A outer s H E).env := he _
      rw [he2] at hrun
      refine wpAny_mono hrun (fun us2 s3 h3 => ?_) fun e s' h => h
      obtain ⟨vs2, H3, I3, r3, q3⟩ := h3
      obtain ⟨hu, I3⟩ := un I3
      exact ⟨hu, tail _ us2 vs2 u s3 H3 I3 r3 q3 hu⟩
end
end PL

set_option Elab.async false
set_option linter.all false
set_option maxRecDepth 100000
set_option maxHeartbeats 4000000
/-! PL16: such exceptions made and raised. -/
namespace PL
open PySem L2 NdefX
variable [TabL]

/-- __init__ of such a class: each parameter is kept under its name -/
def spX (C : Addr) (ps : List Str) : Sp := fun vs H Q E => ∃ (a : Addr) (us : List V), vs = .ref a :: us ∧ us.length = ps.length ∧ H a = some (exo a C none) ∧ (ps = [] → Q .non H) ∧
  (ps ≠ [] → ∀ dx, H dx = none → dx ≠ a → Q .non (upd (upd H dx (exd dx (ps.zip us).reverse)) a (exo a C (some dx))))
section
variable {P : Program} {w : World} {K : PySem.W.Frag} {mg : Str → Option Value} {base : Heap} {x y z : Str} {st : Stmt} {N : List Str} {C fI cc cda : Addr} {fd : FuncData} {k : Nat}
theorem spX_len {C : Addr} {ps : List Str} {vs : List V} {H : Hp} {Q : VK} {E : XK} (h : spX C ps vs H Q E) : vs.length = (("self" : Str) :: ps).length := by
  obtain ⟨a, us, rfl, e, _⟩ := h
  rw [List.length_cons, List.length_cons, e]
theorem ok_x0 {p0 p1 p2 p4 p5 : Pos} {ar : Arg} (XF : XcF P K mg x st [] C fI cc cda fd) (Sc : NScope N ["self"] ["__class__"] (defScope st)) (hks : (defScope st).names.lookup ("super" : Str) = some .globalImplicit)
    (hp : ((defArgs st).posonlyargs ++ (defArgs st).args).head? = some ar) (ha : ar.arg = "self") (hbody : defBody st = [.Expr (.Call (.Attribute (.Call (.Name "super" p0) [] [] p1) "__init__" p2) [] [] p4) p5])
    (hcall : ∀ env : Env, ∃ pl : Sem Bool, eval (.Call (.Attribute (.Call (.Name "super" p0) [] [] p1) "__init__" p2) [] [] p4) env = (do
      let ov ← attributeBase (.Call (.Name "super" p0) [] [] p1) "__init__" env (eval (.Call (.Name "super" p0) [] [] p1) env)
      standAt p2.atName
      let (f, first) ← holding [ov] (getMethod ov "__init__" pl)
      callWith p4 f first (backTo p4 (starEach [] env)) [])) :
    FnOk P w K mg base (L2.CX P w) (k + 1) fI fd ["self"] (spX C []) := by
  refine fn_x XF Sc hks hp ha hbody (.inl rfl) hcall (fun vs H Q E h => spX_len h) fun qual A outer s H vs Q E h => ?_
  obtain ⟨a, us, rfl, e, ea, q, _⟩ := h
  exact ⟨a, us, _, _, rfl, ea, fun _ => rfl, pa_nil, pss_nil, Nat.zero_le _, ea, q rfl⟩
theorem ok_x1 {p0 p1 p2 p3 p4 p5 p6 p7 p8 p9 : Pos} {ar : Arg} (XF : XcF P K mg x st [y] C fI cc cda fd) (Sc : NScope ["self", y, "__class__"] ["self", y] ["__class__"] (defScope st)) (hks : (defScope st).names.lookup ("super" : Str) = some .globalImplicit)
    (hp : ((defArgs st).posonlyargs ++ (defArgs st).args).head? = some ar) (ha : ar.arg = "self") (hbody : defBody st = [.Expr (.Call (.Attribute (.Call (.Name "super" p0) [] [] p1) "__init__" p2) [.Name y p3] [] p4) p5, .Assign [.Attribute (.Name "self" p6) y p7] (.Name y p8) p9])
    (hcall : ∀ env : Env, ∃ pl : Sem Bool, eval (.Call (.Attribute (.Call (.Name "super" p0) [] [] p1) "__init__" p2) ([.Name y p3]) [] p4) env = (do
      let ov ← attributeBase (.Call (.Name "super" p0) [] [] p1) "__init__" env (eval (.Call (.Name "super" p0) [] [] p1) env)
      standAt p2.atName
      let (f, first) ← holding [ov] (getMethod ov "__init__" pl)
      callWith p4 f first (backTo p4 (starEach ([.Name y p3]) env)) []))
    (hno : PySem.W.findIn K (.ref C) y = some none) (hd1 : (y == ("__debug__" : Str)) = false) (hd2 : (y == ("__classdict__" : Str)) = false) :
    FnOk P w K mg base (L2.CX P w) (k + 1) fI fd ["self", y] (spX C [y]) := by
  refine fn_x XF Sc hks hp ha hbody (.inr ⟨_, _, rfl, fun env => rfl, fun env => rfl⟩) hcall (fun vs H Q E h => spX_len h) fun qual A outer s H vs Q E h => ?_
  obtain ⟨a, us, rfl, e, ea, _, q⟩ := h
  have hy : Vis (defScope st) y := .inl (Sc.par y (by simp))
  have hs : Vis (defScope st) "self" := .inl (Sc.par "self" (by simp))
  match us, e with
  | [u], _ =>
    refine ⟨a, [u], _, _, rfl, ea, (fun z => nomatch z), pa_cons (pv 1 rfl hy hd1 hd2) pa_nil, pss_one (ps_ost (pv 0 rfl hs) (pv 1 rfl hy hd1 hd2)), ?_⟩
    refine ⟨u, rfl, (by simp), ea, u, rfl, .ref a, rfl, a, C, rfl, XF.ox, hno, .inl ⟨ea, fun dx n ne => ?_⟩⟩
    exact q (fun z => nomatch z) dx n ne
theorem ok_x2 {p0 p1 p2 p3 p3' p4 p5 p6 p7 p8 p9 q6 q7 q8 q9 : Pos} {ar : Arg} (XF : XcF P K mg x st [y, z] C fI cc cda fd) (Sc : NScope ["self", y, z, "__class__"] ["self", y, z] ["__class__"] (defScope st)) (hks : (defScope st).names.lookup ("super" : Str) = some .globalImplicit)
    (hp : ((defArgs st).posonlyargs ++ (defArgs st).args).head? = some ar) (ha : ar.arg = "self") (hbody : defBody st = [.Expr (.Call (.Attribute (.Call (.Name "super" p0) [] [] p1) "__init__" p2) [.Name y p3, .Name z p3'] [] p4) p5, .Assign [.Attribute (.Name "self" p6) y p7] (.Name y p8) p9, .Assign [.Attribute (.Name "self" q6) z q7] (.Name z q8) q9])
    (hcall : ∀ env : Env, ∃ pl : Sem Bool, eval (.Call (.Attribute (.Call (.Name "super" p0) [] [] p1) "__init__" p2) ([.Name y p3, .Name z p3']) [] p4) env = (do
      let ov ← attributeBase (.Call (.Name "super" p0) [] [] p1) "__init__" env (eval (.Call (.Name "super" p0) [] [] p1) env)
      standAt p2.atName
      let (f, first) ← holding [ov] (getMethod ov "__init__" pl)
      callWith p4 f first (backTo p4 (starEach ([.Name y p3, .Name z p3']) env)) []))
    (hno : PySem.W.findIn K (.ref C) y = some none) (hno2 : PySem.W.findIn K (.ref C) z = some none) (hd1 : (y == ("__debug__" : Str)) = false) (hd2 : (y == ("__classdict__" : Str)) = false) (hd3 : (z == ("__debug__" : Str)) = false) (hd4 : (z == ("__classdict__" : Str)) = false) :
    FnOk P w K mg base (L2.CX P w) (k + 1) fI fd ["self", y, z] (spX C [y, z]) := by
  refine fn_x XF Sc hks hp ha hbody (.inr ⟨_, _, rfl, fun env => rfl, fun env => rfl⟩) hcall (fun vs H Q E h => spX_len h) fun qual A outer s H vs Q E h => ?_
  obtain ⟨a, us, rfl, e, ea, _, q⟩ := h
  have hy : Vis (defScope st) y := .inl (Sc.par y (by simp))
  have hz : Vis (defScope st) z := .inl (Sc.par z (by simp))
  have hs : Vis (defScope st) "self" := .inl (Sc.par "self" (by simp))
  match us, e with
  | [u, v], _ =>
    refine ⟨a, [u, v], _, _, rfl, ea, (fun z => nomatch z), pa_cons (pv 1 rfl hy hd1 hd2) (pa_cons (pv 2 rfl hz hd3 hd4) pa_nil), pss_cons (ps_ost (pv 0 rfl hs) (pv 1 rfl hy hd1 hd2)) (pss_one (ps_ost (pv 0 rfl hs) (pv 2 rfl hz hd3 hd4))), ?_⟩
    refine ⟨u, rfl, v, rfl, (by simp), ea, u, rfl, .ref a, rfl, a, C, rfl, XF.ox, hno, .inl ⟨ea, fun dx n ne => ?_⟩⟩
    refine ⟨v, rfl, .ref a, rfl, a, C, rfl, XF.ox, hno2, .inr ⟨dx, [(y, u)], upd_same, ?_, (by simp), ?_⟩⟩
    · rw [upd_ne ne]; exact upd_same
    · have q2 := q (fun z => nomatch z) dx n ne
      have eH : upd (upd (upd H dx (exd dx [(y, u)])) a (exo a C (some dx))) dx (exd dx [(z, v), (y, u)]) = upd (upd H dx (exd dx (List.zip [y, z] [u, v]).reverse)) a (exo a C (some dx)) := by
        funext b
        by_cases h1 : b = dx
        · subst h1
          rw [upd_same, upd_ne ne, upd_same]; rfl
        · rw [upd_ne h1]
          by_cases h2 : b = a
          · subst h2; rw [upd_same, upd_same]
          · rw [upd_ne h2, upd_ne h1, upd_ne h2, upd_ne h1]
      rw [eH]; exact q2
end

/-! ### C(..), to be raised -/
def tMkX (C : Addr) (ps : List Str) (ta : TA) : St → Hp → XK → Prop := fun σ H Q => ta σ H fun vs H1 => vs.length = ps.length ∧ (ps = [] → Q (.ref C) none H1) ∧ (ps ≠ [] → ∀ d, H1 d = none → Q (.ref C) (some d) (upd H1 d (.xd (ps.zip vs).reverse)))
section
variable {X : Cx} {pins : List (Addr × Obj)} {σ : St} {H : Hp} {s : Shared} {a C fI cc cda : Addr} {x : Str} {st : Stmt} {ps : List Str} {fd : FuncData} {k : Nat}
theorem mk_endN {H1 : Hp} {Q : XK} {hp hp2 h2 : Heap} {g1 g2 : Array GenState} {d1 d2 : Drawn} {t1 t2 : Nat} {os1 os2 : OsState} (T : Raises X (.ref C)) (I1 : Inv X pins σ H1 ⟨hp, g1, d1, t1, os1⟩)
    (ha : hp.objs.size ≤ a) (kk : ∀ b o, hp.get? b = some o → hp2.get? b = some o) (un : Un (frs X.stack) [] (upd H1 a (exo a C none)) (upd H1 a (exo a C none)) hp2 h2) (hok : HOk X.prog X.w (upd H1 a (exo a C none)) h2) (ho : os2 = os1) (hb : PyProof.Rows.AllBare g2) (q : Q (.ref C) none H1) : MkP X pins σ Q (.ref a) ⟨h2, g2, d2, t2, os2⟩ := by
  obtain ⟨t0, hoe⟩ := exo_at hok upd_same
  have hn : H1 a = none := I1.hok.fresh ha
  obtain ⟨G, g1', g2'⟩ := restrict h2 fun b => decide (b ≠ a)
  have gk : ∀ b, b ≠ a → G.get? b = h2.get? b := fun b hb => g1' b (decide_eq_true hb)
  have ge : G.get? a = none := g2' a (by simp)
  have nha : ∀ {b : Addr} {o : Obj}, hp.get? b = some o → b ≠ a := fun {b o} z => Nat.ne_of_lt (Nat.lt_of_lt_of_le (Heap.lt_size z) ha)
  have up : ∀ {b : Addr}, b ≠ a → H1 b = none → upd H1 a (exo a C none) b = none := fun {b} hb n => by rw [upd_ne hb]; exact n
  have U : Un (frs X.stack) [] H1 H1 hp G := {
    keep := fun b o z n hf hx => by
      rw [gk b (nha z)]
      exact un.keep b o (kk b o z) (up (nha z) n) hf hx
    slot := fun b o z n hf hx => by
      rw [gk b (nha z)]
      exact un.slot b o (kk b o z) (up (nha z) n) hf hx
    free := fun b o z n hx => n
    there := fun b o z hx => by
      rw [gk b (nha z)]
      exact un.there b o (kk b o z) hx
    tups := fun b xs z => z
    frzs := fun b o v z => z
    tbls := fun b ps z => ⟨#[], by rw [z]; simp⟩ }
  have hok3 : HOk X.prog X.w H1 G := fun b o z => by
    have hba : b ≠ a := fun e => by
      rw [e, hn] at z
      cases z
    have noa : ∀ {c : Addr} {o : HO}, H1 c = some o → c ≠ a := fun {c o} hc e => by rw [e, hn] at hc; cases hc
    refine (hok b o (by rw [upd_ne hba]; exact z)).stay (fun c v hc y => ?_) (fun c hc => ?_) fun c xs hc => ?_
    · have hca : c ≠ a := by
        rcases hc with hc | hc
        · rw [hc]
          exact hba
        · intro e
          rw [e, upd_same] at hc
          exact exo_own (Option.some.inj hc)
      rw [gk c hca]
      exact y
    · have hca : c ≠ a := fun e => by
        rw [e, upd_same] at hc
        exact exo_own (Option.some.inj hc)
      rw [upd_ne hca] at hc
      exact hc
    · have hca : c ≠ a := fun e => by
        rw [e, upd_same] at hc
        exact exo_tup (Option.some.inj hc)
      rw [upd_ne hca] at hc
      exact hc
  have J : Inv X pins σ H1 ⟨G, g2, d2, t2, os2⟩ := I1.call' (ch := []) ho U hok3 hb (fun b z => absurd z (by simp))
  refine ⟨a, _, _, ⟨G, g2, d2, t2, os2⟩, _, .ref C, none, rfl, J, fun b o z => ?_, ge, hoe, ⟨rfl, rfl⟩, rfl, rfl, hn, rfl, hb, T, q⟩
  by_cases hba : b = a
  · rw [hba, ge] at z
    cases z
  · exact (gk b hba).symm.trans z
theorem run_mkx {us : List Value} {vs : List V} {Q : XK} (XF : XcF X.prog X.K X.mg x st ps C fI cc cda fd) (G : FnOk X.prog X.w X.K X.mg X.base (L2.CX X.prog X.w) k fI fd ("self" :: ps) (spX C ps)) (hr : Room (k + 1) X.A) (hx : Passes (L2.CX X.prog X.w) X (fun _ _ _ => False)) (I1 : Inv X pins σ H s) (r1 : Vals vs us)
    (hl : vs.length = ps.length) (q1 : ps = [] → Q (.ref C) none H) (q2 : ps ≠ [] → ∀ d, H d = none → Q (.ref C) (some d) (upd H d (.xd (ps.zip vs).reverse))) (hz : vs.length ≤ 1000) :
    wpAny (model X.prog X.w) X.A (call (.ref C) us) (MkP X pins σ Q) X.xe s := by
  have T := XF.ox
  obtain ⟨nm, q, N, bs, bm, sn, sub, ab, col, dd, k0, k1, k2, k3, k5, hC, hbm⟩ := T.cls
  obtain ⟨hp, g, dr, tk, os⟩ := s
  have hsz : hp.objs.size ≤ hp.objs.size + 1 := Nat.le_succ _
  have hn : H (hp.objs.size + 1) = none := I1.hok.fresh hsz
  have kk : ∀ b o, hp.get? b = some o → ((hp.push (PySem.W.kdv_tup us)).push (PySem.HandSPX.excO C hp.objs.size)).get? b = some o := fun b o e => Heap.get?_push_of_some _ (Heap.get?_push_of_some _ e)
  have hget : ((hp.push (PySem.W.kdv_tup us)).push (PySem.HandSPX.excO C hp.objs.size)).get? (hp.objs.size + 1) = some (PySem.HandSPX.excO C hp.objs.size) := by heap_get
  have I2 : Inv X pins σ (upd H (hp.objs.size + 1) (exo (hp.objs.size + 1) C none)) ⟨(hp.push (PySem.W.kdv_tup us)).push (PySem.HandSPX.excO C hp.objs.size), g, dr, tk, os⟩ :=
    I1.laid (t' := tk) (a := hp.objs.size + 1) (o := exo (hp.objs.size + 1) C none) (h' := (hp.push (PySem.W.kdv_tup us)).push (PySem.HandSPX.excO C hp.objs.size)) kk hsz (exo_ok hget)
  have r2 : Vals (V.ref (hp.objs.size + 1) :: vs) (Value.ref (hp.objs.size + 1) :: us) := .cons rfl r1
  have hlu : (Value.ref (hp.objs.size + 1) :: us).length = (("self" : Str) :: ps).length := by
    rw [List.length_cons, List.length_cons, ← r1.length, hl]
  have hus : us.length ≤ sizeLine := by
    rw [← Paired.length r1, sizeLine_eq]
    omega
  have hq : spX C ps (V.ref (hp.objs.size + 1) :: vs) (upd H (hp.objs.size + 1) (exo (hp.objs.size + 1) C none)) (fun v H2 => v = .non ∧ ((ps = [] ∧ H2 = upd H (hp.objs.size + 1) (exo (hp.objs.size + 1) C none)) ∨ (ps ≠ [] ∧ ∃ d, H d = none ∧ d ≠ hp.objs.size + 1 ∧
      H2 = upd (upd (upd H (hp.objs.size + 1) (exo (hp.objs.size + 1) C none)) d (exd d (ps.zip vs).reverse)) (hp.objs.size + 1) (exo (hp.objs.size + 1) C (some d))))) (fun _ _ _ => False) := by
    refine ⟨_, vs, rfl, hl, upd_same, fun e => ⟨rfl, .inl ⟨e, rfl⟩⟩, fun e d hd ne => ⟨rfl, .inr ⟨e, d, ?_, ne, rfl⟩⟩⟩
    rw [upd_ne ne] at hd
    exact hd
  have hb := XF.bd { heap := (hp.push (PySem.W.kdv_tup us)).push (PySem.HandSPX.excO C hp.objs.size), gens := g, drawn := dr, toks := tk, os := os } (Value.ref (hp.objs.size + 1) :: us) I2.kIn (by rw [List.append_nil]; exact hlu)
  rw [List.append_nil] at hb
  refine wpAny_call (PySem.HandSPX.call_own F.excBase_ValueError (fun Y => PySem.HandSPX.refsVE_contains Y bm hbm) (I1.kIn _ _ hC) (PySem.W.looks_findIn I1.kIn XF.iI) (fun self => PySem.W.bind_fn I1.kIn self XF.tI) hus
    (codeAny_mono (G.run _ X.stack _ _ ⟨Value.ref (hp.objs.size + 1) :: us, []⟩ (Value.ref (hp.objs.size + 1) :: us) _ _ (fun _ _ _ => False) (hr.make C us []) (I2.env0.make C us []) hb r2 hq) fun r s' hq' => ?_))
  cases r with
  | error er => exact hx pins σ _ _ er s' I2 hq'
  | ok fl =>
    cases fl with
    | ret u =>
      obtain ⟨v, H2, os2, bare2, un2, hok2, rv, ev, h2⟩ := hq'
      subst ev
      obtain ⟨hh2, g2, d2, t2, os'⟩ := s'
      rcases h2 with ⟨ep, rfl⟩ | ⟨ep, d, hd1, ne, rfl⟩
      · exact ⟨rv, mk_endN (raises_own T.exC T.tyC) I1 hsz kk un2 hok2 os2 bare2 (q1 ep)⟩
      · have eH : upd (del (upd (upd (upd H (hp.objs.size + 1) (exo (hp.objs.size + 1) C none)) d (exd d (ps.zip vs).reverse)) (hp.objs.size + 1) (exo (hp.objs.size + 1) C (some d))) (hp.objs.size + 1)) d (.xd (ps.zip vs).reverse) = upd H d (.xd (ps.zip vs).reverse) := by
          funext b
          by_cases h1 : b = d
          · rw [h1, upd_same, upd_same]
          · rw [upd_ne h1, upd_ne h1]
            by_cases h2 : b = hp.objs.size + 1
            · rw [h2, del_same, hn]
            · rw [del_ne h2, upd_ne h2, upd_ne h1, upd_ne h2]
        refine ⟨rv, mk_end (fs := (ps.zip vs).reverse) (raises_own T.exC T.tyC) I1 hsz kk un2 hok2 os2 bare2 upd_same ?_ hd1 ?_⟩
        · rw [upd_ne ne]; exact upd_same
        · rw [eH]; exact q2 ep d hd1
    | next => exact False.elim hq'
    | brk => exact False.elim hq'
    | cont => exact False.elim hq'
end

section
variable {X : Cx} {C fI cc cda : Addr} {x : Str} {st : Stmt} {ps : List Str} {fd : FuncData} {k : Nat} {e : Expr} {es : List Expr} {ta : TA} {p pos : Pos}
theorem pmk_x (XF : XcF X.prog X.K X.mg x st ps C fI cc cda fd) (G : FnOk X.prog X.w X.K X.mg X.base (L2.CX X.prog X.w) k fI fd ("self" :: ps) (spX C ps)) (hr : Room (k + 1) X.A) (hx : Passes (L2.CX X.prog X.w) X (fun _ _ _ => False)) (hz : ps.length ≤ 1000) (hg : Gl X x) (ha : PA X (e :: es) ta)
    (hdb : (x == ("__debug__" : Str)) = false := by decide) (he : starEach (e :: es) X.env = (false, eval e X.env) :: starEach es X.env := by rfl) (hpl : (backTo pos (starEach es X.env)).any (·.1) = false := by rfl) :
    PMk X (.Call (.Name x p) (e :: es) [] pos) (tMkX C ps ta) := by
  intro pins s σ H Q I h
  refine wpAny_Call_Name_kw (ld_glob I hg XF.mgC ?_ hdb)
  refine PySem.W.callWith_K (h₀ := X.base) I.ok.mod.kin XF.ox.kC (thn (ha.run pos pins s σ H _ I h) fun us s1 ⟨vs, H1, I1, r1, hl, q1, q2⟩ => ⟨I1.kIn, ?_⟩) he hpl
  exact run_mkx XF G hr hx I1 r1 hl q1 q2 (by omega)
theorem pmk_x0 (XF : XcF X.prog X.K X.mg x st [] C fI cc cda fd) (G : FnOk X.prog X.w X.K X.mg X.base (L2.CX X.prog X.w) k fI fd ["self"] (spX C [])) (hr : Room (k + 1) X.A) (hx : Passes (L2.CX X.prog X.w) X (fun _ _ _ => False)) (hg : Gl X x)
    (hdb : (x == ("__debug__" : Str)) = false := by decide) : PMk X (.Call (.Name x p) [] [] pos) (tMkX C [] tNil) := by
  intro pins s σ H Q I h
  refine wpAny_Call_Name_kw (ld_glob I hg XF.mgC ?_ hdb)
  obtain ⟨hl, q1, q2⟩ := (show (fun (vs : List V) H1 => vs.length = ([] : List Str).length ∧ (([] : List Str) = [] → Q (.ref C) none H1) ∧ (([] : List Str) ≠ [] → ∀ d, H1 d = none → Q (.ref C) (some d) (upd H1 d (.xd (([] : List Str).zip vs).reverse)))) [] H from h)
  exact PySem.W.callWith_K0 I.kIn XF.ox.kC (run_mkx (us := []) XF G hr hx I .nil hl q1 q2 (by simp))
end
/-- an exception class that is ready to be used -/
def Xc (W : Wd) (base : Heap) (k : Nat) (x : Str) (ps : List Str) : Prop := ∃ st C fI cc cda fd, XcF W.P W.K W.mg x st ps C fI cc cda fd ∧ FnOk W.P W.w W.K W.mg base (L2.CX W.P W.w) k fI fd ("self" :: ps) (spX C ps)
def sRaise (x : Str) (ps : List Str) (fs : SEnv → M (List D)) : DS := fun Γ => do let ds ← fs Γ; fun _ => .exc ⟨x, ps.reverse, ds.reverse⟩
section
variable {X : Cx} {F : Fr} {k k' : Nat} {x : Str} {ps : List Str} {e : Expr} {es : List Expr} {fs : SEnv → M (List D)} {p pos pos2 : Pos}
theorem zip_fst : ∀ {ps : List Str} {vs : List V}, vs.length = ps.length → (ps.zip vs).map (·.1) = ps
  | [], [], _ => rfl
  | p :: ps, v :: vs, h => by
    rw [List.zip_cons_cons, List.map_cons, zip_fst (by simpa using h)]
theorem zip_snd : ∀ {ps : List Str} {vs : List V}, vs.length = ps.length → (ps.zip vs).map (·.2) = vs
  | [], [], _ => rfl
  | p :: ps, v :: vs, h => by
    rw [List.zip_cons_cons, List.map_cons, zip_snd (by simpa using h)]
theorem Reps.app {W : Wd} {S : Addr → Prop} {H : Hp} : ∀ {ds es : List D} {vs ws : List V}, Reps W S H ds vs → Reps W S H es ws → Reps W S H (ds ++ es) (vs ++ ws)
  | [], es, vs, ws, h, g => by
    unfold Reps at h
    subst h
    exact g
  | d :: ds, es, vs, ws, h, g => by
    unfold Reps at h
    obtain ⟨v, r, rfl, h1, h2⟩ := h
    show Reps W S H (d :: (ds ++ es)) (v :: (r ++ ws))
    unfold Reps
    exact ⟨v, _, rfl, h1, Reps.app h2 g⟩
theorem Reps.rev {W : Wd} {S : Addr → Prop} {H : Hp} : ∀ {ds : List D} {vs : List V}, Reps W S H ds vs → Reps W S H ds.reverse vs.reverse
  | [], vs, h => by
    unfold Reps at h
    subst h
    unfold Reps
    rfl
  | d :: ds, vs, h => by
    unfold Reps at h
    obtain ⟨v, r, rfl, h1, h2⟩ := h
    rw [List.reverse_cons, List.reverse_cons]
    refine Reps.app (Reps.rev h2) ?_
    unfold Reps
    exact ⟨v, [], rfl, h1, by unfold Reps; rfl⟩
theorem raise_weakE {C : Addr} (hC : F.mg x = some (.ref C)) (hn : LenA fs ps.length) {σ : St} {H : Hp} {S : Addr → Prop} {Γ : SEnv} {p : Pot} {κ : Fl × SEnv → Pot → Prop} (est : ES F S Γ p σ H) (q : OutOk F (sRaise x ps fs Γ p) κ) : tMkX C ps (tA false F fs) σ H fun cls d H' => F.E cls d H' := by
  have q := OutOk.bind.mp q
  refine ⟨_, Γ, p, est, ?_⟩
  cases g : fs Γ p with
  | bad => rw [g] at q; exact q.elim
  | exc z => rw [g] at q; exact q
  | ok z =>
    obtain ⟨ds, p1⟩ := z
    rw [g] at q
    intro vs H1 e1 q1 r1
    have q : F.EX ⟨x, ps.reverse, ds.reverse⟩ := q
    have es1 := est.ext e1 q1
    have hl : vs.length = ps.length := by
      rw [← r1.reps.length, hn Γ p ds p1 g]
    refine ⟨hl, fun ep => ?_, fun ep d hd => ?_⟩
    · subst ep
      have : ds = [] := List.length_eq_zero_iff.mp (hn Γ p ds p1 g)
      subst this
      exact q C none H1 hC es1.same (fun a w => es1.mt a (es1.s0 a w)) (.inl ⟨rfl, rfl⟩)
    · have sm : Same H1 (upd H1 d (.xd (ps.zip vs).reverse)) := upd_Same hd
      refine q C (some d) _ hC (es1.same.ext (.of sm)) (fun a w => (es1.ext (.of sm) (q1.same sm)).mt a (es1.s0 a w)) (.inr ⟨d, _, rfl, upd_same, ?_, ?_⟩)
      · rw [List.map_reverse, zip_fst hl]
      · rw [List.map_reverse, zip_snd hl]
        refine Reps.rev (Reps.goes ⟨fun a o h _ nt => sm.get a o h id nt, fun a w => .inl (es1.s0 a w), es1.mt⟩ _ _ r1.reps)
theorem raise_weak {C : Addr} (hC : F.mg x = some (.ref C)) (hn : LenA fs ps.length) {σ : St} {H : Hp} {D : Ends} (q : tS F (sRaise x ps fs) D σ H) : tMkX C ps (tA false F fs) σ H fun cls d H' => F.E cls d H' := by
  obtain ⟨Γ, p, st, q⟩ := q
  exact raise_weakE hC hn st.es q
theorem es_raise (o : On X F k) (G : Xc F.toWd X.base k' x ps) (hk : k' + 1 ≤ k) (hz : ps.length ≤ 1000) (hg : Gl X x) (ha : EA false X F (e :: es) fs) (hn : LenA fs ps.length) (hdb : (x == ("__debug__" : Str)) = false := by decide)
    (he : starEach (e :: es) X.env = (false, eval e X.env) :: starEach es X.env := by rfl) (hpl : (backTo pos (starEach es X.env)).any (·.1) = false := by rfl) : ES1 X F (.Raise (some (.Call (.Name x p) (e :: es) [] pos)) none pos2) (sRaise x ps fs) := by
  obtain ⟨st, C, fI, cc, cda, fd, XF, G⟩ := G
  have hC : F.mg x = some (.ref C) := XF.mgC
  rw [toWd_of o] at XF G
  exact PS.weak (ps_raise o.calm o.tk (pmk_x XF G (o.room.mono hk) (passes_call o.tk fun _ _ _ _ h => h.elim) hz hg ha hdb he hpl)) fun D σ H q => raise_weak hC hn q
theorem es_raise0 (o : On X F k) (G : Xc F.toWd X.base k' x []) (hk : k' + 1 ≤ k) (hg : Gl X x) (hdb : (x == ("__debug__" : Str)) = false := by decide) : ES1 X F (.Raise (some (.Call (.Name x p) [] [] pos)) none pos2) (sRaise x [] eNil) := by
  obtain ⟨st, C, fI, cc, cda, fd, XF, G⟩ := G
  have hC : F.mg x = some (.ref C) := XF.mgC
  rw [toWd_of o] at XF G
  refine PS.weak (ps_raise o.calm o.tk (pmk_x0 XF G (o.room.mono hk) (passes_call o.tk fun _ _ _ _ h => h.elim) hg hdb)) fun D σ H q => ?_
  obtain ⟨S, Γ, p, es, q⟩ := raise_weak hC len_nil q
  exact (show ∀ vs H', Ext F H H' → PotOk F H' p → PIR false F S H' [] vs → _ from q) [] H .refl es.pot .nil
end
end PL

set_option Elab.async false
set_option linter.all false
set_option maxRecDepth 100000
set_option maxHeartbeats 4000000
/-! PL17: own classes whose __init__ looks at its parameters and keeps values as fields. -/
namespace PL
open PySem L2
variable [TabL]

abbrev frI (W : Wd) (H : Hp) (S : Addr → Prop) (a : Addr) (E : XK) : Fr := { W with H0 := H, S0 := S, pa := none, ca := 0, self := some a, exc := none, E := E }
abbrev FS := List (Str × D)
def putD (f : Str) (d : D) : FS → FS
  | [] => [(f, d)]
  | (g, x) :: r => if g = f then (g, d) :: r else (g, x) :: putD f d r
abbrev DI := SEnv → FS → M FS
def Flds (W : Wd) (S : Addr → Prop) (H : Hp) (gs : FS) (fs : List (Str × V)) : Prop := fs.map (·.1) = gs.map (·.1) ∧ Reps W S H (gs.map (·.2)) (fs.map (·.2))
/-- the state within such an __init__: a, the instance -/
structure IStOk (F : Fr) (a : Addr) (C dx : Addr) (c : Str) (ds : List D) (gs : FS) (p : Pot) (σ : St) (H : Hp) (fs : List (Str × V)) : Prop where
  es : ES F (fun b => F.S0 b ∨ b = a) (.no :: ds.map .val) p σ H
  se : σ[0]? = some (some (V.ref a))
  self : F.self = some a
  pa : F.pa = none
  mg : F.mg c = some (.ref C)
  at_ : H a = some (.ins C dx fs)
  fl : Flds F.toWd (fun b => F.S0 b ∨ b = a) H gs fs
def tIn (F : Fr) (c : Str) (f : DI) : TS := fun Dn σ H => ∃ (a C dx : Addr) (ds : List D) (gs : FS) (p : Pot) (fs : List (Str × V)), IStOk F a C dx c ds gs p σ H fs ∧ OutOk F (f (.no :: ds.map .val) gs p) fun gs' p' => ∀ H' fs', Kept (fun b => b = a) H H' → IStOk F a C dx c ds gs' p' σ H' fs' → Dn.nx σ H'
section
variable {F : Fr} {a C dx : Addr} {c : Str} {ds : List D} {gs gs' : FS} {p p' : Pot} {σ : St} {H H' : Hp} {fs fs' : List (Str × V)}
theorem IStOk.ext (s : IStOk F a C dx c ds gs p σ H fs) (e : Ext F H H') (q : PotOk F H' p') : IStOk F a C dx c ds gs p' σ H' fs :=
  ⟨s.es.ext e q, s.se, s.self, s.pa, s.mg, e.get _ _ s.at_ (by rw [s.pa]; exact fun z => nomatch z) nt_ins, s.fl.1, Reps.goes (e.goes s.es.mt s.es.pa) _ _ s.fl.2⟩
theorem IStOk.put (s : IStOk F a C dx c ds gs p σ H fs) (fl : Flds F.toWd (fun b => F.S0 b ∨ b = a) H gs' fs') : IStOk F a C dx c ds gs' p σ (upd H a (.ins C dx fs')) fs' := by
  have hm : ∀ b, (F.S0 b ∨ b = a) → Mut (upd H a (.ins C dx fs') b) := fun b w => by
    by_cases h : b = a
    · rw [h, upd_same]; trivial
    · rw [upd_ne h]; exact s.es.mt b w
  have g : Goes (fun b => F.S0 b ∨ b = a) (fun b => F.S0 b ∨ b = a) H (upd H a (.ins C dx fs')) := ⟨fun b o h n _ => by rw [upd_ne (fun z => n (.inr z))]; exact h, fun _ w => .inl w, s.es.mt⟩
  refine ⟨⟨fun i t h => ?_, fun b e => (by rw [s.pa] at e; cases e), hm, fun b e => (by rw [s.pa] at e; cases e), fun b w => .inl w, s.es.same.trans2 (Kept.set1 (X := fun b => b = a) s.at_ nc_ins rfl) fun c o h z => .inr (by rw [z]; exact s.self)⟩, s.se, s.self, s.pa, s.mg, upd_same, fl.1, Reps.goes g _ _ fl.2⟩
  · obtain ⟨x, e, r⟩ := s.es.env i t h
    refine ⟨x, e, ?_⟩
    cases i with
    | zero => cases h; trivial
    | succ i =>
      rw [List.getElem?_cons_succ, List.getElem?_map] at h
      cases g0 : ds[i]? with
      | none => rw [g0] at h; cases h
      | some d =>
        rw [g0] at h; cases h
        obtain ⟨v, e1, r⟩ := r
        exact ⟨v, e1, Rep.goes g _ _ r⟩
theorem Flds.put {W : Wd} {S : Addr → Prop} {H : Hp} {f : Str} {d : D} {v : V} : ∀ {gs : FS} {fs : List (Str × V)}, Flds W S H gs fs → Rep W S H d v → Flds W S H (putD f d gs) (putF f v fs)
  | [], fs, h, r => by
    obtain ⟨h1, h2⟩ := h
    have : fs = [] := by simpa using h1
    subst this
    exact ⟨rfl, by show Reps W S H [d] [v]; unfold Reps; exact ⟨v, [], rfl, r, by unfold Reps; rfl⟩⟩
  | (g, x) :: gs, [], h, r => by cases h.1
  | (g, x) :: gs, (g', y) :: fs, h, r => by
    obtain ⟨h1, h2⟩ := h
    rw [List.map_cons, List.map_cons, List.cons.injEq] at h1
    obtain ⟨h0, h1⟩ := h1
    dsimp only at h0
    subst h0
    rw [List.map_cons, List.map_cons] at h2
    unfold Reps at h2
    obtain ⟨v', r', e, h3, h4⟩ := h2
    cases e
    unfold putD putF
    by_cases hg : g' = f
    · rw [if_pos hg, if_pos hg]
      refine ⟨by rw [List.map_cons, List.map_cons, h1], ?_⟩
      rw [List.map_cons, List.map_cons]
      unfold Reps
      exact ⟨v, _, rfl, r, h4⟩
    · rw [if_neg hg, if_neg hg]
      obtain ⟨i1, i2⟩ := Flds.put (gs := gs) (fs := fs) ⟨h1, h4⟩ r
      refine ⟨by rw [List.map_cons, List.map_cons, i1], ?_⟩
      rw [List.map_cons, List.map_cons]
      unfold Reps
      exact ⟨y, _, rfl, h3, i2⟩
end
def iSkip : DI := fun _ gs => pure gs
def iSeq (f g : DI) : DI := fun Γ gs => do let gs1 ← f Γ gs; g Γ gs1
def iGuard (fc : SEnv → M D) (x : Str) (ps : List Str) (fs : SEnv → M (List D)) : DI := fun Γ gs => do
  match ← fc Γ with
  | .bl true => do let _ ← sRaise x ps fs Γ; M.bad
  | .bl false => pure gs
  | _ => M.bad
def iFld (x : Str) (f : SEnv → M D) : DI := fun Γ gs => do let d ← f Γ; ofOpt (if gs.length < 1000 then some (putD x d gs) else none)
section
variable {X : Cx} {F : Fr} {k k' : Nat} {c x : Str} {ps : List Str} {e : Expr} {es : List Expr} {st : Stmt} {rest : List Stmt} {f g : DI} {fv fc : SEnv → M D} {fs : SEnv → M (List D)} {p p1 p2 pos pos2 pos3 : Pos}
theorem ei_nil : PSs X [] (tIn F c iSkip) := PSs.weak pss_nil fun D σ H q => by
  obtain ⟨a, C, dx, ds, gs, p, fs, s, q⟩ := q
  exact (show ∀ H' fs', Kept (fun b => b = a) H H' → IStOk F a C dx c ds gs p σ H' fs' → D.nx σ H' from q) H fs Kept.refl s
theorem ei_cons (h1 : PS X st (tIn F c f)) (h2 : PSs X rest (tIn F c g)) : PSs X (st :: rest) (tIn F c (iSeq f g)) := PSs.weak (pss_cons h1 h2) fun D σ H q => by
  obtain ⟨a, C, dx, ds, gs, p, fs, s, q⟩ := q
  refine ⟨a, C, dx, ds, gs, p, fs, s, (OutOk.bind.mp q).imp fun gs1 p1 q H1 fs1 k1 s1 => ?_⟩
  exact ⟨a, C, dx, ds, gs1, p1, fs1, s1, q.imp fun gs2 p2 q H2 fs2 k2 s2 => q H2 fs2 (k1.trans k2) s2⟩
theorem ei_fld (he : EV X F e fv) (hcl : ∀ C, F.mg c = some (.ref C) → Cls X.K C ∧ NoAttr X.K C x) (hN : X.N[0]? = some ("self" : Str) := by rfl) (hv : Vis X.env.scope "self" := by exact Or.inl rfl) (hs : swapsWith e (some (.Attribute (.Name "self" p1) x p2)) pos.line X.env = pure false := by rfl) :
    PS X (.Assign [.Attribute (.Name "self" p1) x p2] e pos) (tIn F c (iFld x fv)) := PS.weak (ps_fld (pe_var hN hv) he hs) fun D σ H q => by
  obtain ⟨a, C, dx, ds, gs, p, fs, s, q⟩ := q
  refine ⟨_, _, p, s.es, (OutOk.bind.mp q).imp fun d p1 q v H1 e1 q1 r1 => ?_⟩
  obtain ⟨gs', e2, q⟩ := out_opt.mp q
  have s1 := s.ext e1 q1
  split at e2
  · rename_i hl
    cases e2
    obtain ⟨cl, na⟩ := hcl C s.mg
    refine ⟨.ref a, s.se, a, C, dx, fs, rfl, s1.at_, cl, na, ?_, ?_⟩
    · have := congrArg List.length s.fl.1
      rw [List.length_map, List.length_map] at this
      omega
    · exact q _ _ ((e1.imp fun b o h z => by rw [s.pa] at z; cases z).trans (Kept.set1 s1.at_ nc_ins rfl)) (s1.put (s1.fl.put r1))
  · cases e2
theorem ei_guard (o : On X F k) (hc : ET X F (e0 : Expr) fc) (G : Xc F.toWd X.base k' x ps) (hk : k' + 1 ≤ k) (hz : ps.length ≤ 1000) (hg : Gl X x) (ha : EA false X F (e :: es) fs) (hn : LenA fs ps.length) (hdb : (x == ("__debug__" : Str)) = false := by decide)
    (he : starEach (e :: es) X.env = (false, eval e X.env) :: starEach es X.env := by rfl) (hpl : (backTo pos (starEach es X.env)).any (·.1) = false := by rfl) : PS X (.If e0 [.Raise (some (.Call (.Name x p) (e :: es) [] pos)) none pos2] [] pos3) (tIn F c (iGuard fc x ps fs)) := by
  obtain ⟨st, C, fI, cc, cda, fd, XF, G⟩ := G
  have hC : F.mg x = some (.ref C) := XF.mgC
  rw [toWd_of o] at XF G
  refine PS.weak (ps_if hc (pss_one (ps_raise o.calm o.tk (pmk_x XF G (o.room.mono hk) (passes_call o.tk fun _ _ _ _ h => h.elim) hz hg ha hdb he hpl))) pss_nil) fun D σ H q => ?_
  obtain ⟨a, C', dx, ds, gs, p, fs', s, q⟩ := q
  refine ⟨_, _, p, s.es, (OutOk.bind.mp q).imp fun d p1 q => ?_⟩
  cases d with
  | bl b =>
    refine ⟨b, rfl, fun H1 e1 q1 => ?_⟩
    have s1 := s.ext e1 q1
    cases b with
    | true => exact iteT (raise_weakE hC hn s1.es (OutOk.bind.mp q))
    | false => exact iteF (q H1 fs' (e1.imp fun b o h z => by rw [s.pa] at z; cases z) s1)
  | _ => exact q.elim
end

/-! ### __init__, and an instance made -/
def spI' (W : Wd) (c : Str) (n : Nat) (m : List D → Out FS) : Sp := fun vs H Q E => ∃ (S : Addr → Prop) (ds : List D) (a C dx : Addr) (vs' : List V), vs = .ref a :: vs' ∧ (∀ b, S b → Mut (H b)) ∧ W.mg c = some (.ref C) ∧ H a = some (.ins C dx []) ∧ Reps W (fun b => S b ∨ b = a) H ds vs' ∧ ds.length = n ∧ match m ds with
  | .ok gs => ∀ H' fs, Kept (fun b => b = a) H H' → H' a = some (.ins C dx fs) → Flds W (fun b => S b ∨ b = a) H' gs fs → Q .non H'
  | .exc x => ∀ C dx H', W.mg x.c = some (.ref C) → Kept (fun b => b = a) H H' → XAt W S H' dx x → E (.ref C) dx H'
  | .bad => False
def runI (f : DI) (ds : List D) : Out FS := match f (.no :: ds.map .val) [] pot0 with
  | .ok (gs, _) => .ok gs
  | .exc x => .exc x
  | .bad => .bad
section
variable {P : Program} {w : World} {K : PySem.W.Frag} {mg : Str → Option Value} {base : Heap}
theorem fn_init {c qual : Str} {st : Stmt} {f : Addr} {fd : FuncData} {ps : List Str} {k : Nat} {den : DI} (F0 : L2.Fun K "__init__" qual st f fd) (Sc : FnScope ("self" :: ps) ("self" :: ps) (defScope st))
    (hb : ∀ (cdv : Value) (A : Around) (outer : List Env) (s : Shared) (H : Hp) (E : XK) (S0 : Addr → Prop) (a : Addr), On (cxOf (L2.CX P w) P w K mg base ("self" :: ps) qual (defScope st) f cdv A outer s H E) (frI ⟨P, w, K, mg⟩ H S0 a E) k → PSs (cxOf (L2.CX P w) P w K mg base ("self" :: ps) qual (defScope st) f cdv A outer s H E) (defBody st) (tIn (frI ⟨P, w, K, mg⟩ H S0 a E) c den)) :
    FnOk P w K mg base (L2.CX P w) (k + 1) f fd ("self" :: ps) (spI' ⟨P, w, K, mg⟩ c ps.length (runI den)) := by
  refine okX F0 Sc (fun vs H Q E h => ?_) (fun cdv A outer s H vs Q E hr h => ?_)
  · obtain ⟨S, ds, a, C, dx, vs', rfl, _, _, _, r, e, _⟩ := h
    rw [List.length_cons, ← r.length, e, List.length_cons]
  · obtain ⟨S, ds, a, C, dx, vs', rfl, mt, mgc, hat, r, e, h⟩ := h
    let F : Fr := frI ⟨P, w, K, mg⟩ H S a E
    have on : On (cxOf (L2.CX P w) P w K mg base ("self" :: ps) qual (defScope st) f cdv A outer s H E) F k := ⟨rfl, rfl, rfl, rfl, hr, Sc.nd, rfl, takes_of rfl rfl rfl rfl⟩
    refine ⟨tIn F c den, hb cdv A outer s H E S a on, ?_⟩
    have hl := r.length
    have hst : L2.start ("self" :: ps) (.ref a :: vs') = (V.ref a :: vs').map some := by
      unfold L2.start
      have : (("self" : Str) :: ps).length - (V.ref a :: vs').length = 0 := by rw [List.length_cons, List.length_cons]; omega
      rw [this, List.replicate_zero, List.append_nil]
    have st0 : IStOk F a C dx c ds [] pot0 (L2.start ("self" :: ps) (.ref a :: vs')) H [] := by
      refine ⟨⟨fun i t h => ?_, fun b e => nof e, fun b w => ?_, fun b e => nof e, fun b w => .inl w, Kept.refl⟩, by rw [hst]; rfl, rfl, rfl, mgc, hat, rfl, by show Reps _ _ _ [] []; unfold Reps; rfl⟩
      · rw [hst]
        cases i with
        | zero => cases h; exact ⟨_, rfl, trivial⟩
        | succ i =>
          rw [List.getElem?_cons_succ, List.getElem?_map] at h
          cases g : ds[i]? with
          | none => rw [g] at h; cases h
          | some d =>
            rw [g] at h; cases h
            obtain ⟨v, ev, rv⟩ := r.get g
            refine ⟨some v, ?_, v, rfl, rv⟩
            rw [List.map_cons, List.getElem?_cons_succ, List.getElem?_map, ev]; rfl
      · rcases w with w | rfl
        · exact mt b w
        · rw [hat]; trivial
    refine ⟨a, C, dx, ds, [], pot0, [], st0, ?_⟩
    have same : ∀ {H'}, SameX F H' → Kept (fun b => b = a) H H' := fun s => s.imp fun b o h z => by rcases z with z | z; cases z; cases z; rfl
    unfold runI at h
    cases g : den (.no :: ds.map .val) [] pot0 with
    | bad => rw [g] at h; exact h.elim
    | exc x => rw [g] at h; exact fun C dx H' m s _ xa => h C dx H' m (same s) xa
    | ok z =>
      obtain ⟨gs, p'⟩ := z
      rw [g] at h
      exact fun H' fs k s => h H' fs k s.at_ s.fl
end
structure IclF (W : Wd) (base : Heap) (k : Nat) (c : Str) (ps : List Str) (m : List D → Out FS) (C f : Addr) (fd : FuncData) : Prop where
  mg : W.mg c = some (.ref C)
  mke : Mk W.K C f
  bd : Binds W.K fd ("self" :: ps) []
  ok : FnOk W.P W.w W.K W.mg base (L2.CX W.P W.w) k f fd ("self" :: ps) (spI' W c ps.length m)
/-- a class that is ready to be made -/
def Icl (W : Wd) (base : Heap) (k : Nat) (c : Str) (ps : List Str) (m : List D → Out FS) : Prop := ∃ C f fd, IclF W base k c ps m C f fd
structure ClaF (K : PySem.W.Frag) (mg : Str → Option Value) (c qual : Str) (st : Stmt) (ps : List Str) (C f : Addr) (fd : FuncData) : Prop where
  mg : mg c = some (.ref C)
  mke : Mk K C f
  fn : L2.Fun K "__init__" qual st f fd
  bd : Binds K fd ("self" :: ps) []
def ClaE (K : PySem.W.Frag) (mg : Str → Option Value) (c qual : Str) (st : Stmt) (ps : List Str) : Prop := ∃ C f fd, ClaF K mg c qual st ps C f fd
theorem icl_of {P : Program} {w : World} {K : PySem.W.Frag} {mg : Str → Option Value} {base : Heap} {c qual : Str} {st : Stmt} {ps : List Str} {k : Nat} {den : DI} (h : ClaE K mg c qual st ps) (Sc : FnScope ("self" :: ps) ("self" :: ps) (defScope st))
    (hb : ∀ (f : Addr) (cdv : Value) (A : Around) (outer : List Env) (s : Shared) (H : Hp) (E : XK) (S0 : Addr → Prop) (a : Addr), On (cxOf (L2.CX P w) P w K mg base ("self" :: ps) qual (defScope st) f cdv A outer s H E) (frI ⟨P, w, K, mg⟩ H S0 a E) k → PSs (cxOf (L2.CX P w) P w K mg base ("self" :: ps) qual (defScope st) f cdv A outer s H E) (defBody st) (tIn (frI ⟨P, w, K, mg⟩ H S0 a E) c den)) :
    Icl ⟨P, w, K, mg⟩ base (k + 1) c ps (runI den) := by
  obtain ⟨C, f, fd, h⟩ := h
  exact ⟨C, f, fd, h.mg, h.mke, h.bd, fn_init h.fn Sc (hb f)⟩
def eMake (c : Str) (m : List D → Out FS) (fs : SEnv → M (List D)) : SEnv → M D := fun Γ => do let ds ← fs Γ; let gs ← M.lift (m ds); pure (.ins c (gs.map (·.1)) (gs.map (·.2)))
section
variable {X : Cx} {F : Fr} {k k' : Nat} {c : Str} {ps : List Str} {m : List D → Out FS} {e : Expr} {es : List Expr} {fs : SEnv → M (List D)} {p pos : Pos}
theorem ev_make (o : On X F k) (G : Icl F.toWd X.base k' c ps m) (hk : k' + 1 ≤ k) (hg : Gl X c) (ha : EA false X F (e :: es) fs) (hn : LenA fs ps.length) (hdb : (c == ("__debug__" : Str)) = false := by decide)
    (he : starEach (e :: es) X.env = (false, eval e X.env) :: starEach es X.env := by rfl) (hpl : (backTo pos (starEach es X.env)).any (·.1) = false := by rfl) : EVN X F (.Call (.Name c p) (e :: es) [] pos) (eMake c m fs) := by
  obtain ⟨C, f, fd, G⟩ := G
  have ok := G.ok
  have mk := G.mke
  have bd := G.bd
  have mg := G.mg
  rw [← o.K] at mk bd
  rw [toWd_of o] at ok
  refine PE.weak (pe_make (dvs := []) (E := F.E) mk ok (o.room.mono hk) hg (by rw [o.mg]; exact mg) bd .nil (passes_on o) ha hdb he hpl) fun σ H Q q => ?_
  obtain ⟨S, Γ, p, es, q⟩ := q
  have q := OutOk.bind.mp q
  refine ⟨S, Γ, p, es, ?_⟩
  cases g : fs Γ p with
  | bad => rw [g] at q; exact q.elim
  | exc z => rw [g] at q; exact q
  | ok z =>
    obtain ⟨ds, p1⟩ := z
    rw [g] at q
    intro vs H1 e1 q1 r1 x dx hx hdx ne
    rw [List.append_nil]
    have es1 := es.ext e1 q1
    have hl := hn Γ p ds p1 g
    have q := OutOk.bind.mp q
    have sm : Same H1 (upd (upd H1 dx (.own x)) x (.ins C dx [])) := .full fun b o h => by
      rw [upd_ne (ne_of_none h hx), upd_ne (ne_of_none h hdx)]; exact h
    have nS : ∀ {b}, S b → b ≠ x := fun {b} w z => by
      have m := es1.mt b w
      rw [z, hx] at m; exact m
    have mt' : ∀ b, S b → Mut (upd (upd H1 dx (.own x)) x (.ins C dx []) b) := (es1.ext (.of sm) (q1.same sm)).mt
    have keep : ∀ {H'}, Kept (fun b => b = x) (upd (upd H1 dx (.own x)) x (.ins C dx [])) H' → Same H1 H' := fun k => sm.trans2 k fun c o h z => by rw [z, hx] at h; cases h
    refine ⟨S, ds, x, C, dx, vs, rfl, mt', by rw [← toWd_of o]; exact mg, upd_same, ?_, hl, ?_⟩
    · rw [← toWd_of o]
      exact Reps.goes ⟨fun b o h _ nt => sm.get b o h id nt, fun b w => by rcases w with w | rfl; exact .inl w; exact .inr hx, es1.mt⟩ _ _ r1.reps
    · unfold M.lift at q
      rw [← toWd_of o]
      cases gm : m ds with
      | bad => rw [gm] at q; exact q.elim
      | exc z =>
        rw [gm] at q
        exact fun C dx H' mm sm xa => q C dx H' mm (es1.same.ext (.of (keep sm))) (fun a w => (es1.ext (.of (keep sm)) (q1.same (keep sm))).mt a (es1.s0 a w)) (by
          rcases xa with xa | ⟨a, fs, h1, h2, h3, h4⟩
          · exact .inl xa
          · refine .inr ⟨a, fs, h1, h2, h3, Reps.goes ⟨fun _ _ h _ _ => h, fun a w => .inl (es1.s0 a w), ?_⟩ _ _ h4⟩
            exact (es1.ext (.of (keep sm)) (q1.same (keep sm))).mt)
      | ok gs =>
        rw [gm] at q
        have q : ∀ v H', Ext F H H' → PotOk F H' p1 → RN F S H H' (.ins c (gs.map (·.1)) (gs.map (·.2))) v → Q v H' := q
        refine fun H' fs kp hat fl => ⟨rfl, q _ H' (e1.trans (.of (keep kp))) (q1.same (keep kp)) ⟨x, rfl, ?_, C, dx, fs, mg, hat, fl.1, fl.2⟩⟩
        exact es.sub e1 q1 x hx
end
end PL

set_option Elab.async false
set_option linter.all false
set_option maxRecDepth 100000
set_option maxHeartbeats 4000000
/-! PL18: try with several except clauses, some of them with a name. -/
namespace PL
section
open PySem L2
/-- what the clauses wish of an exception of the body, one after the other -/
def wGen (K : PySem.W.Frag) (Wout : WX) (D : Ends) : List (Value × Option Nat × (Addr → Value → Option Addr → TS)) → WX
  | [] => Wout
  | (c, none, ts) :: r => fun cls d σ H => ∃ b, PySem.W.exmOne K cls c = some b ∧ (b = true → ∀ a, H a = none → ts a cls d D σ H) ∧ (b = false → wGen K Wout D r cls d σ H)
  | (c, some i, ts) :: r => fun cls d σ H => ∃ b, PySem.W.exmOne K cls c = some b ∧
    (b = true → ∀ a, H a = none → ts a cls d { nx := fun σ' H' => D.nx (σ'.set i none) H', rt := D.rt, bk := fun σ' H' => D.bk (σ'.set i none) H', ct := fun σ' H' => D.ct (σ'.set i none) H' } (σ.set i (some (.ref a))) H) ∧ (b = false → wGen K Wout D r cls d σ H)
inductive HdsG (X : Cx) : List ExceptHandler → List (Value × Option Nat × (Addr → Value → Option Addr → TS)) → Prop
  | nil : HdsG X [] []
  | cons {x : Str} {c : Value} {ts : Addr → Value → Option Addr → TS} {b₀ : Stmt} {suite : List Stmt} {np pos' : Pos} {hds : List ExceptHandler} {l : List (Value × Option Nat × (Addr → Value → Option Addr → TS))} (hc : Names X x c)
      (hsu : ∀ (a : Addr) (oe : Obj) (cls : Value) (d : Option Addr) (pn : List (Addr × Obj)), Zc cls d oe → (∃ vs, oe.data = .fields vs) → PSs (X.suite a ((a, oe) :: pn)) (b₀ :: suite) (ts a cls d)) (r : HdsG X hds l) :
      HdsG X (.ExceptHandler (some (.Name x np)) none (b₀ :: suite) pos' :: hds) ((c, none, ts) :: l)
  | consAs {x n : Str} {i : Nat} {c : Value} {ts : Addr → Value → Option Addr → TS} {b₀ : Stmt} {suite : List Stmt} {np pos' : Pos} {hds : List ExceptHandler} {l : List (Value × Option Nat × (Addr → Value → Option Addr → TS))} (hc : Names X x c) (hi : X.N[i]? = some n) (hln : X.env.kindOf n = some .local)
      (hsu : ∀ (a : Addr) (oe : Obj) (cls : Value) (d : Option Addr) (pn : List (Addr × Obj)), Zc cls d oe → (∃ vs, oe.data = .fields vs) → PSs (X.suite a ((a, oe) :: pn)) (b₀ :: suite) (ts a cls d)) (r : HdsG X hds l) :
      HdsG X (.ExceptHandler (some (.Name x np)) (some n) (b₀ :: suite) pos' :: hds) ((c, some i, ts) :: l)
variable {X : Cx} {body : List Stmt} {h₀ : ExceptHandler} {hds : List ExceptHandler} {l : List (Value × Option Nat × (Addr → Value → Option Addr → TS))} {pos : Pos} {tb : WX → TS} {Wout : WX}
theorem ps_try_gen (hs : X.stack = X.env :: X.outer) (hf : X.env.frame = some X.env.locals) (hN : X.N.Nodup) (tk : Takes X Wout)
    (hb : ∀ (W : WX) (pn : List (Addr × Obj)) (xe : Value → Shared → Prop), Takes (X.tr pn xe) W → PSs (X.tr pn xe) body (tb W))
    (hh : HdsG X (h₀ :: hds) l) : PS X (.Try body (h₀ :: hds) [] [] pos) (fun D σ H => tb (wGen X.K Wout D l) D σ H) := by
  refine ⟨fun pins s σ H D I h => ?_⟩
  have ok := I.ok
  have hfr : X.A.frames = some (X.env :: X.outer) := by rw [ok.frames, hs]
  refine wpAny_Try_except ?_
  refine wpAny_mono ((hb (wGen X.K Wout D l) (X.pn ++ pins) (fun e s₁ => wpAny (model X.prog X.w) X.A (noteFrame e X.env) (fun _ s₂ => wpAny (model X.prog X.w) X.A (setFlight e none) (fun _ s₃ =>
    wpAny (model X.prog X.w) X.A (handleBy e X.env (h₀ :: hds)) (SP X pins D) X.xe s₃) X.xe s₂) X.xe s₁) (fun u s' xx => ?_)).run [] s σ H D (I.toTry _) h) (fun f s1 hsp => ?_) (fun e s1 he => he)
  · obtain ⟨a, B, sI, pins', σ', H', cls, d, rfl, J', nb, up, sky, na, os, ag, w⟩ := xx
    have J : Inv X pins σ' H' sI := J'.ofTry ok
    have sky' : Sky B (X.env :: X.outer) a (Zc cls d) X.env.locals s'.heap := by rw [← hs]; exact sky
    show wpAny (model X.prog X.w) X.A (noteFrame (.ref a) X.env) _ _ _
    refine Sky.land Zc.steady hfr hf sky' fun h3 fl3 up3 => ?_
    have J3 : Inv X pins σ' H' { s' with heap := h3 } := J.landed nb fl3.1 (up.trans up3) os ag
    obtain ⟨oe3, vs3, he3, hz3, hd3⟩ := fl3.there
    have notFr : ∀ {h : Heap} {o : Obj} {vs : Array Value}, h.FunFrames B (X.env :: X.outer) → h.get? a = some o → o.data = .fields vs → a ∉ frs (X.env :: X.outer) := fun {h o vs} ff e dd hm => by
      obtain ⟨_, o', e', hnf⟩ := ff.mem hm
      rw [e] at e'; cases e'
      exact hnf _ dd
    have nfr := notFr fl3.2.2.1 he3 hd3
    have nL : a ≠ X.env.locals := fun z => nfr (List.mem_filterMap.mpr ⟨X.env, List.mem_cons_self, by rw [hf, z]⟩)
    have nF : a ∉ X.fs := fun hm => by
      obtain ⟨e, he, q⟩ := List.mem_filterMap.mp hm
      exact nfr (List.mem_filterMap.mpr ⟨e, List.mem_cons_of_mem _ he, q⟩)
    have S3 := J3.suite he3 hd3 na nL nF
    have go : ∀ {hds' : List ExceptHandler} {l' : List (Value × Option Nat × (Addr → Value → Option Addr → TS))}, HdsG X hds' l' → wGen X.K Wout D l' cls d σ' H' →
        wpAny (model X.prog X.w) X.A (handleBy (.ref a) X.env hds') (SP X pins D) X.xe { s' with heap := h3 } := by
      intro hds' l' hk
      induction hk with
      | nil =>
        intro w
        refine wpAny_handleBy_nil ?_
        obtain ⟨k1, k2, k3, oe, vs, T, oT, ts', he, hz, hd, h1, hr⟩ := id fl3
        unfold PySem.passOn
        refine wpAny_bind (wpAny_field he hd h1 ?_)
        rw [if_neg (show ¬ ((Value.ref T == Value.none) = true) from by simp)]
        have fin : wpAny (model X.prog X.w) X.A (setFlight (.ref a) X.env.frame) (fun _ s4 => wpAny (model X.prog X.w) X.A (throw (.ref a) : Sem Flow) (SP X pins D) X.xe s4) X.xe { s' with heap := h3 } := by
          rw [hf]
          refine HandSPX.setFlight_upZ fl3 fun h4 hh4 up4 => wpAny_throw (tk _ _ ?_)
          exact ⟨a, B, sI, pins, σ', H', cls, d, rfl, J, nb, (up.trans up3).trans up4, .inr (.inr (by rw [hs]; exact hh4)), na, os, ag, w⟩
        first
          | exact wpAny_bind (wpAny_pure (wpAny_bind fin))
          | exact wpAny_bind fin
      | @cons x c ts b₀ suite np pos' hds2 l2 hc hsu r ih =>
        intro w
        obtain ⟨b, hb1, hyes, hno⟩ := w
        refine wpAny_handleBy_cons (codeAny_handlers_test ?_) (by intro q; cases q)
        have LT : PySem.W.Looks (model X.prog X.w) h3 (typeOf (.ref a)) cls := fun A Q E s k q => wpAny_typeOf_ref (k _ _ he3) (by rw [hz3.1]; exact q)
        have LM := PySem.W.exm_one (M := model X.prog X.w) (J3.kIn) LT hb1
        have test : ∀ {Q : Value → Shared → Prop} {E : Value → Shared → Prop}, Q c { s' with heap := h3 } → wpAny (model X.prog X.w) (X.A.mark (some (.ref a))) (eval (.Name x np) X.env) Q E { s' with heap := h3 } := fun {Q E} q => by
          obtain ⟨hg, hdbg, hm | ⟨hm, hv, hnn⟩⟩ := hc
          · exact ld_glob (X := X.suite a ((a, oe3) :: (X.pn ++ pins))) S3 hg hm q hdbg
          · exact ld_blt (X := X.suite a ((a, oe3) :: (X.pn ++ pins))) S3 hg hm hv q hnn hdbg
        refine test (LM.here ?_)
        cases b with
        | true =>
          refine codeAny_handlers_suite ?_
          refine HandSPX.lands_againZ fl3 fun h4 fl4 up4 => ?_
          have J4 : Inv X pins σ' H' { s' with heap := h4 } := J.landed nb fl4.1 ((up.trans up3).trans up4) os ag
          obtain ⟨oe4, vs4, he4, hz4, hd4⟩ := fl4.there
          have S4 := J4.suite he4 hd4 na nL nF
          refine wpAny_mono ((hsu a oe4 cls d (X.pn ++ pins) hz4 ⟨_, hd4⟩).run [] _ _ H' _ S4 (hyes rfl a na)) (fun f s6 hsp => ?_) (fun _ _ z => False.elim z)
          cases f with
          | next =>
            obtain ⟨σ6, H6, S6, q6⟩ := hsp
            exact ⟨_, _, S6.unsuite ok, q6⟩
          | brk =>
            obtain ⟨σ6, H6, S6, q6⟩ := hsp
            exact ⟨_, _, S6.unsuite ok, q6⟩
          | cont =>
            obtain ⟨σ6, H6, S6, q6⟩ := hsp
            exact ⟨_, _, S6.unsuite ok, q6⟩
          | ret u =>
            obtain ⟨v6, σ6, H6, S6, r6, q6⟩ := hsp
            exact ⟨_, _, _, S6.unsuite ok, r6, q6⟩
        | false =>
          show wpAny _ X.A (handleBy (.ref a) X.env hds2) _ _ _
          exact ih (hno rfl)
      | @consAs x n i c ts b₀ suite np pos' hds2 l2 hc hi hln hsu r ih =>
        intro w
        obtain ⟨b, hb1, hyes, hno⟩ := w
        refine wpAny_handleBy_cons (codeAny_handlers_test ?_) (by intro q; cases q)
        have LT : PySem.W.Looks (model X.prog X.w) h3 (typeOf (.ref a)) cls := fun A Q E s k q => wpAny_typeOf_ref (k _ _ he3) (by rw [hz3.1]; exact q)
        have LM := PySem.W.exm_one (M := model X.prog X.w) (J3.kIn) LT hb1
        have test : ∀ {Q : Value → Shared → Prop} {E : Value → Shared → Prop}, Q c { s' with heap := h3 } → wpAny (model X.prog X.w) (X.A.mark (some (.ref a))) (eval (.Name x np) X.env) Q E { s' with heap := h3 } := fun {Q E} q => by
          obtain ⟨hg, hdbg, hm | ⟨hm, hv, hnn⟩⟩ := hc
          · exact ld_glob (X := X.suite a ((a, oe3) :: (X.pn ++ pins))) S3 hg hm q hdbg
          · exact ld_blt (X := X.suite a ((a, oe3) :: (X.pn ++ pins))) S3 hg hm hv q hnn hdbg
        refine test (LM.here ?_)
        cases b with
        | true =>
          refine codeAny_handlers_suite_as ?_
          refine HandSPX.lands_againZ fl3 fun h4 fl4 up4 => ?_
          have J4 : Inv X pins σ' H' { s' with heap := h4 } := J.landed nb fl4.1 ((up.trans up3).trans up4) os ag
          obtain ⟨oe4, vs4, he4, hz4, hd4⟩ := fl4.there
          have S4 := J4.suite he4 hd4 na nL nF
          refine store_ok (X := X.suite a ((a, oe4) :: (X.pn ++ pins))) (v := .ref a) S4 hN hi (.inl hln) rfl (fun s5 S5 => ?_) (.inr hln)
          refine wpAny_mono ((hsu a oe4 cls d (X.pn ++ pins) hz4 ⟨_, hd4⟩).run [] s5 _ H' _ S5 (hyes rfl a na)) (fun f s6 hsp => ?_) (fun _ _ z => False.elim z)
          have end_ : ∀ {σ6 : L2.St} {H6 : Hp} {Q : Shared → Prop}, Inv (X.suite a ((a, oe4) :: (X.pn ++ pins))) [] σ6 H6 s6 → (∀ s7, Inv X pins (σ6.set i none) H6 s7 → Q s7) →
              wpAny (model X.prog X.w) X.A (do bindName X.env n .none; unbindBehindTheSuite X.env n pos') (fun _ s7 => Q s7) X.xe s6 := fun {σ6 H6 Q} S6 hq => gone_ok (S6.unsuite ok) hN hi hln hq
          cases f with
          | next =>
            obtain ⟨σ6, H6, S6, q6⟩ := hsp
            exact end_ S6 fun s7 J7 => ⟨_, _, J7, q6⟩
          | brk =>
            obtain ⟨σ6, H6, S6, q6⟩ := hsp
            exact end_ S6 fun s7 J7 => ⟨_, _, J7, q6⟩
          | cont =>
            obtain ⟨σ6, H6, S6, q6⟩ := hsp
            exact end_ S6 fun s7 J7 => ⟨_, _, J7, q6⟩
          | ret u =>
            obtain ⟨v6, σ6, H6, S6, r6, q6⟩ := hsp
            exact end_ S6 fun s7 J7 => ⟨_, _, _, J7, r6, q6⟩
        | false =>
          show wpAny _ X.A (handleBy (.ref a) X.env hds2) _ _ _
          exact ih (hno rfl)
    exact go hh w
  · cases f with
    | next =>
      obtain ⟨σ', H', J', q⟩ := hsp
      exact wpAny_execs_nil ⟨σ', H', J'.ofTry ok, q⟩
    | brk =>
      obtain ⟨σ', H', J', q⟩ := hsp
      exact ⟨σ', H', J'.ofTry ok, q⟩
    | cont =>
      obtain ⟨σ', H', J', q⟩ := hsp
      exact ⟨σ', H', J'.ofTry ok, q⟩
    | ret u =>
      obtain ⟨v, σ', H', J', r, q⟩ := hsp
      exact ⟨v, σ', H', J'.ofTry ok, r, q⟩
end
open PySem L2
variable [TabL]
/-! ### try in short -/
def exEnv (N : Nat) (i : Option Nat) (x : Exc) : SEnv := match i with
  | none => List.replicate N .no
  | some i => (List.replicate N Sl.no).set i (.exc x)
def findH (hs : List (Str × Option Nat × DS)) (c : Str) : Option (Option Nat × DS) := match hs with
  | [] => none
  | (h, r) :: l => if h = c then some r else findH l c
/-- the clauses end with return -/
def sTry (N : Nat) (cs : List Str) (g : DS) (hs : List (Str × Option Nat × DS)) : DS := fun Γ p => match g Γ p with
  | .exc x => if x.c ∈ cs then (match findH hs x.c with
    | some (i, h) => if i ≠ none ∧ x.ns = [] then .bad else (match h (exEnv N i x) p with
      | .ok ((.rt d, _), p') => .ok ((.rt d, Γ), p')
      | _ => .bad)
    | none => .bad) else .bad
  | r => r
/-- which clause takes which exception -/
def CatF (K : PySem.W.Frag) (mg : Str → Option Value) (cs : List Str) (h : Str) : Prop := ∃ Ch, mg h = some (.ref Ch) ∧ ∀ c ∈ cs, ∀ C, mg c = some (.ref C) → PySem.W.exmOne K (.ref C) (.ref Ch) = some (decide (h = c))
abbrev Fr.suite (F : Fr) (a : Addr) (d : Option Addr) : Fr := { F with E := fun _ _ _ => False, exc := d.map fun dd => (a, dd) }
abbrev Fr.wE (F : Fr) (E : XK) : Fr := { F with E := E }
section
variable {F : Fr} {E : XK} {S : Addr → Prop} {Γ Γ' : SEnv} {p p' : Pot} {σ σ' : St} {H H' : Hp}
theorem ES.wE (h : ES F S Γ p σ H) : ES (F.wE E) S Γ p σ H := ⟨fun i s e => let ⟨x, e1, r⟩ := h.env i s e; ⟨x, e1, by cases s <;> exact r⟩, h.pot, h.mt, h.pa, h.s0, h.same⟩
theorem ES.ofE (h : ES (F.wE E) S Γ p σ H) : ES F S Γ p σ H := ⟨fun i s e => let ⟨x, e1, r⟩ := h.env i s e; ⟨x, e1, by cases s <;> exact r⟩, h.pot, h.mt, h.pa, h.s0, h.same⟩
theorem StOk.wE (h : StOk F Γ p σ H) : StOk (F.wE E) Γ p σ H := ⟨h.es.wE, h.fresh, h.inj, h.nS0, h.cz⟩
theorem StOk.ofE (h : StOk (F.wE E) Γ p σ H) : StOk F Γ p σ H := ⟨ES.ofE h.es, h.fresh, h.inj, h.nS0, h.cz⟩
theorem Kp.ofE (h : Kp (F.wE E) Γ σ H Γ' σ' H') : Kp F Γ σ H Γ' σ' H' := ⟨h.keep, h.ownd, h.dom⟩
end
/-- the clauses, each with its rule -/
inductive HdL (X : Cx) (F : Fr) (cs : List Str) : List ExceptHandler → List (Str × Option Nat × DS) → Prop
  | nil : HdL X F cs [] []
  | cons {x : Str} {b₀ : Stmt} {suite : List Stmt} {np pos' : Pos} {hds : List ExceptHandler} {l : List (Str × Option Nat × DS)} {g : DS} (hg : Gl X x) (hdb : (x == ("__debug__" : Str)) = false) (hc : CatF F.K F.mg cs x)
      (hsu : ∀ (a : Addr) (oe : Obj) (cls : Value) (d : Option Addr) (pn : List (Addr × Obj)), F.mg x = some cls → Zc cls d oe → (∃ vs, oe.data = .fields vs) → ESs (X.suite a ((a, oe) :: pn)) (F.suite a d) (b₀ :: suite) g) (r : HdL X F cs hds l) :
      HdL X F cs (.ExceptHandler (some (.Name x np)) none (b₀ :: suite) pos' :: hds) ((x, none, g) :: l)
  | consAs {x n : Str} {i : Nat} {b₀ : Stmt} {suite : List Stmt} {np pos' : Pos} {hds : List ExceptHandler} {l : List (Str × Option Nat × DS)} {g : DS} (hg : Gl X x) (hdb : (x == ("__debug__" : Str)) = false) (hc : CatF F.K F.mg cs x) (hi : X.N[i]? = some n) (hln : X.env.kindOf n = some .local)
      (hsu : ∀ (a : Addr) (oe : Obj) (cls : Value) (d : Option Addr) (pn : List (Addr × Obj)), F.mg x = some cls → Zc cls d oe → (∃ vs, oe.data = .fields vs) → ESs (X.suite a ((a, oe) :: pn)) (F.suite a d) (b₀ :: suite) g) (r : HdL X F cs hds l) :
      HdL X F cs (.ExceptHandler (some (.Name x np)) (some n) (b₀ :: suite) pos' :: hds) ((x, some i, g) :: l)
section
variable {X : Cx} {F : Fr} {k : Nat} {cs : List Str} {g : DS} {pos : Pos} {body : List Stmt} {h₀ : ExceptHandler} {hds : List ExceptHandler} {l : List (Str × Option Nat × DS)}
/-- the readings of the clauses -/
def tsOf (F : Fr) (x : Str) (g : DS) : Addr → Value → Option Addr → TS := fun a cls d D σ H => F.mg x = some cls ∧ tS (F.suite a d) g D σ H
def lsOf (F : Fr) : List (Str × Option Nat × DS) → List (Value × Option Nat × (Addr → Value → Option Addr → TS))
  | [] => []
  | (x, i, g) :: l => ((F.mg x).getD .none, i, tsOf F x g) :: lsOf F l
theorem PSs.cond {X : Cx} {b : List Stmt} {φ : Prop} {t : TS} (h : φ → PSs X b t) : PSs X b (fun D σ H => φ ∧ t D σ H) := ⟨fun pins s σ H D I q => (h q.1).run pins s σ H D I q.2⟩
theorem HdL.toG {hds : List ExceptHandler} {l : List (Str × Option Nat × DS)} (o : On X F k) (h : HdL X F cs hds l) : HdsG X hds (lsOf F l) := by
  induction h with
  | nil => exact .nil
  | cons hg hdb hc hsu r ih =>
    obtain ⟨Ch, hm, _⟩ := hc
    refine .cons ⟨hg, hdb, .inl (by rw [o.mg, hm]; rfl)⟩ (fun a oe cls d pn hz hf => PSs.cond fun e => hsu a oe cls d pn e hz hf) ih
  | consAs hg hdb hc hi hln hsu r ih =>
    obtain ⟨Ch, hm, _⟩ := hc
    refine .consAs ⟨hg, hdb, .inl (by rw [o.mg, hm]; rfl)⟩ hi hln (fun a oe cls d pn hz hf => PSs.cond fun e => hsu a oe cls d pn e hz hf) ih
/-- the state at a clause's entry -/
theorem suite_ok {a : Addr} {d : Option Addr} {i : Option Nat} {σ : St} {H : Hp} {x : Exc} {p : Pot} {N : Nat} (hpa : F.pa = none) (hl : σ.length = N) (sx : SameX F H) (mt : ∀ a, F.S0 a → Mut (H a)) (xa : XAt F.toWd F.S0 H d x) (hx : i ≠ none → x.ns ≠ []) :
    StOk (F.suite a d) (exEnv N i x) p (match i with | none => σ | some i => σ.set i (some (.ref a))) H := by
  have no : ∀ {j : Nat} {e : D}, (exEnv N i x)[j]? ≠ some (Sl.own e) := fun {j e} h => by
    unfold exEnv at h
    cases i with
    | none => have := List.mem_of_getElem? h; simp at this
    | some i =>
      rcases get_set_cases h with ⟨_, h, _⟩ | ⟨_, h⟩
      · cases h
      · have := List.mem_of_getElem? h; simp at this
  have sof : ∀ {σ : St} {b}, Sof (F.suite a d) (exEnv N i x) σ b → F.S0 b := fun {σ b} w => by
    rcases w with w | ⟨j, e, h, _⟩ | w
    · exact w
    · exact (no h).elim
    · have w : F.pa = some b := w
      rw [hpa] at w; cases w
  refine ⟨⟨fun j t h => ?_, fun b e => ?_, fun b w => mt b (sof w), fun b e => ?_, fun b w => .inl w, sx⟩, fun b ⟨j, e, h, _⟩ => (no h).elim, fun j l e e' b h => (no h).elim, fun b ⟨j, e, h, _⟩ => (no h).elim, fun b e => ?_⟩
  · cases i with
    | none =>
      have hj : j < N := by
        have := (List.getElem?_eq_some_iff.mp h).1
        simpa [exEnv] using this
      have ht : t = .no := by have := List.mem_of_getElem? h; simp [exEnv] at this; exact this.2
      subst ht
      exact ⟨_, List.getElem?_eq_getElem (by rw [hl]; exact hj), trivial⟩
    | some i =>
      unfold exEnv at h
      rcases get_set_cases h with ⟨rfl, rfl, hj⟩ | ⟨hj, h⟩
      · rw [List.length_replicate] at hj
        refine ⟨some (.ref a), List.getElem?_set_self (by rw [hl]; exact hj), ?_⟩
        rcases xa with ⟨e1, _⟩ | ⟨dd, fs, e1, e2, e3, r⟩
        · exact absurd e1 (hx (fun z => nomatch z))
        · subst e1
          refine ⟨a, dd, fs, rfl, rfl, e2, e3, Reps.goes ⟨fun _ _ h _ _ => h, fun b w => .inl (sof w), mt⟩ _ _ r⟩
      · have hjN : j < N := by
          have := (List.getElem?_eq_some_iff.mp h).1
          simpa using this
        have ht : t = .no := by have := List.mem_of_getElem? h; simp at this; exact this.2
        subst ht
        exact ⟨_, by rw [List.getElem?_set_ne (Ne.symm hj)]; exact List.getElem?_eq_getElem (by rw [hl]; exact hjN), trivial⟩
  · have e : F.pa = some b := e
    rw [hpa] at e; cases e
  · have e : F.pa = some b := e
    rw [hpa] at e; cases e
  · have e : F.pa = some b := e
    rw [hpa] at e; cases e
theorem es_try (o : On X F k) (hpa : F.pa = none) (hs : X.stack = X.env :: X.outer) (hf : X.env.frame = some X.env.locals)
    (hb : ∀ (pn : List (Addr × Obj)) (xe : Value → Shared → Prop) (E : XK), On (X.tr pn xe) (F.wE E) k → ESs (X.tr pn xe) (F.wE E) body g) (hh : HdL X F cs (h₀ :: hds) l) :
    ES1 X F (.Try body (h₀ :: hds) [] [] pos) (sTry X.N.length cs g l) := by
  refine PS.weak (ps_try_gen (Wout := fun _ _ _ _ => False) (tb := fun W D σ H => tS (F.wE fun cls d H' => ∀ σ', σ'.length = X.N.length → W cls d σ' H') g D σ H) hs hf o.nd takes_none5 (fun W pn xe tk => ?_) (HdL.toG o hh)) fun D σ H q => ?_
  · refine hb pn xe _ ⟨o.P, o.w, o.K, o.mg, o.room, o.nd, o.calm, fun u s' ⟨a, B, sI, pins, σ, H, cls, d, e, I, nb, up, sky, na, os, ag, w⟩ => ?_⟩
    exact tk u s' ⟨a, B, sI, pins, σ, H, cls, d, e, I, nb, up, sky, na, os, ag, w σ I.len⟩
  · obtain ⟨Γ, p, st, q⟩ := q
    refine ⟨Γ, p, st.wE, ?_⟩
    unfold sTry at q
    cases e : g Γ p with
    | bad => rw [e] at q; exact q.elim
    | ok r =>
      obtain ⟨⟨fl, Γ1⟩, p1⟩ := r
      rw [e] at q
      cases fl with
      | nx => exact fun σ' H' kp s => q σ' H' kp.ofE s.ofE
      | bk => exact fun σ' H' kp s => q σ' H' kp.ofE s.ofE
      | ct => exact fun σ' H' kp s => q σ' H' kp.ofE s.ofE
      | rt d => exact q
    | exc x =>
      rw [e] at q
      dsimp only at q
      split at q
      · rename_i hcs
        intro C dx H' hm sx mt xa σ' hl
        rw [o.K]
        clear hb o e
        generalize h₀ :: hds = hds' at hh
        induction hh with
        | nil => exact q.elim
        | @cons y b₀ suite np pos' hds2 l2 g2 hg hdb hc hsu r ih =>
          obtain ⟨Ch, hmy, hex⟩ := hc
          unfold findH at q
          show ∃ b, _
          refine ⟨decide (y = x.c), ?_, fun hb a na => ?_, fun hb => ?_⟩
          · rw [hmy]; exact hex x.c hcs C hm
          · have hy : y = x.c := of_decide_eq_true hb
            subst hy
            rw [if_pos rfl] at q
            dsimp only at q
            rw [if_neg (fun z => z.1 rfl)] at q
            refine ⟨hm, _, p, suite_ok (i := none) (x := x) hpa hl sx mt xa (fun z => absurd rfl z), ?_⟩
            cases eh : g2 (exEnv X.N.length none x) p with
            | bad => rw [eh] at q; exact q.elim
            | exc z => rw [eh] at q; exact q.elim
            | ok r =>
              obtain ⟨⟨fl, Γ1⟩, p1⟩ := r
              rw [eh] at q
              cases fl with
              | nx => exact q.elim
              | bk => exact q.elim
              | ct => exact q.elim
              | rt d => exact q
          · have hy : ¬ y = x.c := of_decide_eq_false hb
            rw [if_neg hy] at q
            exact ih q hm sx mt xa
        | @consAs y n i b₀ suite np pos' hds2 l2 g2 hg hdb hc hi hln hsu r ih =>
          obtain ⟨Ch, hmy, hex⟩ := hc
          unfold findH at q
          show ∃ b, _
          refine ⟨decide (y = x.c), ?_, fun hb a na => ?_, fun hb => ?_⟩
          · rw [hmy]; exact hex x.c hcs C hm
          · have hy : y = x.c := of_decide_eq_true hb
            subst hy
            rw [if_pos rfl] at q
            dsimp only at q
            split at q
            · exact q.elim
            · rename_i hns
              refine ⟨hm, _, p, suite_ok (i := some i) (x := x) hpa hl sx mt xa (fun z hn => hns ⟨z, hn⟩), ?_⟩
              cases eh : g2 (exEnv X.N.length (some i) x) p with
              | bad => rw [eh] at q; exact q.elim
              | exc z => rw [eh] at q; exact q.elim
              | ok r =>
                obtain ⟨⟨fl, Γ1⟩, p1⟩ := r
                rw [eh] at q
                cases fl with
                | nx => exact q.elim
                | bk => exact q.elim
                | ct => exact q.elim
                | rt d => exact q
          · have hy : ¬ y = x.c := of_decide_eq_false hb
            rw [if_neg hy] at q
            exact ih q hm sx mt xa
      · exact q.elim
end
/-! ### a caught exception's field -/
def xOf (n : Str) : Option Sl → Option D
  | some (.exc x) => (x.ns.zip x.as).lookup n
  | _ => none
theorem xOf_some {n : Str} {s : Option Sl} {d : D} (h : xOf n s = some d) : ∃ x, s = some (.exc x) ∧ (x.ns.zip x.as).lookup n = some d := by
  cases s with
  | none => cases h
  | some s => cases s <;> first | exact ⟨_, rfl, h⟩ | cases h
def eXf (i : Nat) (n : Str) : SEnv → M D := fun Γ => ofOpt (xOf n Γ[i]?)
def XfE (K : PySem.W.Frag) (mg : Str → Option Value) (c n : Str) : Prop := ∃ C, mg c = some (.ref C) ∧ XfC K C ∧ PySem.W.findIn K (.ref C) n = some none
theorem lookup_reps {W : Wd} {S : Addr → Prop} {H : Hp} {n : Str} {d : D} : ∀ {ns : List Str} {ds : List D} {fs : List (Str × V)}, fs.map (·.1) = ns → Reps W S H ds (fs.map (·.2)) → (ns.zip ds).lookup n = some d → ∃ v, fs.lookup n = some v ∧ Rep W S H d v
  | _, ds, [], e, r, h => by
    cases e
    cases h
  | _, ds, (m, y) :: fs, e, r, h => by
    subst e
    cases ds with
    | nil => cases h
    | cons d0 ds =>
      rw [List.map_cons] at r
      unfold Reps at r
      obtain ⟨v, r', e1, h1, h2⟩ := r
      cases e1
      rw [List.map_cons, List.zip_cons_cons] at h
      by_cases hn : n = m
      · subst hn
        simp [List.lookup] at h
        subst h
        exact ⟨y, by simp [List.lookup], h1⟩
      · have hb : (n == m) = false := by simpa using hn
        simp only [List.lookup, hb] at h ⊢
        exact lookup_reps rfl h2 h
theorem ev_xf (i : Nat) {X : Cx} {F : Fr} {a : Addr} {oe : Obj} {cls : Value} {d : Option Addr} {pn : List (Addr × Obj)} {e c n : Str} {p1 pos : Pos} (hK : X.K = F.K) (T : XfE F.K F.mg c n) (hm : F.mg c = some cls) (hz : Zc cls d oe) (hf : ∃ vs, oe.data = .fields vs)
    (hN : X.N[i]? = some e := by rfl) (hv : Vis X.env.scope e := by first | exact Or.inl rfl | exact Or.inr (Or.inl rfl) | exact Or.inr (Or.inr rfl)) (hd : (e == ("__debug__" : Str)) = false := by decide) (hcd : (e == ("__classdict__" : Str)) = false := by decide)
    (hb : attributeBase (.Name e p1) n X.env (eval (.Name e p1) X.env) = eval (.Name e p1) X.env := by rfl) : EV (X.suite a ((a, oe) :: pn)) (F.suite a d) (.Attribute (.Name e p1) n pos) (eXf i n) := by
  obtain ⟨C, hC, T, hno⟩ := T
  have ec : cls = .ref C := by rw [hC] at hm; exact (Option.some.inj hm).symm
  rw [← hK] at T hno
  refine PE.weak (pe_xf (cls := cls) (d := d) T hno hz hf (pe_var (X := X.suite a ((a, oe) :: pn)) hN hv hd hcd) hb) fun σ H Q q => ?_
  obtain ⟨S, Γ, p, es, q⟩ := q
  obtain ⟨y, e2, q⟩ := out_opt.mp q
  obtain ⟨x, hx, e2⟩ := xOf_some e2
  obtain ⟨xs, ex, a', d', fs, rfl, e1, e3, e4, r⟩ := es.env i _ hx
  cases d with
  | none => cases e1
  | some dd =>
    cases e1
    obtain ⟨v, e5, rv⟩ := lookup_reps e4 r e2
    exact ⟨_, ex, rfl, ec, _, fs, v, rfl, e3, e5, q v H .refl es.pot rv⟩
end PL

set_option Elab.async false
set_option linter.all false
set_option maxRecDepth 100000
set_option maxHeartbeats 4000000
/-! PL19: str, repr. -/
namespace PL
open PySem L2
variable [TabL]
def reprD : List D → Option D
  | [.int i] => if i.natAbs.log2 < 1920 then some (.str (toString i)) else none
  | [.bl b] => some (.str (if b then "True" else "False"))
  | [.non] => some (.str "None")
  | _ => none
section
variable {X : Cx} {F : Fr}
theorem call_repr_bn : CallR X (.builtin "repr") (fun xs H Q => (∃ b, xs = [.bl b] ∧ Q (.str (if b then "True" else "False")) H) ∨ (xs = [.non] ∧ Q (.str "None") H)) := by
  intro pins s σ H xs us Q I r h
  rcases h with ⟨b, rfl, q⟩ | ⟨rfl, q⟩
  · cases r with
    | cons h1 h2 =>
      cases h2
      cases h1
      exact PySem.P.repr_of_bool ⟨.str _, H, I.tok _, ⟨_, rfl⟩, q⟩
  · cases r with
    | cons h1 h2 =>
      cases h2
      cases h1
      exact PySem.P.repr_of_none ⟨.str _, H, I.tok _, ⟨_, rfl⟩, q⟩
theorem cd_repr : CallD F (fun xs H Q => (∃ i, xs = [.int i] ∧ i.natAbs.log2 < 1920 ∧ Q (.str (toString i)) H) ∨ ((∃ b, xs = [.bl b] ∧ Q (.str (if b then "True" else "False")) H) ∨ (xs = [.non] ∧ Q (.str "None") H))) reprD RV := by
  intro S H0 H ds d vs Q mt hn r e kk
  unfold reprD at e
  split at e
  · obtain ⟨v, rfl, r1⟩ := pir1 r
    obtain ⟨hl, rfl⟩ := ite_sm e
    rw [r1.int]
    exact .inl ⟨_, rfl, hl, kk _ H (Same.refl _) rep_s⟩
  · obtain ⟨v, rfl, r1⟩ := pir1 r
    cases e
    rw [r1.bl]
    exact .inr (.inl ⟨_, rfl, kk _ H (Same.refl _) rep_s⟩)
  · obtain ⟨v, rfl, r1⟩ := pir1 r
    cases e
    rw [r1.non]
    exact .inr (.inr ⟨rfl, kk _ H (Same.refl _) rep_s⟩)
  · cases e
end
section
variable {X : Cx} {F : Fr} {k : Nat} {a : Expr} {fs : SEnv → M (List D)} {pos : Pos} {p : Pos}
theorem ev_reprM (hmg : X.mg = F.mg) (hm : F.mg "repr" = none) (hg : Gl X "repr") (ha : EA true X F [a] fs) (h1 : starEach [a] X.env = (false, eval a X.env) :: starEach [] X.env := by rfl) : EV X F (.Call (.Name "repr" p) [a] [] pos) (eCall reprD fs) :=
  ev_callB (SkE.call_repr_int.or call_repr_bn) cd_repr hg (by rw [hmg]; exact hm) (by decide +kernel) ha (he := h1)
theorem ev_repr (o : On X F k) (hm : F.mg "repr" = none) (hg : Gl X "repr") (ha : EA true X F [a] fs) (h1 : starEach [a] X.env = (false, eval a X.env) :: starEach [] X.env := by rfl) : EV X F (.Call (.Name "repr" p) [a] [] pos) (eCall reprD fs) := ev_reprM o.mg hm hg ha h1
theorem ev_str1 (o : On X F k) (hm : F.mg "str" = none) (hg : Gl X "str") (ha : EA true X F [a] fs) (h1 : starEach [a] X.env = (false, eval a X.env) :: starEach [] X.env := by rfl) : EV X F (.Call (.Name "str" p) [a] [] pos) (eCall strD fs) :=
  ev_callTy (call_str_int.or SkE.call_str_str) cd_str hg (by rw [o.mg]; exact hm) (by decide +kernel) ha (he := h1)
end
end PL

set_option Elab.async false
set_option linter.all false
set_option maxRecDepth 100000
set_option maxHeartbeats 4000000
/-! PL20: a lambda without parameters, handed to a def that calls it. -/
namespace PL

open PySem L2 LamX
variable [TabL]

section
variable {X : Cx} {pins : List (Addr × Obj)} {σ : L2.St} {H : Hp} {s : Shared}
/-- the lambda is made; what became of the heap -/
theorem lam_mk {T : List (Addr × Str)} {c P : Addr} {params : Arguments} {body : Expr} {scope : Scope} {pos : Pos} {E : Value → Shared → Prop} {Q : Value → Shared → Prop} (I : Inv X pins σ H s) (TB : TabB X.base X.mg c P) (hcode : X.env.code = .ref c)
    (hm : (P, X.env.qual ++ "<lambda>") ∈ T) (hu : ∀ p ∈ T, p.1 = P → p.2 = X.env.qual ++ "<lambda>") (hT : Tabs T H) (hdef : defaultsOf params X.env = ([], [])) (hfree : ∀ y ∈ scope.names, y.2 = .free → ∃ c, X.env.cells.lookup y.1 = some c)
    (h : ∀ (f c' : Addr) (pm ctv : Value) (H1 : Hp) (s' : Shared), Inv X pins σ H1 s' → (H1 = H ∨ ∃ ps more, H P = some (.tbl ps) ∧ H c' = none ∧ H1 = upd (upd H P (.tbl more)) c' (CodeO c' (X.env.qual ++ "<lambda>"))) → Tabs T H1 →
      s'.heap.get? f = some (PySem.W.kla_obj "<lambda>" (X.env.qual ++ "<lambda>") params body scope (cloFrom X.env.cells scope.names []) pm c' ctv) → H1 f = none → f ∉ frs X.stack → H1 c' = some (CodeO c' (X.env.qual ++ "<lambda>")) → Q (.ref f) s') :
    wpAny (model X.prog X.w) X.A (eval (.Lambda params body scope pos) X.env) Q E s := by
  obtain ⟨ps, hP, ht, ha⟩ := hT _ hm
  have bP : s.heap.BuiltinsAt X.mg P := TB.bm.keeps I.bk
  have hP' : s.heap.get? P = some { cls := .none, data := .fields ps } := I.hok P _ hP
  have nofr : ∀ f, s.heap.objs.size ≤ f → f ∉ frs X.stack := fun f hf z =>
    (List.mem_cons.mp (I.stkSub _ z)).elim (fun e => Nat.lt_irrefl _ (Nat.lt_of_lt_of_le (e ▸ I.lt) hf)) (I.nofs hf)
  refine PySem.W.kla_eval hdef ?_
  cases hc : codeAmong pos ps.toList with
  | some cv =>
    obtain ⟨c', e, hco⟩ := ha pos cv hc
    subst e
    refine PySem.W.kla_makeFunctionHit (mg := X.mg) (c := c) (P := P) (ps := ps) (closure_ok hfree) I.ok.glob (I.mod.glob.keeps I.bk) hcode (TB.code.keeps I.bk) hP' ht hc bP fun ctv h' tk hx hsz => ?_
    exact h h'.objs.size c' _ ctv H _ (I.kept (t' := tk) fun b o e => Heap.get?_push_of_some _ (hx b o e)) (.inl rfl) hT (Heap.get?_push_size _ rfl) (I.hok.fresh hsz) (nofr _ hsz) hco
  | none =>
    refine PySem.W.kla_makeFunction (mg := X.mg) (c := c) (P := P) (ps := ps) (closure_ok hfree) I.ok.glob (I.mod.glob.keeps I.bk) hcode (TB.code.keeps I.bk) hP' ht hc TB.gP bP fun c' ctv h' tk hx hge hlt hrec htb => ?_
    obtain ⟨c2, oc, vs, t, e2, hoc, hd, hv⟩ := hrec
    cases e2
    have hsz : s.heap.objs.size ≤ h'.objs.size := Nat.le_trans hge (Nat.le_of_lt hlt)
    have nC : H c' = none := I.hok.fresh hge
    have I1 := inv_table (t' := tk) (more := #[rawInt pos.line, rawInt pos.col, .ref c']) I hP (fun b o hb e => Heap.get?_push_of_some (PySem.W.kla_obj "<lambda>" (X.env.qual ++ "<lambda>") params body scope (cloFrom X.env.cells scope.names []) ((X.mg "__name__").getD .none) c' ctv) (hx b o hb e))
      (Heap.get?_push_of_some _ htb) hge ⟨oc, vs, t, Heap.get?_push_of_some _ hoc, hd, hv⟩
    have stays : ∀ b o, H b = some o → (∀ ps, o ≠ .tbl ps) → upd (upd H P (.tbl (ps ++ #[rawInt pos.line, rawInt pos.col, .ref c']))) c' (CodeO c' (X.env.qual ++ "<lambda>")) b = some o := fun b o e n => by
      have hbP : b ≠ P := fun z => by rw [z, hP] at e; exact n ps (Option.some.inj e).symm
      rw [upd_ne (ne_of_none e nC), upd_ne hbP]; exact e
    refine h h'.objs.size c' _ ctv _ _ I1 (.inr ⟨ps, _, hP, nC, rfl⟩) (fun p hp => ?_) (Heap.get?_push_size _ rfl) ?_ (nofr _ hsz) upd_same
    · by_cases hb : p.1 = P
      · rw [hu p hp hb, hb]
        refine ⟨_, by rw [upd_ne (ne_of_none hP nC), upd_same], ?_, fun p' cv hcv => ?_⟩
        · rw [Array.toList_append]
          exact PySem.TriplesOk_snoc _ _ _ _ ht
        · rw [Array.toList_append] at hcv
          rcases among_app _ ht hcv with z | z
          · obtain ⟨c0, e1, e2⟩ := ha p' cv z
            exact ⟨c0, e1, stays _ _ e2 codeO_ne⟩
          · exact ⟨c', z, upd_same⟩
      · obtain ⟨ps', a1, a2, a3⟩ := hT p hp
        refine ⟨ps', by rw [upd_ne (ne_of_none a1 nC), upd_ne hb]; exact a1, a2, fun p' cv hcv => ?_⟩
        obtain ⟨c0, e1, e2⟩ := a3 p' cv hcv
        exact ⟨c0, e1, stays _ _ e2 codeO_ne⟩
    · have n1 : h'.objs.size ≠ c' := Nat.ne_of_gt hlt
      have n2 : h'.objs.size ≠ P := Nat.ne_of_gt (Nat.lt_of_lt_of_le (Heap.lt_size hP') hsz)
      rw [upd_ne n1, upd_ne n2]
      exact I.hok.fresh hsz
end
/-- the heap behind a lambda's making -/
theorem kept_lam {X : Addr → Prop} {H H1 : Hp} {P c' : Addr} {q : Str} (h : H1 = H ∨ ∃ ps more, H P = some (.tbl ps) ∧ H c' = none ∧ H1 = upd (upd H P (.tbl more)) c' (CodeO c' q)) (t : Tabs TabL.T H1) : Kept X H H1 := by
  rcases h with rfl | ⟨ps, more, hP, hc, rfl⟩
  · exact Kept.refl
  · refine ⟨fun a o e _ nt => ?_, fun a qs e => ?_, fun _ => t⟩
    · rw [upd_ne (ne_of_none e hc), upd_ne (fun z => by rw [z, hP] at e; exact nt ps (Option.some.inj e).symm)]; exact e
    · rw [upd_ne (ne_of_none e hc)]
      by_cases ha : a = P
      · exact ⟨more, by rw [ha, upd_same]⟩
      · exact ⟨qs, by rw [upd_ne ha]; exact e⟩

abbrev noX : XK := fun _ _ _ => False
/-- what a def makes of the lambda's reading tl -/
def GivesR (X : Cx) (Ng : List Str) (x : Str) (sg : Scope) (g : Addr) (cdg : Value) (bg : List Stmt) (a q : Str) (k : Nat) (TT : (XK → Hp → VK → Prop) → Hp → VK → Prop) : Prop :=
  ∀ (f c' : Addr) (s : Shared) (H : Hp) (Q : VK) (tl : XK → Hp → VK → Prop), Room (k + 1) (X.A.deeper (PyProof.Rows.envOfC x sg s.heap.objs.size g cdg)) →
    (∀ (W : WX) (pn : List (Addr × Obj)) (xe : Value → Shared → Prop) (E : XK) (p1 p2 : Pos), Takes ((cxOf (L2.CX X.prog X.w) X.prog X.w X.K X.mg X.base Ng x sg g cdg X.A X.stack s H noX).tr pn xe) W → (∀ cls d σ' H', E cls d H' → W cls d σ' H') →
      PE ((cxOf (L2.CX X.prog X.w) X.prog X.w X.K X.mg X.base Ng x sg g cdg X.A X.stack s H noX).tr pn xe) (.Call (.Name a p1) [] [] p2) (fun σZ HZ Q => σZ[0]? = some (some (.ref f)) ∧ HZ c' = some (CodeO c' q) ∧ tl E HZ Q)) →
    H c' = some (CodeO c' q) → TT tl H Q →
    ∃ t, PSs (cxOf (L2.CX X.prog X.w) X.prog X.w X.K X.mg X.base Ng x sg g cdg X.A X.stack s H noX) bg t ∧ t { nx := fun _ H' => Q .non H', rt := Q } (L2.start Ng [.ref f]) H
def tLamR (q : Str) (TT : (XK → Hp → VK → Prop) → Hp → VK → Prop) (t : XK → TE) : TE := fun σ H Q => Tabs TabL.T H ∧ ∀ H1, Same H H1 → (∀ b, H1 b = none → H b = none) → TT (fun E H' Q' => t E σ H' Q') H1 Q
section
variable {X : Cx}
/-- the call of what was got, where the lambda's text is known only where no guard is set -/
theorem pe_got {pins : List (Addr × Obj)} {σ : L2.St} {H : Hp} {s : Shared} {Ng : List Str} {qg : Str} {sg : Scope} {g f c' : Addr} {cdg pm ctv : Value} {params : Arguments} {body : Expr} {scope : Scope} {k i : Nat} {a : Str} {pn : List (Addr × Obj)} {xe : Value → Shared → Prop} {W : WX} {E : XK} {tb : TE} {p1 p2 : Pos}
    (I : Inv X pins σ H s) (L : LamS X.env.scope scope) (hf : s.heap.get? f = some (PySem.W.kla_obj "<lambda>" (X.env.qual ++ "<lambda>") params body scope (cloFrom X.env.cells scope.names []) pm c' ctv)) (hfn : H f = none) (hfr : f ∉ frs X.stack)
    (hbind : bindArgs (PySem.W.kla_fn "<lambda>" (X.env.qual ++ "<lambda>") params body scope (cloFrom X.env.cells scope.names []) pm (.ref c') ctv) ⟨[], []⟩ = pure [])
    (tk : Takes ((cxOf (L2.CX X.prog X.w) X.prog X.w X.K X.mg X.base Ng qg sg g cdg X.A X.stack s H noX).tr pn xe) W) (hW : ∀ cls d σ' H', E cls d H' → W cls d σ' H') (r : Room (k + 1) (X.A.deeper (PyProof.Rows.envOfC qg sg s.heap.objs.size g cdg)))
    (hbody : ∀ (A : Around) (fr : List Env) (s : Shared) (H : Hp), Room k (A.deeper (lamEnv X scope s.heap.objs.size f c')) → PE (lamCx X A fr s H E scope f c') body tb) (hN : Ng[i]? = some a) (hv : Vis sg a) (hd : (a == ("__debug__" : Str)) = false := by decide) (hcd : (a == ("__classdict__" : Str)) = false := by decide) :
    PE ((cxOf (L2.CX X.prog X.w) X.prog X.w X.K X.mg X.base Ng qg sg g cdg X.A X.stack s H noX).tr pn xe) (.Call (.Name a p1) [] [] p2) (fun σZ HZ Q => σZ[i]? = some (some (.ref f)) ∧ HZ c' = some (CodeO c' (X.env.qual ++ "<lambda>")) ∧ tb σ HZ Q) := by
  refine ⟨fun pz sz σz HZ Q IZ ⟨hs, hc, ht⟩ => ?_⟩
  refine wpAny_Call_Name_kw (thn ((pe_var (pos := p1) (i := i) hN hv hd hcd).run pz sz σz HZ (fun v H1 => v = .ref f ∧ H1 = HZ) IZ ⟨.ref f, hs, rfl, rfl⟩) fun u s1 ⟨v, H1, J, rv, ev, eH⟩ => ?_)
  cases ev
  cases eH
  cases (show u = Value.ref f from rv)
  have ob := J.base.keep f _ hf hfn hfr fun z => nomatch (show f ∈ ([] : List Addr) from z)
  obtain ⟨⟨oc, us, t, ho, hdc, hvc⟩, _, _⟩ := J.hok c' _ hc
  have un : Un (frs X.stack) [] H HZ s.heap s1.heap := J.base
  refine PySem.W.callWith_F0 ⟨_, _, _, _, ob⟩ (wpAny_call (codeAny_mono (?_ : codeAny (model X.prog X.w) (X.A.deeper (PyProof.Rows.envOfC qg sg s.heap.objs.size g cdg)) (.call (.ref f) ⟨[], []⟩) (CR (L2.CX X.prog X.w) (PyProof.Rows.envOfC qg sg s.heap.objs.size g cdg :: X.stack) X.prog X.w HZ s1 Q E) s1) fun z s2 hz => ?_))
  · refine PySem.W.kla_callFunE r.toRoom.depth ob rfl L.co L.gen rfl ⟨c', oc, us, t, rfl, ho, hdc, hvc⟩ ?_
    rw [hbind]
    refine wpAny_pure (wpAny_newFunctionEnv (fun y z => (L.own y z).2) (fun y z => absurd z (by simp)) (fun h2 ns sb => ⟨J.nolimit.fresh _ sb, ?_⟩) L.kind)
    show codeAny _ _ (.expr body (lamEnv X scope s1.heap.objs.size f c')) _ _
    have kp : ∀ b o, s1.heap.get? b = some o → h2.get? b = some o := fun b o e => sb.extBut b o (Nat.ne_of_lt (Heap.lt_size e)) (Heap.get?_push_of_some _ e)
    have J2 : Inv (lamCx X (X.A.deeper (PyProof.Rows.envOfC qg sg s.heap.objs.size g cdg)) (PyProof.Rows.envOfC qg sg s.heap.objs.size g cdg :: X.stack) s1 HZ E scope f c') [] σ HZ { s1 with heap := h2, toks := s1.toks + ([] : List (Str × Value)).length } :=
      lam_start2 I L J.env0 r.hd un ns kp
    refine PySem.W.kla_codeExpr (wpAny_mono ((hbody _ _ s1 HZ (r.deeper _)).run [] _ _ HZ Q J2 ht) (fun v s3 hq => ?_) fun _ _ z => z)
    exact hq.elim fun w1 h => h.elim fun H3 h => ⟨w1, H3, h.1.os, h.1.bare, h.1.base, h.1.hok, h.2.1, h.2.2⟩
  · rcases z with z | z
    · exact (passes_call tk hW : Passes (L2.CX X.prog X.w) ((cxOf (L2.CX X.prog X.w) X.prog X.w X.K X.mg X.base Ng qg sg g cdg X.A X.stack s H noX).tr pn xe) E) pz σz HZ s1 z s2 J hz
    · cases z <;> first | exact J.after hz | exact False.elim hz
theorem pe_lamc {TT : (XK → Hp → VK → Prop) → Hp → VK → Prop} {x a : Str} {g c P : Addr} {k : Nat} {pg : Arguments} {bg : List Stmt} {sg : Scope} {dV kV doc pm cdv ct oc : Value} {an od : Option Addr} {osl : Array (Option Value)} {Ng : List Str}
    {params : Arguments} {body : Expr} {scope : Scope} {t : XK → TE} {p lpos pos : Pos} (hg : Gl X x) (hm : X.mg x = some (.ref g)) (hk : PySem.W.keepIn X.K (.ref g) = true)
    (lk : X.K.lookup g = some ⟨oc, od, .func (PySem.W.fnOf x x pg bg sg dV kV doc pm an cdv ct), osl⟩) (hcg : PySem.W.codeIn X.K cdv x = true) (hb : L2.Binds X.K (PySem.W.fnOf x x pg bg sg dV kV doc pm an cdv ct) [a] []) (Sg : FnScope Ng [a] sg) (hNg : Ng[0]? = some a) (hva : Vis sg a)
    (hG : GivesR X Ng x sg g cdv bg a (X.env.qual ++ "<lambda>") k TT)
    (TB : TabB X.base X.mg c P) (hcode : X.env.code = .ref c) (hmT : (P, X.env.qual ++ "<lambda>") ∈ TabL.T) (hu : ∀ p ∈ TabL.T, p.1 = P → p.2 = X.env.qual ++ "<lambda>") (hr : Room (k + 2) X.A) (L : LamS X.env.scope scope) (hdef : defaultsOf params X.env = ([], []))
    (hbind : ∀ (q : Str) (cl : List (Str × Addr)) (pm cv ctv : Value), bindArgs (PySem.W.kla_fn "<lambda>" q params body scope cl pm cv ctv) ⟨[], []⟩ = pure [])
    (hbody : ∀ (A : Around) (outer : List Env) (s : Shared) (H : Hp) (E : XK) (f c' : Addr), Room k (A.deeper (lamEnv X scope s.heap.objs.size f c')) → PE (lamCx X A outer s H E scope f c') body (t E))
    (hdb : (x == ("__debug__" : Str)) = false := by decide) (hd : (a == ("__debug__" : Str)) = false := by decide) (hcd : (a == ("__classdict__" : Str)) = false := by decide) :
    PE X (.Call (.Name x p) [.Lambda params body scope lpos] [] pos) (tLamR (X.env.qual ++ "<lambda>") TT t) := by
  refine ⟨fun pins s σ H Q I h => ?_⟩
  obtain ⟨hT, h⟩ := h
  refine wpAny_Call_Name_kw (ld_glob I hg hm ?_ hdb)
  refine PySem.W.callWith_K (h₀ := X.base) I.ok.mod.kin hk ?_ (by rfl) (by rfl)
  show wpAny _ _ (spliced ((false, eval (.Lambda params body scope lpos) X.env) :: backTo pos (starEach [] X.env))) _ _ s
  refine PySem.Calls.spliced_cons (lam_mk I TB hcode hmT hu hT hdef (L.has I.ok) fun f c' pm' ctv H1 s' I1 hH1 T1 hf hfn hfr hco => PySem.Calls.spliced_nil ⟨I1.kIn, wpAny_call (codeAny_mono (?_ : codeAny (model X.prog X.w) X.A (.call (.ref g) ⟨[.ref f], []⟩) (CR (L2.CX X.prog X.w) X.stack X.prog X.w H1 s' Q noX) s') fun r s2 hq => ?_)⟩)
  · have k1 : Same H H1 := kept_lam hH1 T1
    refine run_ofS (N := Ng) (ps := [a]) (us := [.ref f]) (vs := [.ref f]) lk hcg Sg hr.toRoom I1.env0 (hb s' [.ref f] I1.kIn rfl) (.cons rfl .nil) rfl fun hr1 => ?_
    have hr' : Room (k + 1) (X.A.deeper (PyProof.Rows.envOfC x sg s'.heap.objs.size g cdv)) := ⟨hr1, hr.gd⟩
    exact hG f c' s' H1 Q (fun E H' Q' => t E σ H' Q') hr' (fun W pn xe E p1 p2 tk hW => pe_got (i := 0) I1 L hf hfn hfr (hbind _ _ _ _ _) tk hW hr' (fun A outer s H hr2 => hbody A outer s H E f c' hr2) hNg hva hd hcd) hco (h H1 k1 fun b e => k1.none (fun z => z.elim) e)
  · cases r with
    | error e =>
      obtain ⟨a, B, H', cls, d, _, _, _, _, _, _, _, z⟩ := (show L2.CX X.prog X.w X.stack H1 s' noX e s2 from hq)
      exact False.elim z
    | ok fl =>
      cases fl with
      | ret u => exact I1.after hq
      | next => exact False.elim hq
      | brk => exact False.elim hq
      | cont => exact False.elim hq
end

/-! ### the def that calls what it got -/
def THK (W : Wd) (S : Addr → Prop) (H1 : Hp) (o : Out D) (tl : XK → Hp → VK → Prop) : Prop := ∀ (HZ : Hp) (S' : Addr → Prop) (E : XK) (Q : VK), Same H1 HZ → (∀ a, S a → S' a) → (∀ a, S' a → S a ∨ H1 a = none) → (∀ a, S' a → Mut (HZ a)) →
  (match o with
  | .ok d => ∀ v H', Same HZ H' → Rep W S' H' d v → Q v H'
  | .exc x => ∀ C dx H', W.mg x.c = some (.ref C) → Same HZ H' → XAt W S' H' dx x → E (.ref C) dx H'
  | .bad => False) → tl E HZ Q
def TThk (W : Wd) (q : Str) (m : Out D → Out D) : (XK → Hp → VK → Prop) → Hp → VK → Prop := fun tl H Q => ∃ (S : Addr → Prop) (o : Out D), (∀ a, S a → Mut (H a)) ∧ (∀ a, S a → H a ≠ some (CodeO a q)) ∧ THK W S H o tl ∧ match m o with
  | .ok d => ∀ v H', Same H H' → Rep W S H' d v → Q v H'
  | _ => False
/-- the call of what was got -/
def ThkC (X : Cx) (F : Fr) (k : Nat) (a q : Str) (o : Out D) : Prop := ∃ (f c : Addr) (tl : XK → Hp → VK → Prop), F.exc = some (f, c) ∧ THK F.toWd F.S0 F.H0 o tl ∧
  ∀ (p1 p2 : Pos), PE X (.Call (.Name a p1) [] [] p2) (fun σZ HZ Q => σZ[0]? = some (some (.ref f)) ∧ HZ c = some (CodeO c q) ∧ tl F.E HZ Q)
def isThk (q : Str) : Option Sl → Option Unit
  | some (.thk q') => if q' = q then some () else none
  | _ => none
theorem isThk_some {q : Str} {s : Option Sl} {u : Unit} (h : isThk q s = some u) : s = some (.thk q) := by
  cases s with
  | none => cases h
  | some s =>
    cases s with
    | thk q' =>
      have h : (if q' = q then some () else none) = some u := h
      by_cases e : q' = q
      · rw [e]
      · rw [if_neg e] at h; cases h
    | _ => cases h
def sThkA (q : Str) (o : Out D) (i : Nat) : DS := fun Γ => do let _ ← ofOpt (isThk q Γ[0]?); let d ← M.lift o; pure (.nx, Γ.set i (.val d))
def sThkD (q : Str) (o : Out D) : DS := fun Γ => do let _ ← ofOpt (isThk q Γ[0]?); let _ ← M.lift o; pure (.nx, Γ)
theorem Goes.keepMut {S S' : Addr → Prop} {H H' : Hp} (_ : Goes S S' H H') (a : Addr) (w : S a) (mt : ∀ a, S a → Mut (H a)) (sm : Same H H') : Mut (H' a) := by
  have m := mt a w
  cases g : H a with
  | none => rw [g] at m; exact m.elim
  | some o => rw [g] at m; rw [sm.get a o g id (mut_nt m)]; exact m
section
variable {X : Cx} {F : Fr} {k i : Nat} {a q x : Str} {o : Out D} {p1 p2 px pos : Pos}
theorem thk_go (hpa : F.pa = none) (hself : F.self = none) (T : ThkC X F k a q o) {Γ : SEnv} {p : Pot} {σ : L2.St} {H : Hp} (st : StOk F Γ p σ H) (hi : isThk q Γ[0]? = some ()) : ∃ (f c : Addr) (tl : XK → Hp → VK → Prop),
    (∀ (p1 p2 : Pos), PE X (.Call (.Name a p1) [] [] p2) (fun σZ HZ Q => σZ[0]? = some (some (.ref f)) ∧ HZ c = some (CodeO c q) ∧ tl F.E HZ Q)) ∧ σ[0]? = some (some (.ref f)) ∧ H c = some (CodeO c q) ∧
    ∀ Q : VK, (match o with
      | .ok d => ∀ v H', Ext F H H' → PotOk F H' p → Rep F.toWd (Sof F Γ σ) H' d v → Q v H'
      | .exc x => F.EX x
      | .bad => False) → tl F.E H Q := by
  obtain ⟨f, c, tl, e1, tk, pe⟩ := T
  obtain ⟨xσ, ex, f', c', rfl, e2, nS, hc⟩ := st.es.env 0 _ (isThk_some hi)
  rw [e1] at e2
  cases e2
  refine ⟨f, c, tl, pe, ex, hc, fun Q h => tk H (Sof F Γ σ) F.E Q (st.es.same.imp fun _ _ _ z => ?_) (fun a w => .inl w) (fun a w => ?_) st.es.mt ?_⟩
  · rw [hpa, hself] at z
    rcases z with z | z <;> cases z
  · rcases w with w | w | w
    · exact .inl w
    · rcases st.fresh a w with z | z
      · exact .inr z
      · rw [hself] at z; cases z
    · rw [hpa] at w; cases w
  · cases o with
    | bad => exact h
    | ok d => exact fun v H' sm r => h v H' (.of sm) (fun a e => by rw [hpa] at e; cases e) r
    | exc z =>
      refine fun C dx H' hm sm xa => h C dx H' hm (st.es.same.ext (.of sm)) (fun a w => (sm.goes st.es.mt).keepMut a (.inl w) st.es.mt sm) ?_
      rcases xa with xa | ⟨b, fs, h1, h2, h3, h4⟩
      · exact .inl xa
      · exact .inr ⟨b, fs, h1, h2, h3, Reps.goes ⟨fun _ _ h _ _ => h, fun a w => .inl (.inl w), fun a w => (sm.goes st.es.mt).keepMut a w st.es.mt sm⟩ _ _ h4⟩
theorem es_thkA (hpa : F.pa = none) (hself : F.self = none) (T : ThkC X F k a q o) (hN : X.N.Nodup) (hi : X.N[i]? = some x := by rfl) (hx : Loc X.env.scope x := by first | exact Or.inl rfl | exact Or.inr rfl) (hf : X.fn x = true ∨ X.env.scope.names.lookup x = some .local := by first | exact .inl rfl | exact .inr rfl)
    (hs : swapsWith (.Call (.Name a p1) [] [] p2) (some (.Name x px)) pos.line X.env = pure false := by rfl) : ES1 X F (.Assign [.Name x px] (.Call (.Name a p1) [] [] p2) pos) (sThkA q o i) := by
  refine ⟨fun pins s σ H D I q0 => ?_⟩
  obtain ⟨Γ, p, st, q0⟩ := q0
  obtain ⟨u, hu, q0⟩ := out_opt.mp (OutOk.bind.mp q0)
  obtain ⟨f, c, tl, pe, e1, e2, go⟩ := thk_go hpa hself T st hu
  refine (ps_set (i := i) hN hi hx (pe p1 p2) hs hf).run pins s σ H D I ⟨e1, e2, go _ ?_⟩
  have q0 := OutOk.bind.mp q0
  cases o with
  | bad => exact q0
  | exc z => exact q0
  | ok d => exact fun v H' e2 q2 r => (show ∀ σ' H', Kp F Γ σ H (Γ.set i (.val d)) σ' H' → StOk F (Γ.set i (.val d)) p σ' H' → D.nx σ' H' from q0) _ _ ((Kp.ext st e2 q2).trans Kp.set) ((st.ext e2 q2).set r)
theorem es_thkD (hpa : F.pa = none) (hself : F.self = none) (T : ThkC X F k a q o) (hs : swapsWith (.Call (.Name a p1) [] [] p2) none pos.line X.env = pure false := by rfl) : ES1 X F (.Expr (.Call (.Name a p1) [] [] p2) pos) (sThkD q o) := by
  refine ⟨fun pins s σ H D I q0 => ?_⟩
  obtain ⟨Γ, p, st, q0⟩ := q0
  obtain ⟨u, hu, q0⟩ := out_opt.mp (OutOk.bind.mp q0)
  obtain ⟨f, c, tl, pe, e1, e2, go⟩ := thk_go hpa hself T st hu
  refine (ps_expr (pe p1 p2) hs).run pins s σ H D I ⟨e1, e2, go _ ?_⟩
  have q0 := OutOk.bind.mp q0
  cases o with
  | bad => exact q0
  | exc z => exact q0
  | ok d => exact fun v H' e2 q2 r => (show ∀ σ' H', Kp F Γ σ H Γ σ' H' → StOk F Γ p σ' H' → D.nx σ' H' from q0) _ _ (Kp.ext st e2 q2) (st.ext e2 q2)
end
abbrev frT (W : Wd) (H : Hp) (S : Addr → Prop) (f c : Addr) : Fr := { W with H0 := H, S0 := S, pa := none, ca := 0, self := none, exc := some (f, c), E := noX }
def runT (N : Nat) (q : Str) (f : DS) : Out D := match f (.thk q :: List.replicate (N - 1) .no) pot0 with
  | .ok ((.rt d, _), _) => .ok d
  | .ok ((.nx, _), _) => .ok .non
  | _ => .bad
structure TkdF (W : Wd) (base : Heap) (k : Nat) (x a q : Str) (m : Out D → Out D) (g : Addr) (st : Stmt) (Ng : List Str) (cdv oc kV doc pm ct : Value) (od an : Option Addr) (osl : Array (Option Value)) : Prop where
  mg : W.mg x = some (.ref g)
  kp : PySem.W.keepIn W.K (.ref g) = true
  lk : W.K.lookup g = some ⟨oc, od, .func (PySem.W.fnOf x x (defArgs st) (defBody st) (defScope st) .none kV doc pm an cdv ct), osl⟩
  cd : PySem.W.codeIn W.K cdv x = true
  bd : Binds W.K (PySem.W.fnOf x x (defArgs st) (defBody st) (defScope st) .none kV doc pm an cdv ct) [a] []
  sc : FnScope Ng [a] (defScope st)
  giv : ∀ X : Cx, X.prog = W.P → X.w = W.w → X.K = W.K → X.mg = W.mg → X.base = base → GivesR X Ng x (defScope st) g cdv (defBody st) a q k (TThk W q m)
def Tkd (W : Wd) (base : Heap) (k : Nat) (x a q : Str) (m : Out D → Out D) : Prop := ∃ g st Ng cdv oc kV doc pm ct od an osl, TkdF W base k x a q m g st Ng cdv oc kV doc pm ct od an osl
section
variable {P : Program} {w : World} {K : PySem.W.Frag} {mg : Str → Option Value} {base : Heap}
theorem tkd_def {x a q : Str} {st : Stmt} {N : List Str} {k : Nat} {den : Out D → DS} (d : DefE K mg x st [a]) (Sc : FnScope N [a] (defScope st))
    (hb : ∀ (o : Out D) (f : Addr) (cdv : Value) (A : Around) (outer : List Env) (s : Shared) (H : Hp) (S0 : Addr → Prop) (fa c : Addr), On (cxOf (L2.CX P w) P w K mg base N x (defScope st) f cdv A outer s H noX) (frT ⟨P, w, K, mg⟩ H S0 fa c) k →
      (∀ (pn : List (Addr × Obj)) (xe : Value → Shared → Prop) (E : XK), On ((cxOf (L2.CX P w) P w K mg base N x (defScope st) f cdv A outer s H noX).tr pn xe) ((frT ⟨P, w, K, mg⟩ H S0 fa c).wE E) k → ThkC ((cxOf (L2.CX P w) P w K mg base N x (defScope st) f cdv A outer s H noX).tr pn xe) ((frT ⟨P, w, K, mg⟩ H S0 fa c).wE E) k a q o) →
      ESs (cxOf (L2.CX P w) P w K mg base N x (defScope st) f cdv A outer s H noX) (frT ⟨P, w, K, mg⟩ H S0 fa c) (defBody st) (den o)) :
    Tkd ⟨P, w, K, mg⟩ base k x a q (fun o => runT N.length q (den o)) := by
  obtain ⟨f, fd, d⟩ := d
  obtain ⟨oc, od, kV, doc, pm, an, cdv, ct, osl, rfl, lk, hcd⟩ := d.fn.ex
  refine ⟨f, st, N, cdv, oc, kV, doc, pm, ct, od, an, osl, d.mg, d.fn.kp, lk, hcd, d.bd, Sc, fun X e1 e2 e3 e4 e5 => ?_⟩
  intro fa c s H Q tl hr act hc hT
  obtain ⟨S, o, mt, nS, tk, res⟩ := hT
  subst e1 e2 e3 e4 e5
  let F : Fr := frT ⟨X.prog, X.w, X.K, X.mg⟩ H S fa c
  have on : On (cxOf (L2.CX X.prog X.w) X.prog X.w X.K X.mg X.base N x (defScope st) f cdv X.A X.stack s H noX) F k := ⟨rfl, rfl, rfl, rfl, hr.mono (Nat.le_succ _), Sc.nd, rfl, takes_of rfl rfl rfl rfl⟩
  refine ⟨tS F (den o), hb o f cdv X.A X.stack s H S fa c on (fun pn xe E on2 => ⟨fa, c, tl, rfl, tk, fun p1 p2 => act (fun cls d _ H => E cls d H) pn xe E p1 p2 on2.tk fun _ _ _ _ h => h⟩), ?_⟩
  have hN : 1 ≤ N.length := by
    have := congrArg List.length Sc.pre
    rw [List.length_take] at this
    simp at this
    omega
  have hst : L2.start N [V.ref fa] = some (V.ref fa) :: List.replicate (N.length - 1) none := by unfold L2.start; rfl
  have no : ∀ {j : Nat} {e : D}, (Sl.thk q :: List.replicate (N.length - 1) Sl.no)[j]? ≠ some (Sl.own e) := fun {j e} h => by
    have := List.mem_of_getElem? h; simp at this
  have sof : ∀ {σ : L2.St} {b}, Sof F (Sl.thk q :: List.replicate (N.length - 1) Sl.no) σ b → S b := fun {σ b} w => by
    rcases w with w | ⟨j, e, h, _⟩ | w
    · exact w
    · exact (no h).elim
    · cases w
  have st0 : StOk F (Sl.thk q :: List.replicate (N.length - 1) Sl.no) pot0 (L2.start N [V.ref fa]) H := by
    refine ⟨⟨fun i sl ei => ?_, fun a e => nof e, fun a w => mt a (sof w), fun a e => nof e, fun a w => .inl w, Kept.refl⟩, fun b ⟨j, e, h, _⟩ => (no h).elim, fun j l e e' b h => (no h).elim, fun b ⟨j, e, h, _⟩ => (no h).elim, fun b e => nof e⟩
    rw [hst]
    cases i with
    | zero =>
      cases ei
      exact ⟨_, rfl, fa, c, rfl, rfl, fun w => nS c (sof w) hc, hc⟩
    | succ i =>
      have ei : (List.replicate (N.length - 1) Sl.no)[i]? = some sl := ei
      rw [List.getElem?_replicate] at ei
      split at ei
      · cases ei
        rename_i hi
        exact ⟨none, by rw [List.getElem?_cons_succ, List.getElem?_replicate, if_pos hi], trivial⟩
      · cases ei
  have same : ∀ {H'}, SameX F H' → Same H H' := fun s => s.imp fun _ _ _ z => z.elim (fun z => nomatch z) fun z => nomatch z
  refine ⟨_, pot0, st0, ?_⟩
  dsimp only at res
  unfold runT at res
  cases g : den o (Sl.thk q :: List.replicate (N.length - 1) Sl.no) pot0 with
  | bad => rw [g] at res; exact res.elim
  | exc x => rw [g] at res; exact res.elim
  | ok z =>
    obtain ⟨⟨fl, Γ'⟩, p'⟩ := z
    rw [g] at res
    cases fl with
    | rt d => exact fun v H' s _ rv => res v H' (same s) rv
    | nx => exact fun σ' H' kp s' => res .non H' (same s'.es.same) rep_n
    | bk => exact res.elim
    | ct => exact res.elim
end

/-! ### x(lambda: body) -/
abbrev frL (F : Fr) (S : Addr → Prop) (HZ : Hp) (E : XK) : Fr := { F with H0 := HZ, S0 := S, pa := none, self := none, exc := none, E := E }
def depot (Γ : SEnv) : SEnv := Γ.map fun
  | .val d => .val d
  | .own d => .own d
  | _ => .no
def thOf : Out (D × Pot) → Out D
  | .ok (d, _) => .ok d
  | .exc x => .exc x
  | .bad => .bad
def eLam (m : Out D → Out D) (fb : SEnv → M D) : SEnv → M D := fun Γ p => match m (thOf (fb (depot Γ) pot0)) with
  | .ok d => .ok (d, p)
  | _ => .bad
/-- no code object's address among those that may change -/
def noCo (S : Addr → Prop) (H : Hp) (a : Addr) : Prop := S a ∧ ∀ q, H a ≠ some (CodeO a q)
section
variable {W : Wd} {S : Addr → Prop} {H1 H' : Hp}
theorem noCo_no (sm : Same H1 H') {a : Addr} {o : HO} (h : H' a = some o) (nc : NC a o) (n : ¬ noCo S H1 a) : ¬ S a := fun w => by
  refine n ⟨w, fun q hq => ?_⟩
  have := sm.get a _ hq id (by unfold CodeO; exact nt_ext)
  rw [h] at this
  exact nc.1 q (Option.some.inj this)
mutual
theorem Rep.ofNoCo (sm : Same H1 H') : ∀ (d : D) (v : V), Rep W (noCo S H1) H' d v → Rep W S H' d v
  | .non, v, h => by unfold Rep at h ⊢; exact h
  | .bl b, v, h => by unfold Rep at h ⊢; exact h
  | .int i, v, h => by unfold Rep at h ⊢; exact h
  | .str x, v, h => by unfold Rep at h ⊢; exact h
  | .tup l, v, h => by
    unfold Rep at h ⊢
    obtain ⟨a, vs, e, q, r⟩ := h
    exact ⟨a, vs, e, q, Reps.ofNoCo sm l vs r⟩
  | .lst l, v, h => by
    unfold Rep at h ⊢
    obtain ⟨a, e, n, vs, q, r⟩ := h
    exact ⟨a, e, noCo_no sm q nc_lst n, vs, q, Reps.ofNoCo sm l vs r⟩
  | .dct ks ds, v, h => by
    unfold Rep at h ⊢
    obtain ⟨a, e, n, q⟩ := h
    rcases q with ⟨kvs, q, e2, nd, r⟩ | ⟨es, q, e2, nd, r1, r2⟩
    · exact ⟨a, e, noCo_no sm q nc_dK n, .inl ⟨kvs, q, e2, nd, Reps.ofNoCo sm ds _ r⟩⟩
    · exact ⟨a, e, noCo_no sm q nc_HOd n, .inr ⟨es, q, e2, nd, Reps.ofNoCo sm ks _ r1, Reps.ofNoCo sm ds _ r2⟩⟩
  | .fn x, v, h => by unfold Rep at h ⊢; exact h
  | .ext t x ns ds, v, h => by
    unfold Rep at h ⊢
    obtain ⟨a, vs, L, e, sh, hL, r⟩ := h
    exact ⟨a, vs, L, e, sh, fun p hp => ⟨noCo_no sm (hL p hp).2.2 (hL p hp).2.1 (hL p hp).1, (hL p hp).2⟩, Reps.ofNoCo sm ds _ r⟩
  | .ins c ns ds, v, h => by
    unfold Rep at h ⊢
    obtain ⟨a, e, n, C, dx, fs, m, q, e2, r⟩ := h
    exact ⟨a, e, noCo_no sm q nc_ins n, C, dx, fs, m, q, e2, Reps.ofNoCo sm ds _ r⟩
theorem Reps.ofNoCo (sm : Same H1 H') : ∀ (l : List D) (vs : List V), Reps W (noCo S H1) H' l vs → Reps W S H' l vs
  | [], vs, h => by unfold Reps at h ⊢; exact h
  | d :: l, vs, h => by
    unfold Reps at h ⊢
    obtain ⟨v, r, e, h1, h2⟩ := h
    exact ⟨v, r, e, Rep.ofNoCo sm d v h1, Reps.ofNoCo sm l r h2⟩
end
end
section
variable {F : Fr} {S : Addr → Prop} {Γ : SEnv} {p : Pot} {σ : L2.St} {H H1 : Hp}
theorem ES.noCo (es : ES F S Γ p σ H) (h0 : ∀ a, ¬ F.S0 a) : ES F (noCo S H) Γ p σ H := by
  have g : Goes S (PL.noCo S H) H H := ⟨fun _ _ h _ _ => h, fun a w => .inl w.1, es.mt⟩
  refine ⟨fun i s h => ?_, es.pot, fun a w => es.mt a w.1, fun a e => ⟨es.pa a e, fun q h => ?_⟩, fun a w => (h0 a w).elim, es.same⟩
  · obtain ⟨x, ex, r⟩ := es.env i s h
    refine ⟨x, ex, ?_⟩
    cases s with
    | no => trivial
    | val d => obtain ⟨v, e, r⟩ := r; exact ⟨v, e, Rep.goes g _ _ r⟩
    | own d =>
      obtain ⟨a, e, sa, np, r⟩ := r
      refine ⟨a, e, ⟨sa, fun q h => ?_⟩, np, r.goes g fun _ h _ => h⟩
      obtain ⟨o, eo, nc⟩ := r.nc
      rw [eo] at h
      exact nc.1 q (Option.some.inj h)
    | pot => exact r
    | exc x => exact SlOk.excGoes g r
    | thk q => exact SlOk.thkGoes g r
    | scr ns => exact SlOk.scrGoes g r
  · obtain ⟨c1, _⟩ := es.pot a e
    rw [c1] at h
    exact nc_lst.1 q (Option.some.inj h)
/-- the lambda's state from that of the def that makes it -/
theorem ES.lam {S' : Addr → Prop} {HZ : Hp} {E : XK} (es : ES F S Γ p σ H1) (sm : Same H1 HZ) (h1 : ∀ a, S a → S' a) (h2 : ∀ a, S' a → S a ∨ H1 a = none) (mt : ∀ a, S' a → Mut (HZ a)) : ES (frL F S' HZ E) S' (depot Γ) pot0 σ HZ := by
  have g : Goes S S' H1 HZ := ⟨fun a o h _ nt => sm.get a o h id nt, h2, es.mt⟩
  refine ⟨fun i s h => ?_, fun a e => nof e, mt, fun a e => nof e, fun a w => w, Kept.refl⟩
  unfold depot at h
  rw [List.getElem?_map] at h
  cases g0 : Γ[i]? with
  | none => rw [g0] at h; cases h
  | some s0 =>
    rw [g0] at h
    obtain ⟨x, ex, r⟩ := es.env i s0 g0
    refine ⟨x, ex, ?_⟩
    cases s0 with
    | val d => cases h; obtain ⟨v, e, r⟩ := r; exact ⟨v, e, Rep.goes g _ _ r⟩
    | own d => cases h; obtain ⟨a, e, sa, np, r⟩ := r; exact ⟨a, e, h1 a sa, nofun, r.goes g fun o h nt => sm.get _ o h id nt⟩
    | _ => cases h; trivial
end
section
variable {X : Cx} {F : Fr} {k k' : Nat} {x a : Str} {m : Out D → Out D} {fb : SEnv → M D} {c P : Addr} {params : Arguments} {body : Expr} {scope : Scope} {p lpos pos : Pos}
theorem ev_lam (o : On X F k) (h0 : ∀ a, ¬ F.S0 a) (hT0 : Tabs TabL.T F.H0) (G : Tkd F.toWd X.base k' x a (X.env.qual ++ "<lambda>") m) (hk : k' + 2 ≤ k) (hg : Gl X x) (TB : TabB X.base X.mg c P) (hcode : X.env.code = .ref c) (hmT : (P, X.env.qual ++ "<lambda>") ∈ TabL.T) (hu : ∀ p ∈ TabL.T, p.1 = P → p.2 = X.env.qual ++ "<lambda>")
    (L : LamS X.env.scope scope) (hdef : defaultsOf params X.env = ([], []) := by rfl)
    (hbind : ∀ (q : Str) (cl : List (Str × Addr)) (pm cv ctv : Value), bindArgs (PySem.W.kla_fn "<lambda>" q params body scope cl pm cv ctv) ⟨[], []⟩ = pure [] := by intros; rfl)
    (hbody : ∀ (A : Around) (outer : List Env) (s : Shared) (H : Hp) (S : Addr → Prop) (HZ : Hp) (E : XK) (f c' : Addr), On (lamCx X A outer s H E scope f c') (frL F S HZ E) k' → EV (lamCx X A outer s H E scope f c') (frL F S HZ E) body fb)
    (hdb : (x == ("__debug__" : Str)) = false := by decide) (hd : (a == ("__debug__" : Str)) = false := by decide) (hcd : (a == ("__classdict__" : Str)) = false := by decide) : EV X F (.Call (.Name x p) [.Lambda params body scope lpos] [] pos) (eLam m fb) := by
  obtain ⟨g, st, Ng, cdv, oc, kV, doc, pm, ct, od, an, osl, G⟩ := G
  have hmg := G.mg
  have hkp := G.kp
  have hlk := G.lk
  have hcd' := G.cd
  have hbd := G.bd
  have hgiv := G.giv X o.P o.w o.K o.mg rfl
  rw [show F.toWd.mg = X.mg from o.mg.symm] at hmg
  rw [show F.toWd.K = X.K from o.K.symm] at hkp hlk hcd' hbd
  have hNg : Ng[0]? = some a := by
    have := congrArg (·[0]?) G.sc.pre
    rw [List.getElem?_take_of_lt (by simp)] at this
    exact this
  have hva : Vis (defScope st) a := (G.sc.par a (by simp)).elim .inl fun z => .inr (.inl z)
  refine PE.weak (pe_lamc (t := fun E => fun σ HZ Q => ∃ S, tX RV (frL F S HZ E) fb σ HZ Q) hg hmg hkp hlk hcd' hbd G.sc hNg hva hgiv TB hcode hmT hu (o.room.mono hk) L hdef hbind (fun A outer s H E f c' hr => ⟨fun pins s' σ H' Q I h => ?_⟩) hdb hd hcd) fun σ H Q q => ?_
  · obtain ⟨S, q⟩ := h
    exact (hbody A outer s H S H' E f c' ⟨o.P, o.w, o.K, o.mg, hr, o.nd, rfl, takes_of rfl rfl rfl rfl⟩).run pins s' σ H' Q I q
  · obtain ⟨S, Γ, p, es, q⟩ := q
    refine ⟨es.same.tab hT0, fun H1 sm dom => ?_⟩
    have es1 := (es.ext (.of sm) (es.pot.same sm)).noCo h0
    refine ⟨noCo S H1, thOf (fb (depot Γ) pot0), es1.mt, fun a w => w.2 _, fun HZ S' E Q' smZ hs1 hs2 mt hq => ?_, ?_⟩
    · refine ⟨S', S', depot Γ, pot0, es1.lam smZ hs1 hs2 mt, ?_⟩
      cases e : fb (depot Γ) pot0 with
      | bad => rw [e] at hq; exact hq.elim
      | exc z =>
        rw [e] at hq
        exact fun C dx H' hm sx _ xa => hq C dx H' hm (sx.imp fun _ _ _ z => z.elim (fun z => nomatch z) fun z => nomatch z) xa
      | ok z =>
        obtain ⟨d, p'⟩ := z
        rw [e] at hq
        exact fun v H' ext _ r => hq v H' (ext.imp fun _ _ _ z => nomatch z) r
    · unfold eLam at q
      cases e : m (thOf (fb (depot Γ) pot0)) with
      | bad => rw [e] at q; exact q.elim
      | exc z => rw [e] at q; exact q.elim
      | ok d =>
        rw [e] at q
        refine fun v H' s r => (show ∀ v H', Ext F H H' → PotOk F H' p → RV F S H H' d v → Q v H' from q) v H' (.of (sm.trans s)) ((es.pot.same sm).same s) ?_
        exact Rep.ofNoCo s _ _ r
end
end PL

set_option Elab.async false
set_option linter.all false
set_option maxRecDepth 100000
set_option maxHeartbeats 4000000
/-! PL21: functions as values; the script; the law's own frame. -/
namespace PL
open PySem L2
variable [TabL]
section
variable {X : Cx} {F : Fr} {k k' : Nat}
/-- a def of the module as a value -/
theorem ev_fnv {x : Str} {st : Stmt} {ps : List Str} {pos : Pos} (o : On X F k) (hg : Gl X x) (d : DefE F.K F.mg x st ps) (hb : (x == ("__debug__" : Str)) = false := by decide) : EV X F (.Name x pos) (eC (.fn x)) := by
  obtain ⟨f, fd, d⟩ := d
  refine PE.weak (pe_glob (v := .ref f) hg (by rw [o.mg]; exact d.mg) rfl hb) fun σ H Q q => ?_
  obtain ⟨S, Γ, p, es, q⟩ := q
  exact (show ∀ v H', Ext F H H' → PotOk F H' p → RV F S H H' (.fn x) v → Q v H' from q) (.ref f) H .refl es.pot (by show Rep _ _ _ _ _; unfold Rep; exact ⟨f, rfl, d.mg⟩)
def fnOfS : Option Sl → Option Str
  | some (.val (.fn x)) => some x
  | _ => none
theorem fnOfS_some {s : Option Sl} {x : Str} (h : fnOfS s = some x) : s = some (.val (.fn x)) := by
  cases s with
  | none => cases h
  | some s =>
    cases s with
    | val d => cases d <;> first | (cases h; rfl) | cases h
    | _ => cases h
def eCallV (i : Nat) (ms : List (Str × (List D → Out D))) (fs : SEnv → M (List D)) : SEnv → M D := fun Γ => do
  let x ← ofOpt (fnOfS Γ[i]?)
  let m ← ofOpt (ms.lookup x)
  eCallP m fs Γ
theorem ev_callV (i : Nat) {n : Nat} {ms : List (Str × (List D → Out D))} {y : Str} {e : Expr} {es : List Expr} {fs : SEnv → M (List D)} {p pos : Pos} (o : On X F k) (G : ∀ x m, ms.lookup x = some m → ∃ ps, Okd F.toWd X.base k' x ps (spP F.toWd n m)) (hk' : k' ≤ k) (ha : EA false X F (e :: es) fs) (hn : LenA fs n)
    (hN : X.N[i]? = some y := by rfl) (hv : Vis X.env.scope y := by first | exact Or.inl rfl | exact Or.inr (Or.inl rfl) | exact Or.inr (Or.inr rfl)) (hd : (y == ("__debug__" : Str)) = false := by decide) (hcd : (y == ("__classdict__" : Str)) = false := by decide)
    (he : starEach (e :: es) X.env = (false, eval e X.env) :: starEach es X.env := by rfl) (hpl : (backTo pos (starEach es X.env)).any (·.1) = false := by rfl) : EV X F (.Call (.Name y p) (e :: es) [] pos) (eCallV i ms fs) := by
  refine ⟨fun pins s σ H Q I q => ?_⟩
  obtain ⟨S, Γ, p0, es0, q⟩ := q
  obtain ⟨x, hx, q⟩ := out_opt.mp (OutOk.bind.mp q)
  obtain ⟨m, hm, q⟩ := out_opt.mp (OutOk.bind.mp q)
  obtain ⟨ps, f, fd, G⟩ := G x m hm
  obtain ⟨xs, ex, v, rfl, rv⟩ := es0.env i _ (fnOfS_some hx)
  unfold Rep at rv
  obtain ⟨f', rfl, hf'⟩ := rv
  have eff : f' = f := by
    have := G.mg
    rw [show F.toWd.mg x = F.mg x from rfl, hf'] at this
    cases this; rfl
  subst eff
  have g := G.ok
  have kp := G.kp
  have bd := G.bd
  rw [toWd_of o] at g kp bd
  have q2 := tX_callP o hn ⟨S, Γ, p0, es0, q⟩
  refine wpAny_Call_Name_kw (thn ((pe_var (pos := p) hN hv hd hcd).run pins s σ H (fun v H1 => v = .ref f' ∧ H1 = H) I ⟨.ref f', ex, rfl, rfl⟩) fun u s1 ⟨v, H1, I1, r1, ev, eH⟩ => ?_)
  subst ev
  rw [eH] at I1
  obtain rfl : u = Value.ref f' := r1
  refine PySem.W.callWith_K (h₀ := X.base) I1.ok.mod.kin kp (thn (ha.run pos pins s1 σ H _ I1 q2) fun us s2 ⟨vs, H2, I2, r, q⟩ => ⟨I2.kIn, ?_⟩) he hpl
  exact run_fn g (o.room.mono hk') bd .nil (passes_on o) I2 r q
end

/-! ### the script -/
def scrOf : Option Sl → Option (List Int)
  | some (.scr ns) => some ns
  | _ => none
theorem scrOf_some {s : Option Sl} {ns : List Int} (h : scrOf s = some ns) : s = some (.scr ns) := by
  cases s with
  | none => cases h
  | some s => cases s <;> first | (cases h; rfl) | cases h
/-- script[:n] -/
def eScrSl (i : Nat) (n : Int) : SEnv → M D := fun Γ => do let ns ← ofOpt (scrOf Γ[i]?); pure (.lst (cutL (ns.map .int) none (some n)))
theorem reps_ints {W : Wd} {S : Addr → Prop} {H : Hp} : ∀ ns : List Int, Reps W S H (ns.map D.int) (ns.map V.int)
  | [] => .nil
  | n :: ns => .cons (by unfold Rep; rfl) (reps_ints ns)
section
variable {X : Cx} {F : Fr} {k k' : Nat}
theorem ev_scrSl (i : Nat) {x : Str} {n : Int} {j : Nat} {p1 p2 p3 pos : Pos} (o : On X F k) (hN : X.N[i]? = some x := by rfl) (hv : Vis X.env.scope x := by first | exact Or.inl rfl | exact Or.inr (Or.inl rfl) | exact Or.inr (Or.inr rfl)) (hd : (x == ("__debug__" : Str)) = false := by decide) (hcd : (x == ("__classdict__" : Str)) = false := by decide) :
    EVN X F (.Subscript (.Name x p1) (.Slice none (some (.Constant (.int n) j p2)) none p3) pos) (eScrSl i n) :=
  PE.weak (pe_slice sl_list (pe_var hN hv hd hcd) (eo_none (F := F)) (eo_some (F := F) (EV.b ev_int))) fun σ H Q q => by
    obtain ⟨S, Γ, p, es, q⟩ := q
    obtain ⟨ns, e1, q⟩ := out_opt.mp (OutOk.bind.mp q)
    obtain ⟨x, ex, a, rfl, sa⟩ := es.env i _ (scrOf_some e1)
    refine ⟨_, ex, S, Γ, p, es, fun H2 e2 q2 => ?_⟩
    refine ⟨S, Γ, p, es.ext e2 q2, fun H3 e3 q3 => ?_⟩
    have es3 := (es.ext e2 q2).ext e3 q3
    obtain ⟨x', ex', a', ea, sa'⟩ := es3.env i _ (scrOf_some e1)
    rw [ex] at ex'
    cases ex'
    cases ea
    refine ⟨a, _, rfl, by rw [o.K]; exact sa'.sql, fun w hw => ?_⟩
    exact (show ∀ v H', Ext F H H' → PotOk F H' p → RN F S H H' (.lst (cutL (ns.map .int) none (some n))) v → Q v H' from q) _ _ ((e2.trans e3).trans (.of (upd_Same hw))) (q3.same (upd_Same hw)) (new_lst es3.mt (es.sub (e2.trans e3) q3) (reps_cut none (some n) (reps_ints ns)) hw)
end
/-- a def that gets the script -/
def spS (W : Wd) (m : List Int → Out D) : Sp := fun vs H Q E => ∃ a ns, vs = [.ref a] ∧ SqL W.K H a (ns.map V.int) ∧ match m ns with
  | .ok d => ∀ v H', Same H H' → Rep W (fun _ => False) H' d v → Q v H'
  | _ => False
def runS (N : Nat) (f : DS) (ns : List Int) : Out D := match f (.scr ns :: List.replicate (N - 1) .no) pot0 with
  | .ok ((.rt d, _), _) => .ok d
  | .ok ((.nx, _), _) => .ok .non
  | _ => .bad
section
variable {P : Program} {w : World} {K : PySem.W.Frag} {mg : Str → Option Value} {base : Heap}
theorem scr_st {F : Fr} {N : List Str} {H : Hp} {a : Addr} {ns : List Int} {p : Pot} (hpa : F.pa = none) (hs0 : ∀ a, ¬ F.S0 a) (h0 : F.H0 = H) (hq : SqL F.K H a (ns.map V.int)) : StOk F (.scr ns :: List.replicate (N.length - 1) .no) p (L2.start N [.ref a]) H := by
  have no : ∀ {j : Nat} {e : D}, (Sl.scr ns :: List.replicate (N.length - 1) Sl.no)[j]? ≠ some (Sl.own e) := fun {j e} h => by
    have := List.mem_of_getElem? h; simp at this
  have sof : ∀ {σ : L2.St} {b}, ¬ Sof F (Sl.scr ns :: List.replicate (N.length - 1) Sl.no) σ b := fun {σ b} w => by
    rcases w with w | ⟨j, e, h, _⟩ | w
    · exact hs0 b w
    · exact no h
    · rw [hpa] at w; cases w
  refine ⟨⟨fun i sl ei => ?_, fun a e => (by rw [hpa] at e; cases e), fun a w => (sof w).elim, fun a e => (by rw [hpa] at e; cases e), fun a w => .inl w, (by rw [← h0]; exact Kept.refl)⟩, fun b ⟨j, e, h, _⟩ => (no h).elim, fun j l e e' b h => (no h).elim, fun b ⟨j, e, h, _⟩ => (no h).elim, fun b e => by rw [hpa] at e; cases e⟩
  have hst : L2.start N [V.ref a] = some (V.ref a) :: List.replicate (N.length - 1) none := by unfold L2.start; rfl
  rw [hst]
  cases i with
  | zero => cases ei; exact ⟨_, rfl, a, rfl, ScrAt.of hq sof⟩
  | succ i =>
    have ei : (List.replicate (N.length - 1) Sl.no)[i]? = some sl := ei
    rw [List.getElem?_replicate] at ei
    split at ei
    · cases ei
      rename_i hi
      exact ⟨none, by rw [List.getElem?_cons_succ, List.getElem?_replicate, if_pos hi], trivial⟩
    · cases ei
theorem okd_defS {x y : Str} {st : Stmt} {N : List Str} {k : Nat} {den : DS} (d : DefE K mg x st [y]) (Sc : FnScope N [y] (defScope st))
    (hb : ∀ (f : Addr) (cdv : Value) (A : Around) (outer : List Env) (s : Shared) (H : Hp) (E : XK) (S0 : Addr → Prop), On (cxOf (L2.CX P w) P w K mg base N x (defScope st) f cdv A outer s H E) (frP ⟨P, w, K, mg⟩ H S0 E) k → ESs (cxOf (L2.CX P w) P w K mg base N x (defScope st) f cdv A outer s H E) (frP ⟨P, w, K, mg⟩ H S0 E) (defBody st) den) :
    Okd ⟨P, w, K, mg⟩ base (k + 1) x [y] (spS ⟨P, w, K, mg⟩ (runS N.length den)) := by
  obtain ⟨f, fd, d⟩ := d
  refine ⟨f, fd, d.mg, d.fn.kp, d.bd, okX d.fn Sc (fun vs H Q E h => ?_) (fun cdv A outer s H vs Q E hr h => ?_)⟩
  · obtain ⟨a, ns, rfl, _⟩ := h; rfl
  · obtain ⟨a, ns, rfl, hq, h⟩ := h
    let F : Fr := frP ⟨P, w, K, mg⟩ H (fun _ => False) E
    have on : On (cxOf (L2.CX P w) P w K mg base N x (defScope st) f cdv A outer s H E) F k := ⟨rfl, rfl, rfl, rfl, hr, Sc.nd, rfl, takes_of rfl rfl rfl rfl⟩
    refine ⟨tS F den, hb f cdv A outer s H E _ on, _, pot0, scr_st (F := F) rfl (fun _ h => h) rfl hq, ?_⟩
    have same : ∀ {H'}, SameX F H' → Same H H' := fun s => s.imp fun _ _ _ z => z.elim (fun z => nomatch z) fun z => nomatch z
    unfold runS at h
    cases g : den (.scr ns :: List.replicate (N.length - 1) .no) pot0 with
    | bad => rw [g] at h; exact h.elim
    | exc x => rw [g] at h; exact h.elim
    | ok z =>
      obtain ⟨⟨fl, Γ'⟩, p'⟩ := z
      rw [g] at h
      cases fl with
      | rt d => exact fun v H' s _ rv => h v H' (same s) rv
      | nx => exact fun σ' H' kp s' => h .non H' (same s'.es.same) rep_n
      | bk => exact h.elim
      | ct => exact h.elim
end

/-! ### the law itself -/
def spLaw (K : PySem.W.Frag) : Sp := fun vs H Q _ => ∃ (a : Addr) (ns : List Int), vs = [.ref a] ∧ SqL K H a (ns.map V.int) ∧ LamX.Tabs TabL.T H ∧ ns.length ≤ 63 ∧ (∀ z ∈ ns, Builtin.Int.intBits z ≤ 1048576) ∧ ∀ H', Q (.bl true) H'
def potD (p : Pot) : D := .lst [.lst (p.cells.map .int), .int p.used, .int p.mix, .int p.great]
theorem pot_of {W : Wd} {H : Hp} {v : V} {p : Pot} (h : Rep W (fun _ => False) H (potD p) v) : ∃ pa ca, v = .ref pa ∧ PotAt H pa ca p := by
  unfold potD at h
  unfold Rep at h
  obtain ⟨pa, rfl, _, vs, h1, h2⟩ := h
  unfold Reps at h2
  obtain ⟨c, r1, rfl, hc, h2⟩ := h2
  unfold Reps at h2
  obtain ⟨u, r2, rfl, hu, h2⟩ := h2
  unfold Reps at h2
  obtain ⟨m, r3, rfl, hm, h2⟩ := h2
  unfold Reps at h2
  obtain ⟨g, r4, rfl, hg, h2⟩ := h2
  unfold Reps at h2
  subst h2
  unfold Rep at hc hu hm hg
  obtain ⟨ca, rfl, _, ws, hw, rw'⟩ := hc
  subst hu hm hg
  refine ⟨pa, ca, rfl, h1, ?_⟩
  rw [hw]
  congr 1
  congr 1
  clear hw h1
  generalize p.cells = cs at rw'
  induction cs generalizing ws with
  | nil => unfold List.map Reps at rw'; exact rw'
  | cons n cs ih =>
    rw [List.map_cons] at rw'
    unfold Reps at rw'
    obtain ⟨v, r, rfl, hv, hr⟩ := rw'
    unfold Rep at hv
    rw [hv, List.map_cons, ih r hr]
def lawEnv (N j : Nat) : SEnv := (List.replicate N Sl.no).set j .pot
section
variable {P : Program} {w : World} {K : PySem.W.Frag} {mg : Str → Option Value} {base : Heap}
theorem law_st {W : Wd} {E : XK} {N j : Nat} {σ : L2.St} {H : Hp} {pa ca : Addr} {p : Pot} (hl : σ.length = N) (hj : j < N) (pt : PotAt H pa ca p) : StOk (frQ W H (fun _ => False) pa ca E) (lawEnv N j) p (σ.set j (some (.ref pa))) H := by
  have no : ∀ {i : Nat} {e : D}, (lawEnv N j)[i]? ≠ some (Sl.own e) := fun {i e} h => by
    unfold lawEnv at h
    rcases get_set_cases h with ⟨_, h, _⟩ | ⟨_, h⟩
    · cases h
    · have := List.mem_of_getElem? h; simp at this
  have sof : ∀ {σ : L2.St} {b}, Sof (frQ W H (fun _ => False) pa ca E) (lawEnv N j) σ b → b = pa := fun {σ b} w => by
    rcases w with w | ⟨j, e, h, _⟩ | w
    · exact w.elim
    · exact (no h).elim
    · cases w; rfl
  refine ⟨⟨fun i t h => ?_, fun a e => by cases e; exact pt, fun a w => ?_, fun a e => .inr (.inr e), fun a w => .inl w, Kept.refl⟩, fun b ⟨i, e, h, _⟩ => (no h).elim, fun i l e e' b h => (no h).elim, fun b ⟨i, e, h, _⟩ => (no h).elim, fun b e => ⟨?_, fun z => nomatch z⟩⟩
  · unfold lawEnv at h
    rcases get_set_cases h with ⟨rfl, rfl, _⟩ | ⟨hij, h⟩
    · exact ⟨some (.ref pa), List.getElem?_set_self (by rw [hl]; exact hj), pa, rfl, rfl⟩
    · have hiN : i < N := by
        have := (List.getElem?_eq_some_iff.mp h).1
        simpa using this
      have ht : t = .no := by have := List.mem_of_getElem? h; simp at this; exact this.2
      subst ht
      exact ⟨_, by rw [List.getElem?_set_ne (Ne.symm hij)]; exact List.getElem?_eq_getElem (by rw [hl]; exact hiN), trivial⟩
  · rw [sof w, pt.1]; trivial
  · show H ca ≠ none
    rw [pt.2]; exact fun z => nomatch z
theorem fn_law {st : Stmt} {f : Addr} {N : List Str} {k k' j : Nat} {mpot : List Int → Out D} {den : DS} {rest : List Stmt} {px p1 p2 p3 pos : Pos} {dV kV doc pm cv ct oc : Value} {an od : Option Addr} {osl : Array (Option Value)}
    (lk : K.lookup f = some ⟨oc, od, .func (PySem.W.fnOf "law" "law" (defArgs st) (defBody st) (defScope st) dV kV doc pm an cv ct), osl⟩) (hcd : PySem.W.codeIn K cv "law" = true) (Sc : FnScope N ["script"] (defScope st))
    (hbody : defBody st = .Assign [.Name "pot" px] (.Call (.Name "_law_pot" p1) [.Name "script" p2] [] p3) pos :: rest) (G : Okd ⟨P, w, K, mg⟩ base k' "_law_pot" ["script"] (spS ⟨P, w, K, mg⟩ mpot)) (hk : k' ≤ k)
    (hj : N[j]? = some "pot") (hxj : Loc (defScope st) "pot") (hg : (defScope st).names.lookup ("_law_pot" : Str) = some .globalImplicit) (hvs : Vis (defScope st) "script")
    (hb : ∀ (A : Around) (outer : List Env) (s : Shared) (H : Hp) (E : XK) (H0 : Hp) (pa ca : Addr), LamX.Tabs TabL.T H0 → On (cxOf (L2.CX P w) P w K mg base N "law" (defScope st) f cv A outer s H E) (frQ ⟨P, w, K, mg⟩ H0 (fun _ => False) pa ca E) k →
      ESs (cxOf (L2.CX P w) P w K mg base N "law" (defScope st) f cv A outer s H E) (frQ ⟨P, w, K, mg⟩ H0 (fun _ => False) pa ca E) rest den)
    (hpot : ∀ ns : List Int, mpot ns = .ok (potD ⟨(ns.take 63).map fun z => if z < 0 then -z else z, 0, 20011, 0⟩))
    (hlaw : ∀ ns : List Int, ns.length ≤ 63 → (∀ z ∈ ns, Builtin.Int.intBits z ≤ 1048576) → ∃ Γ p, den (lawEnv N.length j) ⟨(ns.take 63).map fun z => if z < 0 then -z else z, 0, 20011, 0⟩ = .ok ((.rt (.bl true), Γ), p)) :
    FnOk P w K mg base (L2.CX P w) (k + 1) f (PySem.W.fnOf "law" "law" (defArgs st) (defBody st) (defScope st) dV kV doc pm an cv ct) ["script"] (spLaw K) := by
  refine fn_of lk hcd Sc (fun vs H Q E h => ?_) fun A outer s H vs Q E hr h => ?_
  · obtain ⟨a, ns, rfl, _⟩ := h; rfl
  · obtain ⟨a, ns, rfl, hq, ht, hlen, hbits, hQ⟩ := h
    obtain ⟨f', fd', G⟩ := G
    have on0 : On (cxOf (L2.CX P w) P w K mg base N "law" (defScope st) f cv A outer s H E) (frP ⟨P, w, K, mg⟩ H (fun _ => False) E) k := ⟨rfl, rfl, rfl, rfl, hr, Sc.nd, rfl, takes_of rfl rfl rfl rfl⟩
    rw [hbody]
    refine ⟨_, pss_cons (ps_set (i := j) Sc.nd hj hxj (pe_call (dvs := []) G.ok (hr.mono hk) hg G.mg G.kp G.bd .nil (passes_on on0) (pa_cons (pe_var (i := 0) ?_ hvs) pa_nil)) (by rfl) (.inl rfl))
      (⟨fun pins s' σ H' D I h => ?_⟩ : PSs (cxOf (L2.CX P w) P w K mg base N "law" (defScope st) f cv A outer s H E) rest (fun D σ H' => ∃ H0 pa ca, LamX.Tabs TabL.T H0 ∧ tS (frQ ⟨P, w, K, mg⟩ H0 (fun _ => False) pa ca E) den D σ H')), ?_⟩
    · have := congrArg (·[0]?) Sc.pre
      rw [List.getElem?_take_of_lt (by simp)] at this
      exact this
    · obtain ⟨H0, pa, ca, ht0, h⟩ := h
      exact (hb A outer s H E H0 pa ca ht0 ⟨rfl, rfl, rfl, rfl, hr, Sc.nd, rfl, takes_of rfl rfl rfl rfl⟩).run pins s' σ H' D I h
    · refine ⟨.ref a, rfl, a, ns, rfl, hq, ?_⟩
      rw [hpot ns]
      intro v H' sm rv
      obtain ⟨pa, ca, rfl, pt⟩ := pot_of rv
      obtain ⟨Γ, p', hden⟩ := hlaw ns hlen hbits
      have hjl : j < N.length := (List.getElem?_eq_some_iff.mp hj).1
      have hsl : (L2.start N [V.ref a]).length = N.length := by
        unfold L2.start
        have hN : 1 ≤ N.length := by omega
        rw [List.length_append, List.length_map, List.length_replicate]
        simp; omega
      refine ⟨H', pa, ca, sm.tab ht, _, _, law_st hsl hjl pt, ?_⟩
      rw [hden]
      intro v H2 _ _ r
      unfold Rep at r
      rw [r]
      exact hQ H2
end
end PL

set_option Elab.async false
set_option linter.all false
set_option maxRecDepth 100000
set_option maxHeartbeats 4000000
/-! PL22: calls of a local name, in as a test, enumerate. -/
namespace PL
open PySem L2
variable [TabL]
theorem Okd.up {W : Wd} {base : Heap} {k k' : Nat} {x : Str} {ps : List Str} {sp : Sp} (h : Okd W base k x ps sp) (hk : k ≤ k') : Okd W base k' x ps sp := by
  obtain ⟨f, fd, h⟩ := h
  exact ⟨f, fd, h.mg, h.kp, h.bd, h.ok.mono hk⟩
theorem callV2 {W : Wd} {base : Heap} {k k1 k2 n : Nat} {x1 x2 : Str} {p1 p2 : List Str} {m1 m2 : List D → Out D} (h1 : Okd W base k1 x1 p1 (spP W n m1)) (e1 : k1 ≤ k) (h2 : Okd W base k2 x2 p2 (spP W n m2)) (e2 : k2 ≤ k) :
    ∀ x m, [(x1, m1), (x2, m2)].lookup x = some m → ∃ ps, Okd W base k x ps (spP W n m) := fun x m h => by
  by_cases a : x = x1
  · subst a
    simp [List.lookup] at h
    subst h
    exact ⟨p1, h1.up e1⟩
  · have a' : (x == x1) = false := by simpa using a
    by_cases b : x = x2
    · subst b
      simp [List.lookup, a'] at h
      subst h
      exact ⟨p2, h2.up e2⟩
    · have b' : (x == x2) = false := by simpa using b
      simp [List.lookup, a', b'] at h
theorem inD_bl {x y d : D} (e : inD x y = some d) : ∃ b, d = .bl b := by
  unfold inD at e
  split at e
  · cases e; exact ⟨_, rfl⟩
  · unfold inL at e
    cases g : memB x y with
    | none => rw [g] at e; cases e
    | some b => rw [g] at e; cases e; exact ⟨_, rfl⟩
theorem notInD_bl {x y d : D} (e : notInD x y = some d) : ∃ b, d = .bl b := by
  unfold notInD at e
  split at e
  · cases e; exact ⟨_, rfl⟩
  · unfold notInL at e
    cases g : memB x y with
    | none => rw [g] at e; cases e
    | some b => rw [g] at e; cases e; exact ⟨_, rfl⟩
section
variable {X : Cx} {F : Fr} {k : Nat} {a b : Expr} {fa fb : SEnv → M D} {pos : Pos}
theorem et_in (o : On X F k) (ha : EVB X F a fa) (hb : EVB X F b fb) (hm : behindInMarks .In b = false := by rfl) : ET X F (.Compare a [.In] [b] pos) (eOp inD fa fb) :=
  et_cmp (op_in_seq.or (op_inD (by have := o.room.un; omega))) (by rw [o.K]; exact opd_in (neg := false) (gg := fun k => k) rfl) (fun x y d e => inD_bl e) ha hb hm
theorem et_notIn (o : On X F k) (ha : EVB X F a fa) (hb : EVB X F b fb) (hm : behindInMarks .NotIn b = false := by rfl) : ET X F (.Compare a [.NotIn] [b] pos) (eOp notInD fa fb) :=
  et_cmp (op_notIn_seq.or (op_notInD (by have := o.room.un; omega))) (by rw [o.K]; exact opd_in (neg := true) (gg := fun k => !k) rfl) (fun x y d e => notInD_bl e) ha hb hm
end
/-! ### enumerate -/
def enumL : Nat → List D → List D
  | _, [] => []
  | i, d :: l => .tup [.int i, d] :: enumL (i + 1) l
def enumD : D → Option (List D)
  | .lst l => some (enumL 0 l)
  | _ => none
theorem enumL_length : ∀ (i : Nat) (l : List D), (enumL i l).length = l.length
  | _, [] => rfl
  | i, d :: l => by show (enumL (i + 1) l).length + 1 = _; rw [enumL_length (i + 1) l]; rfl
theorem enumL_get : ∀ (i : Nat) (l : List D) (j : Nat) (d : D), l[j]? = some d → (enumL i l)[j]? = some (.tup [.int ((i + j : Nat) : Int), d])
  | _, [], j, d, h => by simp at h
  | i, e :: l, 0, d, h => by
    have h : e = d := by simpa using h
    subst h
    rfl
  | i, e :: l, j + 1, d, h => by
    have h : l[j]? = some d := by simpa using h
    have := enumL_get (i + 1) l j d h
    show (enumL (i + 1) l)[j]? = _
    rw [this]
    congr 5
    omega
section
variable {X : Cx} {F : Fr} {k : Nat} {S : Addr → Prop} {H1 : Hp}
theorem itok_enum {b : Bool} {a : Addr} {vs : List V} {l : List D} (es : ∀ a, S a → Mut (H1 a)) (hp : ∀ a, F.pa = some a → S a) (h : H1 a = some (.lst vs)) (hb : (b = false ∧ ¬ S a) ∨ (b = true ∧ F.pa ≠ some a)) (r : Reps F.toWd S H1 l vs) : ItOk F (Fut b F S H1) (Ite F.K a) (enumL 0 l) := by
  intro H S' fut mt
  have hh : H a = some (.lst vs) ∧ Reps F.toWd S' H l vs := by
    rcases hb with ⟨rfl, n⟩ | ⟨rfl, n⟩
    · have g : Goes S S' H1 H := fut
      exact ⟨g.keep _ _ h n nt_lst, Reps.goes g _ _ r⟩
    · obtain ⟨e, sb⟩ := (show Ext F H1 H ∧ ∀ a, S' a → S a ∨ H1 a = none from fut)
      have g : Goes S S' H1 H := ⟨(e.goes es hp).keep, sb, es⟩
      exact ⟨e.get _ _ h n nt_lst, Reps.goes g _ _ r⟩
  obtain ⟨h2, r2⟩ := hh
  refine ⟨fun i hi => ?_, vs, SqL.of h2, by rw [enumL_length, r.length]; exact Nat.le_refl _⟩
  have hi' : i < vs.length := by rw [enumL_length] at hi; rw [← r.length]; exact hi
  refine ⟨⟨vs, vs[i], SqL.of h2, List.getElem?_eq_getElem hi'⟩, fun x H' ⟨T, y, ex, hT, eH, yy⟩ => ?_⟩
  subst ex eH
  obtain ⟨d, e, q⟩ := r2.get' (yy vs (SqL.of h2))
  have g : Goes S' S' H (upd H T (.tup [.int (i : Nat), y])) := ⟨fun c o h _ nt => (upd_Same hT).get _ _ h id nt, fun _ w => .inl w, mt⟩
  refine ⟨upd_Same hT, _, enumL_get 0 l i d e, ?_⟩
  rw [Nat.zero_add]
  unfold Rep
  refine ⟨T, _, rfl, SqT.of upd_same, .cons (by unfold Rep; rfl) (.cons (Rep.goes g _ _ q) .nil)⟩
theorem ei_enum' (b : Bool) {e : Expr} {f : SEnv → M D} {p pos tpos : Pos} {elts : List Expr} {kk : Nat} (o : On X F k) (hg : Gl X "enumerate") (hm : F.mg "enumerate" = none) (he : EXP (RI b) X F e f) (hs : starEach [e] X.env = (false, eval e X.env) :: starEach [] X.env := by rfl) :
    EI b X F (.Tuple elts kk tpos) (.Call (.Name "enumerate" p) [e] [] pos) (eItems enumD f) :=
  PI.weak (pi_enum hg (by rw [o.mg]; exact hm) (pa_cons he pa_nil hs) hs) fun σ H R q => by
    obtain ⟨S, Γ, p, es, q⟩ := q
    refine ⟨S, Γ, p, es, (OutOk.bind.mp q).imp fun d p1 q v H1 e1 q1 r1 => ?_⟩
    obtain ⟨l', e2, q⟩ := out_opt.mp q
    cases d <;> try cases e2
    rename_i l _
    have es1 := es.ext e1 q1
    cases b with
    | true =>
      rcases (show RepT F S H1 (.lst l) v from r1) with r1 | ⟨a, rfl, np, vs, h, rs⟩
      · unfold Rep at r1
        obtain ⟨a, rfl, n, vs, h, rs⟩ := r1
        exact ⟨a, vs, rfl, SqL.of h, by rw [o.K]; exact q _ H1 e1 q1 (itok_enum es1.mt es1.pa h (.inr ⟨rfl, fun z => n (es1.pa a z)⟩) rs)⟩
      · exact ⟨a, vs, rfl, SqL.of h, by rw [o.K]; exact q _ H1 e1 q1 (itok_enum es1.mt es1.pa h (.inr ⟨rfl, np⟩) rs)⟩
    | false =>
      have r1 : Rep F.toWd S H1 (.lst l) v := r1
      unfold Rep at r1
      obtain ⟨a, rfl, n, vs, h, rs⟩ := r1
      exact ⟨a, vs, rfl, SqL.of h, by rw [o.K]; exact q _ H1 e1 q1 (itok_enum es1.mt es1.pa h (.inl ⟨rfl, n⟩) rs)⟩
theorem ei_enum {e : Expr} {f : SEnv → M D} {p pos tpos : Pos} {elts : List Expr} {kk : Nat} (o : On X F k) (hg : Gl X "enumerate") (hm : F.mg "enumerate" = none) (he : EV X F e f) (hs : starEach [e] X.env = (false, eval e X.env) :: starEach [] X.env := by rfl) :
    EI false X F (.Tuple elts kk tpos) (.Call (.Name "enumerate" p) [e] [] pos) (eItems enumD f) := ei_enum' false o hg hm he hs
theorem ei_enumB {e : Expr} {f : SEnv → M D} {p pos tpos : Pos} {elts : List Expr} {kk : Nat} (o : On X F k) (hg : Gl X "enumerate") (hm : F.mg "enumerate" = none) (he : EVB X F e f) (hs : starEach [e] X.env = (false, eval e X.env) :: starEach [] X.env := by rfl) :
    EI true X F (.Tuple elts kk tpos) (.Call (.Name "enumerate" p) [e] [] pos) (eItems enumD f) := ei_enum' true o hg hm he hs
end

/-! ### name = [.. for ..], the name a local -/
section
variable {X : Cx} {F : Fr} {k i : Nat} {elt tg iter : Expr} {ifs : List Expr} {scope : Scope} {own : List (Str × Nat)} {pos spos py : Pos} {it : SEnv → M (List D)} {t : D → SEnv → Option SEnv} {ft fe f : SEnv → M D} {y : Str}
theorem asgO_read {D : Ends} {σ : L2.St} {H : Hp} (q : tS F (sAsgO i f) D σ H) : tAsg (tX RN F f) (gName i) D σ H := by
  obtain ⟨Γ, p, st, q⟩ := q
  refine ⟨_, Γ, p, st.es, (OutOk.bind.mp q).imp fun d p1 q v H1 e1 q1 r1 => ?_⟩
  obtain ⟨a, rfl, n, r⟩ := r1
  obtain ⟨s1, k1⟩ := st.setOwn (i := i) e1 q1 n r
  exact (show ∀ σ' H', Kp F Γ σ H (Γ.set i (.own d)) σ' H' → StOk F (Γ.set i (.own d)) p1 σ' H' → D.nx σ' H' from q) _ _ k1 s1
theorem asgV_read {D : Ends} {σ : L2.St} {H : Hp} (q : tS F (sAsg (gN i) f) D σ H) : tAsg (tX RN F f) (gName i) D σ H := by
  obtain ⟨Γ, p, st, q⟩ := q
  refine ⟨_, Γ, p, st.es, (OutOk.bind.mp q).imp fun d p1 q v H1 e1 q1 r1 => ?_⟩
  obtain ⟨Γ', e2, q⟩ := out_opt.mp (OutOk.bind.mp q)
  have e2 : some (Γ.set i (.val d)) = some Γ' := e2
  cases e2
  have s1 := st.ext e1 q1
  exact (show ∀ σ' H', Kp F Γ σ H (Γ.set i (.val d)) σ' H' → StOk F (Γ.set i (.val d)) p1 σ' H' → D.nx σ' H' from q) _ _ ((Kp.ext st e1 q1).trans Kp.set) (s1.set (r1.v st.es.mt s1.es.mt))
theorem ps_lcA (o : On X F k) (hi : EI true X F tg iter it) (ok : BlkOk X.N X.env.scope scope own)
    (hg : ∀ (s : Shared) (H : Hp) (C : Addr) (cl : List (Str × Addr)) (fp : List Addr), On (X.blk s H scope (compEnvC scope cl C X.env) fp) F.noE k → PG (X.blk s H scope (compEnvC scope cl C X.env) fp) tg (tGx (own.map (·.2)) F.noE t))
    (ht : ∀ (s : Shared) (H : Hp) (C : Addr) (cl : List (Str × Addr)) (fp : List Addr), On (X.blk s H scope (compEnvC scope cl C X.env) fp) F.noE k → PTs (X.blk s H scope (compEnvC scope cl C X.env) fp) ifs (tT F.noE ft))
    (he : ∀ (s : Shared) (H : Hp) (C : Addr) (cl : List (Str × Addr)) (fp : List Addr), On (X.blk s H scope (compEnvC scope cl C X.env) fp) F.noE k → EV (X.blk s H scope (compEnvC scope cl C X.env) fp) F.noE elt fe)
    (hy : X.N[i]? = some y) (hyl : X.env.scope.names.lookup y = some .local) (hk : X.env.scope.kind = .function) (hl : (py.line == pos.line) = true) (ha : (scope.names.any fun (n, k) => n == y && (k == .local || k == .cell)) = false) (hs : ∀ x, foldedSetIterable iter X.env x = pure x) :
    PS X (.Assign [.Name y py] (.ListComp elt [⟨tg, iter, ifs, 0⟩] scope pos) spos) (tAsg (tX RN F (eLc (own.map (·.2)) it t ft fe)) (gName i)) :=
  PS.weak (ps_setLc o.calm o.nd hy hyl (sw_true hk hyl hl ha) hi ok (fun s H C cl fp => hg s H C cl fp (o.blk _ _ _ _ _)) (fun s H C cl fp => ht s H C cl fp (o.blk _ _ _ _ _)) (fun s H C cl fp => he s H C cl fp (o.blk _ _ _ _ _)) hs) fun D σ H q => by
    obtain ⟨S, Γ, p, es, q⟩ := q
    exact lc_read _ es q
theorem es_asgOLc (o : On X F k) (hi : EI true X F tg iter it) (ok : BlkOk X.N X.env.scope scope own)
    (hg : ∀ (s : Shared) (H : Hp) (C : Addr) (cl : List (Str × Addr)) (fp : List Addr), On (X.blk s H scope (compEnvC scope cl C X.env) fp) F.noE k → PG (X.blk s H scope (compEnvC scope cl C X.env) fp) tg (tGx (own.map (·.2)) F.noE t))
    (ht : ∀ (s : Shared) (H : Hp) (C : Addr) (cl : List (Str × Addr)) (fp : List Addr), On (X.blk s H scope (compEnvC scope cl C X.env) fp) F.noE k → PTs (X.blk s H scope (compEnvC scope cl C X.env) fp) ifs (tT F.noE ft))
    (he : ∀ (s : Shared) (H : Hp) (C : Addr) (cl : List (Str × Addr)) (fp : List Addr), On (X.blk s H scope (compEnvC scope cl C X.env) fp) F.noE k → EV (X.blk s H scope (compEnvC scope cl C X.env) fp) F.noE elt fe)
    (hy : X.N[i]? = some y := by rfl) (hyl : X.env.scope.names.lookup y = some .local := by rfl) (hk : X.env.scope.kind = .function := by rfl) (hl : (py.line == pos.line) = true := by rfl) (ha : (scope.names.any fun (n, k) => n == y && (k == .local || k == .cell)) = false := by rfl) (hs : ∀ x, foldedSetIterable iter X.env x = pure x := by intro _; rfl) :
    ES1 X F (.Assign [.Name y py] (.ListComp elt [⟨tg, iter, ifs, 0⟩] scope pos) spos) (sAsgO i (eLc (own.map (·.2)) it t ft fe)) := PS.weak (ps_lcA o hi ok hg ht he hy hyl hk hl ha hs) fun _ _ _ q => asgO_read q
theorem es_asgLc (o : On X F k) (hi : EI true X F tg iter it) (ok : BlkOk X.N X.env.scope scope own)
    (hg : ∀ (s : Shared) (H : Hp) (C : Addr) (cl : List (Str × Addr)) (fp : List Addr), On (X.blk s H scope (compEnvC scope cl C X.env) fp) F.noE k → PG (X.blk s H scope (compEnvC scope cl C X.env) fp) tg (tGx (own.map (·.2)) F.noE t))
    (ht : ∀ (s : Shared) (H : Hp) (C : Addr) (cl : List (Str × Addr)) (fp : List Addr), On (X.blk s H scope (compEnvC scope cl C X.env) fp) F.noE k → PTs (X.blk s H scope (compEnvC scope cl C X.env) fp) ifs (tT F.noE ft))
    (he : ∀ (s : Shared) (H : Hp) (C : Addr) (cl : List (Str × Addr)) (fp : List Addr), On (X.blk s H scope (compEnvC scope cl C X.env) fp) F.noE k → EV (X.blk s H scope (compEnvC scope cl C X.env) fp) F.noE elt fe)
    (hy : X.N[i]? = some y := by rfl) (hyl : X.env.scope.names.lookup y = some .local := by rfl) (hk : X.env.scope.kind = .function := by rfl) (hl : (py.line == pos.line) = true := by rfl) (ha : (scope.names.any fun (n, k) => n == y && (k == .local || k == .cell)) = false := by rfl) (hs : ∀ x, foldedSetIterable iter X.env x = pure x := by intro _; rfl) :
    ES1 X F (.Assign [.Name y py] (.ListComp elt [⟨tg, iter, ifs, 0⟩] scope pos) spos) (sAsg (gN i) (eLc (own.map (·.2)) it t ft fe)) := PS.weak (ps_lcA o hi ok hg ht he hy hyl hk hl ha hs) fun _ _ _ q => asgV_read q
end
section
variable {X : Cx} {F : Fr} {k i : Nat} {e : Expr} {f : SEnv → M D} {xp : Str} {k0 : Nat} {pp p1 p2 pos : Pos}
theorem ev_potIO (o : On X F k) (j : Nat) (hj : j = 1 ∨ j = 2 ∨ j = 3) (hN : X.N[i]? = some xp := by rfl) (hv : Vis X.env.scope xp := by first | exact Or.inl rfl | exact Or.inr (Or.inl rfl) | exact Or.inr (Or.inr rfl)) (hd : (xp == ("__debug__" : Str)) = false := by decide) (hcd : (xp == ("__classdict__" : Str)) = false := by decide) :
    EV X F (.Subscript (.Name xp pp) (.Constant (.int (j : Int)) k0 p2) pos) (ePotI i j) := ev_potI j hj hN hv hd hcd
end
end PL

set_option Elab.async false
set_option linter.all false
set_option maxRecDepth 100000
set_option maxHeartbeats 4000000
/-! PL23: a tuple taken some times. -/
namespace PL
open PySem L2
variable [TabL]
section
/-- once, or an empty one: the same object -/
theorem tupMul_same (l : Addr) (items : Array Value) (n : Nat) (dd : Option Addr) (sl : Array (Option Value)) (x : Int) (u : Tok) (c0 : (decide (x < -(2 ^ 63)) || decide (x ≥ 2 ^ 63)) = false) (c1 : (items.isEmpty || x == 1) = true) :
    Meets (Builtin.«tuple.__mul__» ⟨[.ref l, .int x u], []⟩) (fun _ R s => s.heap.get? l = some { cls := .type "tuple", dict := dd, data := .seq items n, slots := sl } ∧ R (.ok (.ret (Value.ref l))) s) :=
  .of_wp fun prog w A R s h => by
    obtain ⟨hp, g, d, tk, os⟩ := s
    obtain ⟨hl, h⟩ := h
    have f1 := AutoSeq1.idx_int
    wp_walk using wpAny_loadPart' hl
    repeat (first
      | (refine wpAny_ite_false (decide_eq_false (by rw [c0]; exact Bool.false_ne_true)) ?_; wp_walk using wpAny_loadPart' hl)
      | (refine wpAny_ite_true (decide_eq_true c1) ?_; wp_walk using wpAny_loadPart' hl))
    exact ⟨_, rfl, h⟩
theorem tupMul_none (l : Addr) (items : Array Value) (n : Nat) (dd : Option Addr) (sl : Array (Option Value)) (x : Int) (u : Tok) (c0 : (decide (x < -(2 ^ 63)) || decide (x ≥ 2 ^ 63)) = false) (c1 : (items.isEmpty || x == 1) = false) (c2 : (decide (x ≤ 0) || items.isEmpty) = true) :
    Meets (Builtin.«tuple.__mul__» ⟨[.ref l, .int x u], []⟩) (fun _ R s => s.heap.get? l = some { cls := .type "tuple", dict := dd, data := .seq items n, slots := sl } ∧
      R (.ok (.ret (Value.ref s.heap.objs.size))) { s with heap := s.heap.push { cls := Value.type "tuple", data := Data.seq #[] }, toks := s.toks }) :=
  .of_wp fun prog w A R s h => by
    obtain ⟨hp, g, d, tk, os⟩ := s
    obtain ⟨hl, h⟩ := h
    have f1 := AutoSeq1.idx_int
    wp_walk using wpAny_loadPart' hl
    repeat (first
      | (refine wpAny_ite_false (decide_eq_false (by rw [c0]; exact Bool.false_ne_true)) ?_; wp_walk using wpAny_loadPart' hl)
      | (refine wpAny_ite_false (decide_eq_false (by rw [c1]; exact Bool.false_ne_true)) ?_; wp_walk using wpAny_loadPart' hl)
      | (refine wpAny_ite_true (decide_eq_true c2) ?_; wp_walk using wpAny_loadPart' hl))
    exact ⟨_, rfl, h⟩
/-- a tuple times k where the result is itself, or the empty tuple -/
def rRepT1 (K : PySem.W.Frag) : R2 := fun x y H Q => ∃ l k xs, x = .ref l ∧ y = .int k ∧ SqT K H l xs ∧ -(2 ^ 63) ≤ k ∧ k < 2 ^ 63 ∧ (((xs = [] ∨ k = 1) ∧ Q (.ref l) H) ∨ (xs ≠ [] ∧ k ≤ 0 ∧ ∀ p, H p = none → Q (.ref p) (upd H p (.tup []))))
variable {X : Cx}
theorem op_repT1 : OpR X (binaryOp .Mult) (rRepT1 X.K) := by
  intro pins s σ H x y v u Q I rx ry h
  obtain ⟨l, k, xs, rfl, rfl, hT, h1, h2, q⟩ := h
  cases rx
  obtain ⟨t, rfl⟩ := ry
  obtain ⟨its, r, ⟨⟨cls, dd, data, sl⟩, ho, hc, n, hd⟩, hs⟩ := I.tuple hT
  simp only at hc hd
  subst hc hd
  have hle : its.length = xs.length := r.length.symm
  have c0 : (decide (k < -(2 ^ 63)) || decide (k ≥ 2 ^ 63)) = false := by
    rw [decide_eq_false (by omega), decide_eq_false (by omega)] <;> rfl
  rcases q with ⟨hx, q⟩ | ⟨hne, hk, q⟩
  · have c1 : (its.toArray.isEmpty || k == 1) = true := by
      rcases hx with hx | hx
      · have : its = [] := List.eq_nil_of_length_eq_zero (by rw [hle, hx]; rfl)
        subst this; rfl
      · subst hx; simp
    exact wpAny_binaryOp_repeat_ref (T := "tuple") (U := "int") (by decide) ⟨_, ho, rfl⟩ (fun s' => PySem.typeIs_int s' k t) noFill_tuple_mul PySem.F.fills_int_mul PySem.F.slot_int_rmul repeat_tuple PySem.F.slot_int_index.lookup
      (call_meets PySem.F.slot_int_rmul (PySem.typeIs_int s k t) PySem.F.entry_int_rmul (PySem.F.args_int_rmul_2 _ _) (int_rmul_tuple k t l its.toArray n dd sl)
        ⟨ho, rfl, ⟨_, ho, rfl⟩, call_meets PySem.F.slot_tuple_mul ⟨_, ho, rfl⟩ PySem.F.entry_tuple_mul (PySem.F.args_tuple_mul_2 _ _) (tupMul_same l its.toArray n dd sl k t c0 c1) ⟨ho, ⟨.ref l, H, I, rfl, q⟩⟩⟩)
  · have hn : its ≠ [] := fun e => hne (List.eq_nil_of_length_eq_zero (by rw [← hle, e]; rfl))
    have hi : its.toArray.isEmpty = false := by
      cases its with
      | nil => exact absurd rfl hn
      | cons a b => rfl
    have c1 : (its.toArray.isEmpty || k == 1) = false := by
      rw [hi, Bool.false_or]
      exact beq_eq_false_iff_ne.mpr (by omega)
    have c2 : (decide (k ≤ 0) || its.toArray.isEmpty) = true := by rw [decide_eq_true hk]; rfl
    refine wpAny_binaryOp_repeat_ref (T := "tuple") (U := "int") (by decide) ⟨_, ho, rfl⟩ (fun s' => PySem.typeIs_int s' k t) noFill_tuple_mul PySem.F.fills_int_mul PySem.F.slot_int_rmul repeat_tuple PySem.F.slot_int_index.lookup
      (call_meets PySem.F.slot_int_rmul (PySem.typeIs_int s k t) PySem.F.entry_int_rmul (PySem.F.args_int_rmul_2 _ _) (int_rmul_tuple k t l its.toArray n dd sl)
        ⟨ho, rfl, ⟨_, ho, rfl⟩, call_meets PySem.F.slot_tuple_mul ⟨_, ho, rfl⟩ PySem.F.entry_tuple_mul (PySem.F.args_tuple_mul_2 _ _) (tupMul_none l its.toArray n dd sl k t c0 c1 c2) ⟨ho, ?_⟩⟩)
    refine ⟨.ref s.heap.objs.size, _, I.laid (t' := s.toks) (o := .tup []) (fun b ob q => Heap.get?_push_of_some _ q) (Nat.le_refl _) ?_, rfl, q _ (I.hok.fresh (Nat.le_refl _))⟩
    exact ⟨Nat.zero_le _, [], .nil, PyProof.Rows.IsTup.new _ _⟩
end
def mulT : D → D → Option D
  | .tup l, .int k => if -(2 ^ 63) ≤ k ∧ k < 2 ^ 63 then (if l.isEmpty = true ∨ k = 1 then some (.tup l) else if k ≤ 0 then some (.tup []) else if k ≤ 1000 ∧ l.length ≤ 1000 then some (.tup (List.replicate k.toNat l).flatten) else none) else none
  | _, _ => none
def mulB (a b : D) : Option D := match mulT a b with
  | some d => some d
  | none => mulA a b
theorem Reps.flat {W : Wd} {S : Addr → Prop} {H : Hp} {l : List D} {vs : List V} (r : Reps W S H l vs) : ∀ n : Nat, Reps W S H (List.replicate n l).flatten (List.replicate n vs).flatten
  | 0 => .nil
  | n + 1 => by
    rw [List.replicate_succ, List.replicate_succ, List.flatten_cons, List.flatten_cons]
    exact r.append (Reps.flat r n)
section
variable {X : Cx} {F : Fr} {k : Nat} {a b : Expr} {fa fb : SEnv → M D} {pos : Pos}
theorem opd_mulT : OpD F (fun x y H Q => rRepT1 F.K x y H Q ∨ rRepT F.K x y H Q) mulT RV := by
  intro S H0 H d1 d2 d v1 v2 Q mt hk hn r1 r2 e kk
  unfold mulT at e
  split at e
  · rename_i l k
    obtain ⟨hk1, e⟩ : (-(2 ^ 63) ≤ k ∧ k < 2 ^ 63) ∧ (if l.isEmpty = true ∨ k = 1 then some (D.tup l) else if k ≤ 0 then some (.tup []) else if k ≤ 1000 ∧ l.length ≤ 1000 then some (.tup (List.replicate k.toNat l).flatten) else none) = some d := by
      by_cases h : -(2 ^ 63) ≤ k ∧ k < 2 ^ 63
      · rw [if_pos h] at e; exact ⟨h, e⟩
      · rw [if_neg h] at e; cases e
    obtain ⟨p, vs, rfl, q, rs⟩ := r1.tup
    have hlen := rs.length
    by_cases h1 : l.isEmpty = true ∨ k = 1
    · rw [if_pos h1] at e
      cases e
      refine .inl ⟨p, k, vs, rfl, r2.int, q, hk1.1, hk1.2, .inl ⟨?_, kk _ H (Same.refl _) (by show Rep _ _ _ (.tup l) _; unfold Rep; exact ⟨p, vs, rfl, q, rs⟩)⟩⟩
      rcases h1 with h1 | h1
      · left
        have : l = [] := List.isEmpty_iff.mp h1
        subst this
        exact List.eq_nil_of_length_eq_zero hlen.symm
      · exact .inr h1
    · rw [if_neg h1] at e
      have hne : vs ≠ [] := fun z => h1 (.inl (by rw [z] at hlen; rw [List.eq_nil_of_length_eq_zero hlen]; rfl))
      by_cases h2 : k ≤ 0
      · rw [if_pos h2] at e
        cases e
        exact .inl ⟨p, k, vs, rfl, r2.int, q, hk1.1, hk1.2, .inr ⟨hne, h2, fun w hw => kk _ _ (upd_Same hw) (new_tup mt .nil hw)⟩⟩
      · rw [if_neg h2] at e
        by_cases h3 : k ≤ 1000 ∧ l.length ≤ 1000
        · rw [if_pos h3] at e
          cases e
          exact .inr ⟨p, k, vs, rfl, r2.int, q, hne, by have : k ≠ 1 := fun z => h1 (.inr z); omega, h3.1, by omega, fun w hw => kk _ _ (upd_Same hw) (new_tup mt (rs.flat k.toNat) hw)⟩
        · rw [if_neg h3] at e; cases e
  · cases e
theorem OpD.or2 {r r' : R2} {g g' : D → D → Option D} (h : OpD F r g RV) (h' : OpD F r' g' RV) : OpD F (fun x y H Q => r x y H Q ∨ r' x y H Q) (fun a b => match g a b with
  | some d => some d
  | none => g' a b) RV := by
  intro S H0 H d1 d2 d v1 v2 Q mt hk hn r1 r2 e kk
  cases q : g d1 d2 with
  | some d' =>
    have e : (match g d1 d2 with
      | some d => some d
      | none => g' d1 d2) = some d := e
    rw [q] at e
    cases e
    exact .inl (h S H0 H d1 d2 d v1 v2 Q mt hk hn r1 r2 q kk)
  | none =>
    have e : (match g d1 d2 with
      | some d => some d
      | none => g' d1 d2) = some d := e
    rw [q] at e
    exact .inr (h' S H0 H d1 d2 d v1 v2 Q mt hk hn r1 r2 e kk)
theorem ev_mulB (o : On X F k) (ha : EVB X F a fa) (hb : EVB X F b fb) : EV X F (.BinOp a .Mult b pos) (eOp mulB fa fb) :=
  ev_op ((op_repT1.or op_repT).or (op_mul.or op_rep)) (OpD.or2 (by rw [o.K]; exact opd_mulT) (OpD.orV opd_mul opd_mulL)) ha hb
end
end PL

set_option Elab.async false
set_option linter.all false
set_option maxRecDepth 100000
set_option maxHeartbeats 4000000
/-! PL24: enumerate over a tuple. -/
namespace PySem
open Sem (wp)
open AutoSeq1 (wpAny_loadPart')
/-- enumerate(t) made, t a tuple -/
theorem pl_enumNewT (l : Addr) (items : Array Value) (n : Nat) (dct : Option Addr) (sl : Array (Option Value)) :
    Meets (Builtin.«enumerate.__new__» ⟨[.type "enumerate", .ref l], []⟩) (fun _ R s => s.heap.get? l = some { cls := .type "tuple", dict := dct, data := .seq items n, slots := sl } ∧
      R (.ok (.ret (.ref (s.heap.push { cls := .type "tuple_iterator", data := .fields #[.ref l, .int 0 0] }).objs.size)))
        { s with heap := (s.heap.push { cls := .type "tuple_iterator", data := .fields #[.ref l, .int 0 0] }).push { cls := .type "enumerate", data := .fields #[.none, .bool false, .ref s.heap.objs.size, rawInt 0, .none, .none] } }) :=
  .of_wp fun prog w A R s h => by
    obtain ⟨hp, g, d, tk, os⟩ := s
    obtain ⟨hl, h⟩ := h
    have hT : Heap.IsTuple (Shared.heap ⟨hp, g, d, tk, os⟩) l items := ⟨_, hl, rfl, n, rfl⟩
    have hsub := sub_enumerate
    wp_walk using wpAny_loadPart' hl
    refine wpAny_stack_any fun st => wpAny_pure ?_
    split
    · rename_i c _ _ _ _ _
      cases (c == Value.type "enumerate") <;> (wp_walk using wpAny_loadPart' hl, wpAny_pyIter_tuple hT; exact ⟨_, rfl, h⟩)
    · wp_walk using wpAny_loadPart' hl, wpAny_pyIter_tuple hT
      exact ⟨_, rfl, h⟩
section
variable {prog : Program} {w : World} {A : Around} {E : Value → Shared → Prop} {s : Shared}
theorem pl_callEnumT {l : Addr} {items : Array Value} {Q : Value → Shared → Prop} (hL : s.heap.IsTuple l items)
    (h : ∀ h', IsEnum h' (s.heap.objs.size + 1) s.heap.objs.size 0 .none → h'.IsTupleIter s.heap.objs.size l 0 → h'.objs.size = s.heap.objs.size + 2 → (∀ b o, s.heap.get? b = some o → h'.get? b = some o) → Q (.ref (s.heap.objs.size + 1)) { s with heap := h' }) :
    wpAny (model prog w) A (call (.type "enumerate") [.ref l]) Q E s := by
  obtain ⟨⟨c, dct, dt, sl⟩, hl, hc, n, hd⟩ := hL
  have hc : c = .type "tuple" := hc
  have hd : dt = .seq items n := hd
  subst hc hd
  refine callType_new F.called_enumerate (by decide) (F.typeCall_enumerate_1 _) (F.newCall_enumerate_1 _) (fun obj => F.args_object_init_2 obj _) F.entry_enumerate_new (pl_enumNewT l items n dct sl) ⟨hl, ?_⟩
  have hz : (s.heap.push { cls := .type "tuple_iterator", data := .fields #[.ref l, .int 0 0] }).objs.size = s.heap.objs.size + 1 := Heap.size_push ..
  show _ ∧ _
  rw [hz]
  have he : IsEnum ((s.heap.push { cls := .type "tuple_iterator", data := .fields #[.ref l, .int 0 0] }).push { cls := .type "enumerate", data := .fields #[.none, .bool false, .ref s.heap.objs.size, rawInt 0, .none, .none] }) (s.heap.objs.size + 1) s.heap.objs.size 0 .none := by
    have z := Heap.get?_push_size (s.heap.push { cls := .type "tuple_iterator", data := .fields #[.ref l, .int 0 0] }) (o := { cls := .type "enumerate", data := .fields #[.none, .bool false, .ref s.heap.objs.size, rawInt 0, .none, .none] }) rfl
    rw [hz] at z
    exact z
  exact ⟨⟨_, he, rfl⟩, h _ he ⟨_, Heap.get?_push_of_some _ (Heap.get?_push_size _ rfl), rfl, rfl⟩ (by rw [Heap.size_push, hz]) fun b o x => Heap.get?_push_of_some _ (Heap.get?_push_of_some _ x)⟩
end
end PySem
namespace PL
open PySem L2
variable [TabL]
/-- the tuple at a, its items in new pairs with their numbers -/
def IteT (K : PySem.W.Frag) (a : Addr) : It :=
  ⟨fun i H => ∃ (xs : List V) (x : V), SqT K H a xs ∧ xs[i]? = some x, fun i H v H' => ∃ T x, v = .ref T ∧ H T = none ∧ H' = upd H T (.tup [.int (i : Nat), x]) ∧ ∀ xs, SqT K H a xs → xs[i]? = some x, fun i H => ∃ xs : List V, SqT K H a xs ∧ xs.length = i⟩
theorem turn_enumT {P : Program} {w : World} {K : PySem.W.Frag} {elts : List Expr} {kk : Nat} {tpos : Pos} (a e it : Addr) :
    Turn P w K (.Tuple elts kk tpos) (IteT K a) [e, it] e (fun i h => (∃ old, IsEnum h e it ((i : Nat) : Int) old) ∧ h.IsTupleIter it a i ∧ e ≠ it) where
  mem := by simp
  obj := fun i h st b hb => by
    obtain ⟨⟨old, he⟩, ⟨o, ho, hc, hd⟩, _⟩ := st
    rcases (by simpa using hb : b = e ∨ b = it) with z | z
    · rw [z]
      exact ⟨_, he, fun v q => nomatch q⟩
    · rw [z]
      exact ⟨o, ho, fun v q => (by rw [hd] at q; cases q)⟩
  keep := fun i h h' st k => ⟨st.1.imp fun old he => k e (by simp) _ he, st.2.1.at fun o q => k it (by simp) o q, st.2.2⟩
  item := by
    intro X hP hw hK hc i pins s σ H E I hf st hg
    subst hP hw hK
    obtain ⟨⟨old, he⟩, hit, hne⟩ := st
    obtain ⟨xs, x, hq, hx⟩ := hg
    obtain ⟨its, rv, p, hz⟩ := I.tuple hq
    obtain ⟨u, hu, ru⟩ := rv.get hx
    have hel : e < s.heap.objs.size := Heap.lt_size he
    have hil : it < s.heap.objs.size := by obtain ⟨_, q, _⟩ := hit; exact Heap.lt_size q
    have hea : e ≠ a := fun z => by
      obtain ⟨o, ho, hcl, _⟩ := p
      rw [← z, he] at ho
      cases ho
      exact absurd (show Value.type "enumerate" = Value.type "tuple" from hcl) (by decide)
    have hai : a ≠ it := fun z => by
      obtain ⟨o, ho, hcl, n, hd⟩ := p
      obtain ⟨o', ho', hc', hd'⟩ := hit
      rw [z, ho'] at ho
      cases ho
      rw [hd'] at hd
      cases hd
    have hlt : i < its.toArray.size := by
      rw [List.size_toArray]
      exact (List.getElem?_eq_some_iff.mp hu).1
    refine wpAny_pyNext_enum_itemD (Draws.tuple (A := X.A.in1) (show X.A.in1.handled = none from I.ok.hd hc) it a hai its.toArray) he ⟨hit, p⟩ hlt hne (by simp [hne, hea]) fun y h' tk hy ho hSt hT hsz hk => ?_
    have ey : y = u := by
      have hy : its.toArray[i]? = some y := hy
      rw [List.getElem?_toArray, hu] at hy
      exact (Option.some.inj hy).symm
    subst ey
    refine ⟨_, rfl, wpAny_letOwnedTupleGo_enum (s := { s with heap := h', toks := tk + 1 }) ho fun h'' he' sb => ?_⟩
    have hT2 : h''.get? s.heap.objs.size = some { cls := .type "tuple", data := .seq #[.int i tk, y] } := (sb.2 _ (Nat.ne_of_gt hel)).trans hT
    have new : ObjOk X.prog X.w (upd H s.heap.objs.size (.tup [.int (i : Nat), x])) h'' s.heap.objs.size (.tup [.int (i : Nat), x]) :=
      ⟨by show 2 ≤ sizeLine; decide, [.int i tk, y], .cons ⟨_, rfl⟩ (.cons ru .nil), ⟨_, hT2, rfl, _, rfl⟩⟩
    have I1 : Inv X pins σ (upd H s.heap.objs.size (.tup [.int (i : Nat), x])) { s with heap := h'', toks := tk + 1 } :=
      I.turnedNew (ch := [e, it]) (fun b ob hb q => (sb.2 b (fun z => hb (by simp [z]))).trans (hk b ob (fun z => hb (by simp [z])) (fun z => hb (by simp [z])) q)) hf (Nat.le_refl _) new
    refine ⟨.ref s.heap.objs.size, _, I1, rfl, ⟨_, x, rfl, I.hok.fresh (Nat.le_refl _), rfl, fun ys hy => by rw [I.tuple_inj hy hq]; exact hx⟩, ⟨⟨y, ?_⟩, hSt.1.at fun o q => (sb.2 it (Ne.symm hne)).trans q, hne⟩, fun b hb => ?_⟩
    · rw [show ((i + 1 : Nat) : Int) = (i : Int) + 1 from by omega]
      exact he'
    · have hb' : b < s.heap.objs.size := by
        rcases (by simpa using hb : b = e ∨ b = it) with z | z
        · rw [z]; exact hel
        · rw [z]; exact hil
      rw [upd_ne (Nat.ne_of_lt hb')]
      exact (hf b hb).1
  done := by
    intro X hP hw hK hc i pins s σ H E I hf st hg
    subst hP hw hK
    obtain ⟨⟨old, he⟩, hit, hne⟩ := st
    obtain ⟨xs, hq, hx⟩ := hg
    obtain ⟨its, rv, p, hz⟩ := I.tuple hq
    have hai : a ≠ it := fun z => by
      obtain ⟨o, ho, hcl, n, hd⟩ := p
      obtain ⟨o', ho', hc', hd'⟩ := hit
      rw [z, ho'] at ho
      cases ho
      rw [hd'] at hd
      cases hd
    obtain ⟨f0, f1, f2, f3, f4, f5⟩ := hf it (by simp)
    have ei : i = its.toArray.size := by rw [List.size_toArray, ← hx, rv.length]
    rw [ei] at hit
    exact wpAny_pyNext_enum_endD (Draws.tuple (A := X.A.in1) (show X.A.in1.handled = none from I.ok.hd hc) it a hai its.toArray) he ⟨hit, p⟩ fun h' eb => ⟨rfl, I.turned (t' := s.toks) (fun b o hb q => eb b o hb q) f0 f1 f3 f4 f5⟩
  self := fun A i s Q E st h => let ⟨⟨_, he⟩, _⟩ := st; wpAny_pyIter_enum he h
def iEnumT (K : PySem.W.Frag) (ta : TA) : TI := fun σ H R => ta σ H fun vs H1 => ∃ a xs, vs = [.ref a] ∧ SqT K H1 a xs ∧ R (IteT K a) H1
theorem pi_enumT {X : Cx} {e : Expr} {ta : TA} {p pos tpos : Pos} {elts : List Expr} {kk : Nat} (hg : Gl X "enumerate") (hm : X.mg "enumerate" = none) (ha : PA X [e] ta) (hs : starEach [e] X.env = [(false, eval e X.env)] := by rfl) :
    PI X (.Tuple elts kk tpos) (.Call (.Name "enumerate" p) [e] [] pos) (iEnumT X.K ta) := by
  refine ⟨fun pins s σ H R I h => ?_⟩
  refine PyProof.Rows.Call_ (ld_blt I hg hm PyProof.Rows.boot_enumerate (PyProof.Rows.callWith_type1 (thn (ha.run pos pins s σ H _ I h) fun us s1 ⟨vs, H1, I1, r1, q1⟩ => ?_) hs rfl))
  obtain ⟨a, xs, ex, hq, q⟩ := q1
  subst ex
  cases r1 with
  | cons r rr =>
    cases rr
    cases r
    obtain ⟨its, rv, p', hz⟩ := I1.tuple hq
    refine pl_callEnumT p' fun h' he hit hsz hk => wpAny_pyIter_enum he ?_
    refine ⟨s1.heap.objs.size + 1, [s1.heap.objs.size + 1, s1.heap.objs.size], _, _, H1, rfl, I1.kept (t' := s1.toks) hk, turn_enumT a (s1.heap.objs.size + 1) s1.heap.objs.size, ⟨⟨.none, he⟩, hit, Nat.succ_ne_self _⟩, fun b hb => ?_, q⟩
    have hle : s1.heap.objs.size ≤ b := by
      rcases (by simpa using hb : b = s1.heap.objs.size + 1 ∨ b = s1.heap.objs.size) with z | z
      · rw [z]; exact Nat.le_succ _
      · rw [z]; exact Nat.le_refl _
    exact I1.fpOk hle (I1.hok.fresh hle)
def enumA : D → Option (List D)
  | .lst l => some (enumL 0 l)
  | .tup l => some (enumL 0 l)
  | _ => none
section
variable {X : Cx} {F : Fr} {k : Nat} {S : Addr → Prop} {H1 : Hp}
theorem itok_enumT {b : Bool} {a : Addr} {vs : List V} {l : List D} (es : ∀ a, S a → Mut (H1 a)) (hp : ∀ a, F.pa = some a → S a) (h : SqT F.K H1 a vs) (r : Reps F.toWd S H1 l vs) : ItOk F (Fut b F S H1) (IteT F.K a) (enumL 0 l) := by
  intro H S' fut mt
  have g : Goes S S' H1 H := by
    cases b with
    | false => exact fut
    | true =>
      obtain ⟨e, sb⟩ := (show Ext F H1 H ∧ ∀ a, S' a → S a ∨ H1 a = none from fut)
      exact ⟨(e.goes es hp).keep, sb, es⟩
  have h2 := g.sqt h
  have r2 := Reps.goes g _ _ r
  refine ⟨fun i hi => ?_, vs, h2, by rw [enumL_length, r.length]⟩
  have hi' : i < vs.length := by rw [enumL_length] at hi; rw [← r.length]; exact hi
  refine ⟨⟨vs, vs[i], h2, List.getElem?_eq_getElem hi'⟩, fun x H' ⟨T, y, ex, hT, eH, yy⟩ => ?_⟩
  subst ex eH
  obtain ⟨d, e, q⟩ := r2.get' (yy vs h2)
  have g : Goes S' S' H (upd H T (.tup [.int (i : Nat), y])) := ⟨fun c o h _ nt => (upd_Same hT).get _ _ h id nt, fun _ w => .inl w, mt⟩
  refine ⟨upd_Same hT, _, enumL_get 0 l i d e, ?_⟩
  rw [Nat.zero_add]
  unfold Rep
  refine ⟨T, _, rfl, SqT.of upd_same, .cons (by unfold Rep; rfl) (.cons (Rep.goes g _ _ q) .nil)⟩
theorem ei_enumA' (b : Bool) {e : Expr} {f : SEnv → M D} {p pos tpos : Pos} {elts : List Expr} {kk : Nat} (o : On X F k) (hm : F.mg "enumerate" = none) (hg : Gl X "enumerate") (he : EXP (RI b) X F e f) (hs : starEach [e] X.env = (false, eval e X.env) :: starEach [] X.env := by rfl) :
    EI b X F (.Tuple elts kk tpos) (.Call (.Name "enumerate" p) [e] [] pos) (eItems enumA f) :=
  PI.weak (PI.or (ei_enum' b o hg hm he hs) (pi_enumT hg (by rw [o.mg]; exact hm) (pa_cons he pa_nil hs) hs)) fun σ H R q => by
    obtain ⟨S, Γ, p, es, q⟩ := q
    have q := OutOk.bind.mp q
    cases g : f Γ p with
    | bad => rw [g] at q; exact q.elim
    | exc z =>
      rw [g] at q
      exact .inl ⟨S, Γ, p, es, OutOk.bind.mpr (by rw [g]; exact q)⟩
    | ok y =>
      obtain ⟨d, p1⟩ := y
      rw [g] at q
      have q : OutOk F (ofOpt (enumA d) p1) _ := q
      cases d with
      | lst l => exact .inl ⟨S, Γ, p, es, OutOk.bind.mpr (by rw [g]; exact q)⟩
      | tup l =>
        refine .inr ⟨S, Γ, p, es, ?_⟩
        rw [g]
        intro v H1 e1 q1 r1
        have es1 := es.ext e1 q1
        have r1' : RepT F S H1 (.tup l) v := by
          cases b with
          | true => exact r1
          | false => exact .inl r1
        obtain ⟨a, vs, rfl, h, rs⟩ := r1'.tup
        refine ⟨a, vs, rfl, by rw [o.K]; exact h, ?_⟩
        rw [o.K]
        exact (show ∀ (J : It) (H2 : Hp), Ext F H H2 → PotOk F H2 p1 → ItOk F (Fut b F S H2) J (enumL 0 l) → R J H2 from q) _ H1 e1 q1 (itok_enumT es1.mt es1.pa h rs)
      | _ => exact q.elim
theorem ei_enumA {e : Expr} {f : SEnv → M D} {p pos tpos : Pos} {elts : List Expr} {kk : Nat} (o : On X F k) (hm : F.mg "enumerate" = none) (hg : Gl X "enumerate") (he : EV X F e f) (hs : starEach [e] X.env = (false, eval e X.env) :: starEach [] X.env := by rfl) :
    EI false X F (.Tuple elts kk tpos) (.Call (.Name "enumerate" p) [e] [] pos) (eItems enumA f) := ei_enumA' false o hm hg he hs
theorem ei_enumAB {e : Expr} {f : SEnv → M D} {p pos tpos : Pos} {elts : List Expr} {kk : Nat} (o : On X F k) (hm : F.mg "enumerate" = none) (hg : Gl X "enumerate") (he : EVB X F e f) (hs : starEach [e] X.env = (false, eval e X.env) :: starEach [] X.env := by rfl) :
    EI true X F (.Tuple elts kk tpos) (.Call (.Name "enumerate" p) [e] [] pos) (eItems enumA f) := ei_enumA' true o hm hg he hs
end
end PL

set_option Elab.async false
set_option linter.all false
set_option maxRecDepth 100000
set_option maxHeartbeats 4000000
/-! PL25: what the top has written, as facts. -/
namespace PL
open PySem L2
variable [TabL]
omit [TabL] in
theorem step {p q : Prop} (h : p) (k : p → q) : q := k h
section
variable {K : PySem.W.Frag} {h : Heap} {mg : Str → Option Value}
theorem defE_mk {x : Str} {st : Stmt} {ps : List Str} {f : Addr} {oc kV doc pm cdv ct : Value} {od an : Option Addr} {osl : Array (Option Value)} (X : K.In h) (G : h.Ns mainGlobals mg) (a : PySem.W.nsIn K mainGlobals x = some (some (.ref f)))
    (l : K.lookup f = some ⟨oc, od, .func (PySem.W.fnOf x x (defArgs st) (defBody st) (defScope st) .none kV doc pm an cdv ct), osl⟩) (c : PySem.W.codeIn K cdv x = true) (k : PySem.W.keepIn K (.ref f) = true)
    (b : ∀ (kV doc pm : Value) (an : Option Addr) (cdv ct : Value) (us : List Value), us.length = ps.length → bindArgs (PySem.W.fnOf x x (defArgs st) (defBody st) (defScope st) .none kV doc pm an cdv ct) ⟨us, []⟩ = pure (ps.zip us)) : DefE K mg x st ps :=
  ⟨f, _, fun_mk l c k, PySem.W.mg_of X G a, (fun_mk l c k).binds b⟩
theorem claE_mk {c qual : Str} {st : Stmt} {ps : List Str} {C f : Addr} {oc kV doc pm cdv ct : Value} {od an : Option Addr} {osl : Array (Option Value)} (X : K.In h) (G : h.Ns mainGlobals mg) (a : PySem.W.nsIn K mainGlobals c = some (some (.ref C))) (mk : PySem.W.makesIn K C = true)
    (i : PySem.W.findIn K (.ref C) "__init__" = some (some (.ref f))) (fn : PySem.W.isFn K (.ref f) = true) (kc : PySem.W.keepIn K (.ref C) = true) (l : K.lookup f = some ⟨oc, od, .func (PySem.W.fnOf "__init__" qual (defArgs st) (defBody st) (defScope st) .none kV doc pm an cdv ct), osl⟩) (cd : PySem.W.codeIn K cdv qual = true) (k : PySem.W.keepIn K (.ref f) = true)
    (b : ∀ (kV doc pm : Value) (an : Option Addr) (cdv ct : Value) (us : List Value), us.length = (("self" : Str) :: ps).length → bindArgs (PySem.W.fnOf "__init__" qual (defArgs st) (defBody st) (defScope st) .none kV doc pm an cdv ct) ⟨us, []⟩ = pure ((("self" : Str) :: ps).zip us)) : ClaE K mg c qual st ps :=
  ⟨C, f, _, PySem.W.mg_of X G a, ⟨mk, i, fn, kc⟩, fun_mk l cd k, (fun_mk l cd k).binds b⟩
theorem cls_mk {C : Addr} (pg : PySem.W.plainGet K C Str.empty = true) (hd : PySem.W.hasDictIn K C = true) (po : PySem.W.plainOver K C = true) (sa : PySem.W.findIn K (.ref C) "__setattr__" = some (some (.builtin "object.__setattr__"))) : Cls K C := ⟨pg, hd, po, sa⟩
theorem xcF_mk {P : Program} {x qual : Str} {st : Stmt} {ps : List Str} {C fI cc cda : Addr} {nm q : Str} {N : Addr} {bs bm : List Value} {sn : List Str} {sub : List Value} {ab : Bool} {col : Option Bool} {dd : Option Addr} {k0 k1 k2 k3 k5 : Option Value}
    {oc dV kV doc pm ct ccl cl : Value} {od an cdd cld : Option Addr} {osl ccs csl : Array (Option Value)} {vs : Array Value} {file : Str} {tf : Tok} (X : K.In h) (G : h.Ns mainGlobals mg) (a : PySem.W.nsIn K mainGlobals x = some (some (.ref C))) (sup : PySem.W.nsIn K mainGlobals "super" = some none)
    (co : K.lookup C = some (excClassObj nm q C N bs bm true sn sub ab col dd k0 k1 k2 k3 k5 "ValueError.__new__")) (rf : PySem.HandSPX.refsVE bm = true) (sa : PySem.W.findIn K (.ref C) "__setattr__" = some (some (.builtin "object.__setattr__"))) (ex : PySem.W.subIn K (.ref C) (.type "BaseException") = some true) (ty : PySem.W.typeIn K (.ref C) = some (.type "type")) (kc : PySem.W.keepIn K (.ref C) = true)
    (i : PySem.W.findIn K (.ref C) "__init__" = some (some (.ref fI))) (ti : PySem.W.typeIn K (.ref fI) = some (.type "function"))
    (l : K.lookup fI = some ⟨oc, od, .func (PySem.W.fnX "__init__" qual (defArgs st) (defBody st) (defScope st) [("__class__", cc)] dV kV doc pm an (.ref cda) ct), osl⟩) (cd : PySem.W.codeIn K (.ref cda) qual = true) (lc : K.lookup cda = some ⟨ccl, cdd, .fields vs, ccs⟩) (hv : vs[2]? = some (.str file tf)) (hf : ((P.main.file : Str) == file) = true)
    (ce : K.lookup cc = some ⟨cl, cld, .cell (some (.ref C)), csl⟩) (al : PySem.W.alongIn K "__init__" bm = some (some (.builtin "ValueError.__init__"))) (sv : PySem.W.subIn K (.ref C) (.type "ValueError") = some true) (op : PySem.W.nsIn K cStatics "thirdparty.any" = some none)
    (b : ∀ us : List Value, us.length = (("self" : Str) :: ps).length → bindArgs (PySem.W.fnX "__init__" qual (defArgs st) (defBody st) (defScope st) [("__class__", cc)] dV kV doc pm an (.ref cda) ct) ⟨us, []⟩ = pure ((("self" : Str) :: ps).zip us)) (ht : (P.main.scope.names.lookup ("super" : Str)).isSome = false) :
    XcF P K mg x st ps C fI cc cda (PySem.W.fnX "__init__" qual (defArgs st) (defBody st) (defScope st) [("__class__", cc)] dV kV doc pm an (.ref cda) ct) where
  mgC := PySem.W.mg_of X G a
  sup := PySem.W.mg_none_of X G sup
  ox := ⟨⟨nm, q, N, bs, bm, sn, sub, ab, col, dd, k0, k1, k2, k3, k5, co, rf⟩, sa, ex, ty, kc⟩
  iI := i
  tI := ti
  fn := ⟨oc, od, osl, qual, dV, kV, doc, pm, an, ct, ccl, cdd, vs, ccs, file, tf, rfl, l, cd, lc, hv, hf⟩
  cell := ⟨cl, cld, csl, ce⟩
  al := by
    have hcl : PySem.W.clsIn K C = some { name := nm, bases := bs, mro := .ref C :: bm, ns := N, qualname := q, hasDict := true, slotNames := sn, subclasses := sub, abstract := ab, collection := col, hasDel := false } := by unfold PySem.W.clsIn; rw [co] <;> rfl
    unfold PySem.W.ks_superIn
    rw [hcl, Option.bind_some, PySem.ESX.drop_own]
    exact al
  cls := by
    have hcl : PySem.W.clsIn K C = some { name := nm, bases := bs, mro := .ref C :: bm, ns := N, qualname := q, hasDict := true, slotNames := sn, subclasses := sub, abstract := ab, collection := col, hasDel := false } := by unfold PySem.W.clsIn; rw [co] <;> rfl
    exact ⟨_, hcl⟩
  sv := sv
  op := op
  bd := .all b
  htop := ht
end
end PL

set_option Elab.async false
set_option linter.all false
set_option maxRecDepth 100000
set_option maxHeartbeats 4000000
/-! PL26: further facts of the top. -/
namespace PL
open PySem L2
variable [TabL]
section
variable {P : Program} {w : World} {K : PySem.W.Frag} {h : Heap} {mg : Str → Option Value}
theorem const_int {x : Str} {i : Int} {t : Tok} (X : K.In h) (G : h.Ns mainGlobals mg) (a : PySem.W.nsIn K mainGlobals x = some (some (.int i t))) : ∃ u, mg x = some u ∧ CRel (.int i) u := ⟨_, PySem.W.mg_of X G a, .int i t⟩
theorem const_str {x y : Str} {t : Tok} (X : K.In h) (G : h.Ns mainGlobals mg) (a : PySem.W.nsIn K mainGlobals x = some (some (.str y t))) : ∃ u, mg x = some u ∧ CRel (.str y) u := ⟨_, PySem.W.mg_of X G a, .str y t⟩
theorem none_mk {x : Str} (X : K.In h) (G : h.Ns mainGlobals mg) (a : PySem.W.nsIn K mainGlobals x = some none) : mg x = none := PySem.W.mg_none_of X G a
theorem fld_mk {c f : Str} {C : Addr} (X : K.In h) (G : h.Ns mainGlobals mg) (a : PySem.W.nsIn K mainGlobals c = some (some (.ref C))) (cl : Cls K C) (n : PySem.W.findIn K (.ref C) f = some none) : FldF ⟨P, w, K, mg⟩ c f := ⟨C, PySem.W.mg_of X G a, cl, n⟩
theorem fa_of {c f : Str} (hf : FldF ⟨P, w, K, mg⟩ c f) : ∀ C, mg c = some (.ref C) → Cls K C ∧ NoAttr K C f := fun C hC => by
  obtain ⟨C', h1, h2, h3⟩ := hf
  have h1 : mg c = some (.ref C') := h1
  rw [hC] at h1
  cases h1
  exact ⟨h2, h3⟩
theorem cl_of {c f : Str} (hf : FldF ⟨P, w, K, mg⟩ c f) : ∃ C, mg c = some (.ref C) := let ⟨C, h1, _⟩ := hf; ⟨C, h1⟩
theorem insF_mk {c : Str} {C : Addr} (X : K.In h) (G : h.Ns mainGlobals mg) (a : PySem.W.nsIn K mainGlobals c = some (some (.ref C))) (cl : Cls K C) (ha : PySem.W.findIn K (.ref C) "__class__" = some (some (.builtin "object.__class__"))) (hn : PySem.W.specialIn K (.builtin "object.__class__") "__get__" = some (some (.builtin "getset_descriptor.__get__")))
    (htk : PySem.W.takesIn K (.builtin "object.__class__") = some true) (hm : PySem.W.mroIn K C (.type "object") = some true) (bt : ∀ T ∈ sixT, PySem.W.kitOne K (.ref C) (.type T) = some false) (tb : ∀ T ∈ sevenT, PySem.W.kitOne K (.type T) (.ref C) = some false) : ∃ C, mg c = some (.ref C) ∧ InsF K C :=
  ⟨C, PySem.W.mg_of X G a, ⟨cl, ha, hn, htk, hm, bt, tb⟩⟩
theorem ins_one {c : Str} (hi : ∃ C, mg c = some (.ref C) ∧ InsF K C) (hk : ∀ C, mg c = some (.ref C) → PySem.W.kitOne K (.ref C) (.ref C) = some true) : InsAll ⟨P, w, K, mg⟩ [c] := by
  obtain ⟨C, h1, h2⟩ := hi
  refine ⟨fun c' hc C' hC => ?_, fun c1 hc1 c2 hc2 C1 C2 h1' h2' => ?_⟩
  · rw [List.mem_singleton] at hc
    subst hc
    have hC : mg c' = some (.ref C') := hC
    rw [h1] at hC
    cases hC
    exact h2
  · rw [List.mem_singleton] at hc1 hc2
    subst hc1 hc2
    have e1 : mg c2 = some (.ref C1) := h1'
    have e2 : mg c2 = some (.ref C2) := h2'
    rw [e1] at e2
    cases e2
    rw [hk C1 e1, decide_eq_true rfl]
theorem cat_mk {cs : List Str} {x : Str} {C : Addr} (X : K.In h) (G : h.Ns mainGlobals mg) (a : PySem.W.nsIn K mainGlobals x = some (some (.ref C))) (e : ∀ c ∈ cs, ∃ D, PySem.W.nsIn K mainGlobals c = some (some (.ref D)) ∧ PySem.W.exmOne K (.ref D) (.ref C) = some (decide (x = c))) : CatF K mg cs x := by
  refine ⟨C, PySem.W.mg_of X G a, fun c hc C' hC => ?_⟩
  obtain ⟨D, h1, h2⟩ := e c hc
  have z := PySem.W.mg_of X G h1
  rw [hC] at z
  cases z
  exact h2
theorem xfE_mk {c n : Str} {C : Addr} (X : K.In h) (G : h.Ns mainGlobals mg) (a : PySem.W.nsIn K mainGlobals c = some (some (.ref C))) (t : XfC K C) (f : PySem.W.findIn K (.ref C) n = some none) : XfE K mg c n := ⟨C, PySem.W.mg_of X G a, t, f⟩
end
end PL

set_option Elab.async false
set_option linter.all false
set_option maxRecDepth 100000
set_option maxHeartbeats 4000000
/-! PL27: + and - with truth values, str of one. -/
namespace PL
open PySem L2
variable [TabL]
def bI (b : Bool) : Int := if b = true then 1 else 0
def addBl : D → D → Option D
  | .bl a, .int b => some (.int (bI a + b))
  | .int a, .bl b => some (.int (a + bI b))
  | _, _ => none
def subBl : D → D → Option D
  | .bl a, .int b => some (.int (bI a - b))
  | .int a, .bl b => some (.int (a - bI b))
  | _, _ => none
def addX (a b : D) : Option D := match addBl a b with
  | some d => some d
  | none => addA a b
def subX (a b : D) : Option D := match subBl a b with
  | some d => some d
  | none => subD a b
def strX : List D → Option D
  | [.bl b] => some (.str (if b then "True" else "False"))
  | [.non] => some (.str "None")
  | l => strD l
section
variable {X : Cx} {F : Fr} {k : Nat} {a b e : Expr} {fa fb f : SEnv → M D} {fs : SEnv → M (List D)} {pos p p2 : Pos}
def rBI (g : Int → Int → Int) : R2 := fun x y H Q => (∃ i j, x = .bl i ∧ y = .int j ∧ Q (.int (g (bI i) j)) H) ∨ ∃ i j, x = .int i ∧ y = .bl j ∧ Q (.int (g i (bI j))) H
theorem op_addBl : OpR X (binaryOp .Add) (rBI fun i j => i + j) := by
  intro pins s σ H x y v u Q I rx ry h
  rcases h with ⟨i, k, rfl, rfl, q⟩ | ⟨i, k, rfl, rfl, q⟩
  · obtain ⟨t, rfl⟩ := ry
    cases rx
    exact IntBool.add_bool_int ⟨.int (bI i + k), H, I.tok _, ⟨_, rfl⟩, q⟩
  · obtain ⟨t, rfl⟩ := rx
    cases ry
    exact add_int_bool ⟨.int (i + bI k), H, I.tok _, ⟨_, rfl⟩, q⟩
theorem op_subBl : OpR X (binaryOp .Sub) (rBI fun i j => i - j) := by
  intro pins s σ H x y v u Q I rx ry h
  rcases h with ⟨i, k, rfl, rfl, q⟩ | ⟨i, k, rfl, rfl, q⟩
  · obtain ⟨t, rfl⟩ := ry
    cases rx
    exact IntBool.sub_bool_int ⟨.int (bI i - k), H, I.tok _, ⟨_, rfl⟩, q⟩
  · obtain ⟨t, rfl⟩ := rx
    cases ry
    exact IntBool.sub_int_bool ⟨.int (i - bI k), H, I.tok _, ⟨_, rfl⟩, q⟩
theorem opd_addBl : OpD F (rBI fun i j => i + j) addBl RV := by
  intro S H0 H d1 d2 d v1 v2 Q mt hk hn r1 r2 e kk
  cases d1 <;> cases d2 <;> try cases e
  · rename_i a b
    rw [r1.bl, r2.int]
    exact .inl ⟨a, b, rfl, rfl, kk _ H (Same.refl _) rep_i⟩
  · rename_i a b
    rw [r1.int, r2.bl]
    exact .inr ⟨a, b, rfl, rfl, kk _ H (Same.refl _) rep_i⟩
theorem opd_subBl : OpD F (rBI fun i j => i - j) subBl RV := by
  intro S H0 H d1 d2 d v1 v2 Q mt hk hn r1 r2 e kk
  cases d1 <;> cases d2 <;> try cases e
  · rename_i a b
    rw [r1.bl, r2.int]
    exact .inl ⟨a, b, rfl, rfl, kk _ H (Same.refl _) rep_i⟩
  · rename_i a b
    rw [r1.int, r2.bl]
    exact .inr ⟨a, b, rfl, rfl, kk _ H (Same.refl _) rep_i⟩
theorem ev_addX (o : On X F k) (ha : EVB X F a fa) (hb : EVB X F b fb) : EV X F (.BinOp a .Add b pos) (eOp addX fa fb) :=
  ev_op (op_addBl.or ((op_add.or (op_add_str.or op_catA)).or op_cat)) (OpD.or2 opd_addBl (OpD.orV (by rw [o.K]; exact opd_add) opd_addL)) ha hb
theorem ev_subX (o : On X F k) (ha : EVB X F a fa) (hb : EVB X F b fb) : EV X F (.BinOp a .Sub b pos) (eOp subX fa fb) :=
  ev_op (op_subBl.or op_sub) (OpD.or2 opd_subBl opd_sub) ha hb
theorem call_str_bn : CallR X (.type "str") (fun xs H Q => (∃ b, xs = [.bl b] ∧ Q (.str (if b then "True" else "False")) H) ∨ (xs = [.non] ∧ Q (.str "None") H)) := by
  intro pins s σ H xs us Q I r h
  rcases h with ⟨b, rfl, q⟩ | ⟨rfl, q⟩
  · cases r with
    | cons h1 h2 =>
      cases h2
      cases h1
      exact PySem.P.str_of_bool ⟨.str _, H, I.tok _, ⟨_, rfl⟩, q⟩
  · cases r with
    | cons h1 h2 =>
      cases h2
      cases h1
      exact PySem.P.str_of_none ⟨.str _, H, I.tok _, ⟨_, rfl⟩, q⟩
theorem cd_strX : CallD F (fun xs H Q => ((∃ i, xs = [.int i] ∧ i.natAbs.log2 < 1920 ∧ Q (.str (toString i)) H) ∨ ∃ a, xs = [.str a] ∧ Q (.str a) H) ∨ ((∃ b, xs = [.bl b] ∧ Q (.str (if b then "True" else "False")) H) ∨ (xs = [.non] ∧ Q (.str "None") H))) strX RV := by
  intro S H0 H ds d vs Q mt hn r e kk
  unfold strX at e
  split at e
  · obtain ⟨v, rfl, r1⟩ := pir1 r
    cases e
    rw [r1.bl]
    exact .inr (.inl ⟨_, rfl, kk _ H (Same.refl _) rep_s⟩)
  · obtain ⟨v, rfl, r1⟩ := pir1 r
    cases e
    rw [r1.non]
    exact .inr (.inr ⟨rfl, kk _ H (Same.refl _) rep_s⟩)
  · exact .inl (cd_str S H0 H ds d vs Q mt hn r e kk)
theorem ev_strX (o : On X F k) (hm : F.mg "str" = none) (hg : Gl X "str") (ha : EA true X F [a] fs) (h1 : starEach [a] X.env = (false, eval a X.env) :: starEach [] X.env := by rfl) : EV X F (.Call (.Name "str" p) [a] [] pos) (eCall strX fs) :=
  ev_callTy ((call_str_int.or SkE.call_str_str).or call_str_bn) cd_strX hg (by rw [o.mg]; exact hm) (by decide +kernel) ha (he := h1)
end
end PL

set_option Elab.async false
set_option linter.all false
set_option maxRecDepth 100000
set_option maxHeartbeats 4000000
/-! PL28: the law's promise at the head. -/
namespace PL
open PySem L2
theorem lawAtS_mk {l : PySem.W.OpenLaw} {w : World} {K : PySem.W.Frag} {k : Nat} {mg : Str → Option Value} {f fa ct Pt : Addr} {h : Heap} {st : Stmt} {q : Str} {oc kV doc pm ctv : Value} {od an : Option Addr} {osl : Array (Option Value)} {ts : List Addr}
    (X : K.In h) (G : h.Ns mainGlobals mg) (Tb : ∀ P ∈ ts, h.get? P = some (PySem.W.tabObj #[])) (hm : mg "law" = some (.ref fa)) (a : PySem.W.nsIn K mainGlobals "law" = some (some (.ref f)))
    (lk : K.lookup f = some ⟨oc, od, .func (PySem.W.fnOf "law" "law" (defArgs st) (defBody st) (defScope st) .none kV doc pm an (.ref ct) ctv), osl⟩) (hts : Pt ∈ ts) (nl : K.lookup Pt = none) (hd : PySem.W.codeHdIn K ct Pt = true)
    (b : ∀ (kV doc pm : Value) (an : Option Addr) (cdv ctv u : Value), bindArgs (PySem.W.fnOf "law" "law" (defArgs st) (defBody st) (defScope st) .none kV doc pm an cdv ctv) ⟨[u], []⟩ = pure [(Str.ofString "script", u)])
    (cd : PySem.W.codeIn K (.ref ct) "law" = true)
    (ok : ∀ [I : TabL], TabL.T = [(Pt, q)] → ∀ base : Heap, K.In base → base.Ns mainGlobals mg → LamX.TabB base mg ct Pt → K.lookup f = some ⟨oc, od, .func (PySem.W.fnOf "law" "law" (defArgs st) (defBody st) (defScope st) .none kV doc pm an (.ref ct) ctv), osl⟩ → PySem.W.codeIn K (.ref ct) "law" = true → FnOk l.prog w K mg base (L2.CX l.prog w) k f (PySem.W.fnOf "law" "law" (defArgs st) (defBody st) (defScope st) .none kV doc pm an (.ref ct) ctv) ["script"] (spLaw K)) :
    LawAtG l w K (L2.CX l.prog w) k 63 "script" mg fa h := by
  letI : TabL := ⟨[(Pt, q)]⟩
  have e := PySem.W.mg_of X G a
  rw [hm] at e
  cases e
  refine ⟨_, [(ct, Pt)], spLaw K, ?_, ?_, ?_, fun s u => .of_eq (b kV doc pm an (.ref ct) ctv u), ?_, fun base KB GB TB => ok rfl base KB GB (TB (ct, Pt) (by simp)) lk cd⟩
  · intro p hp
    rw [List.mem_singleton] at hp; subst hp
    exact Tb Pt hts
  · intro p hp
    rw [List.mem_singleton] at hp; subst hp
    exact nl
  · intro p hp
    rw [List.mem_singleton] at hp; subst hp
    exact PySem.W.codeHd_of_K X hd
  · intro H a ns hl hb ht hs
    refine ⟨a, ns, rfl, hs, ?_, hl, hb, fun _ => rfl⟩
    intro p hp
    have hp : p ∈ [(Pt, q)] := hp
    rw [List.mem_singleton] at hp; subst hp
    exact LamX.TabS.nil (ht (ct, Pt) (by simp))
section
variable {P : Program} {w : World} {K : PySem.W.Frag} {h : Heap} {mg : Str → Option Value}
theorem insF_of {C : Addr} (cl : Cls K C) (ha : PySem.W.findIn K (.ref C) "__class__" = some (some (.builtin "object.__class__"))) (hn : PySem.W.specialIn K (.builtin "object.__class__") "__get__" = some (some (.builtin "getset_descriptor.__get__")))
    (htk : PySem.W.takesIn K (.builtin "object.__class__") = some true) (hm : PySem.W.mroIn K C (.type "object") = some true)
    (b1 : PySem.W.kitOne K (.ref C) (.type "bool") = some false) (b2 : PySem.W.kitOne K (.ref C) (.type "int") = some false) (b3 : PySem.W.kitOne K (.ref C) (.type "str") = some false) (b4 : PySem.W.kitOne K (.ref C) (.type "tuple") = some false) (b5 : PySem.W.kitOne K (.ref C) (.type "list") = some false) (b6 : PySem.W.kitOne K (.ref C) (.type "dict") = some false)
    (t0 : PySem.W.kitOne K (.type "NoneType") (.ref C) = some false) (t1 : PySem.W.kitOne K (.type "bool") (.ref C) = some false) (t2 : PySem.W.kitOne K (.type "int") (.ref C) = some false) (t3 : PySem.W.kitOne K (.type "str") (.ref C) = some false) (t4 : PySem.W.kitOne K (.type "tuple") (.ref C) = some false) (t5 : PySem.W.kitOne K (.type "list") (.ref C) = some false) (t6 : PySem.W.kitOne K (.type "dict") (.ref C) = some false) : InsF K C := by
  refine ⟨cl, ha, hn, htk, hm, ?_, ?_⟩
  · intro T hT
    simp only [sixT, List.mem_cons, List.not_mem_nil, or_false] at hT
    rcases hT with rfl | rfl | rfl | rfl | rfl | rfl <;> assumption
  · intro T hT
    simp only [sevenT, List.mem_cons, List.not_mem_nil, or_false] at hT
    rcases hT with rfl | rfl | rfl | rfl | rfl | rfl | rfl <;> assumption
/-- classes of plain instances, with their addresses -/
theorem insAll_mk (X : K.In h) (G : h.Ns mainGlobals mg) (cs : List (Str × Addr)) (a : ∀ p ∈ cs, PySem.W.nsIn K mainGlobals p.1 = some (some (.ref p.2))) (f : ∀ p ∈ cs, InsF K p.2) (two : ∀ p ∈ cs, ∀ r ∈ cs, PySem.W.kitOne K (.ref p.2) (.ref r.2) = some (decide (p.1 = r.1))) : InsAll ⟨P, w, K, mg⟩ (cs.map (·.1)) := by
  have at_ : ∀ p ∈ cs, ∀ C, mg p.1 = some (.ref C) → C = p.2 := fun p hp C hC => by
    have e := PySem.W.mg_of X G (a p hp)
    rw [hC] at e
    cases e; rfl
  refine ⟨fun c hc C hC => ?_, fun c1 h1 c2 h2 C1 C2 e1 e2 => ?_⟩
  · obtain ⟨p, hp, rfl⟩ := List.mem_map.mp hc
    have := at_ p hp C hC
    subst this
    exact f p hp
  · obtain ⟨p, hp, rfl⟩ := List.mem_map.mp h1
    obtain ⟨r, hr, rfl⟩ := List.mem_map.mp h2
    have := at_ p hp C1 e1
    have := at_ r hr C2 e2
    subst C1 C2
    exact two p hp r hr
theorem ins1_mk {c : Str} {C : Addr} (X : K.In h) (G : h.Ns mainGlobals mg) (a : PySem.W.nsIn K mainGlobals c = some (some (.ref C))) (f : InsF K C) (s : PySem.W.kitOne K (.ref C) (.ref C) = some true) : InsAll ⟨P, w, K, mg⟩ [c] := by
  refine insAll_mk X G [(c, C)] ?_ ?_ ?_
  · intro p hp; rw [List.mem_singleton] at hp; subst hp; exact a
  · intro p hp; rw [List.mem_singleton] at hp; subst hp; exact f
  · intro p hp r hr; rw [List.mem_singleton] at hp hr; subst hp hr; rw [s, decide_eq_true rfl]
/-- a class of exceptions and one of the handlers -/
theorem cat_one {x c : Str} {C D : Addr} {b : Bool} (a : PySem.W.nsIn K mainGlobals c = some (some (.ref D))) (e : PySem.W.exmOne K (.ref D) (.ref C) = some b) (hb : decide (x = c) = b) : ∃ D, PySem.W.nsIn K mainGlobals c = some (some (.ref D)) ∧ PySem.W.exmOne K (.ref D) (.ref C) = some (decide (x = c)) := ⟨D, a, by rw [hb]; exact e⟩
theorem cat_one2 {x c : Str} {C D : Addr} (a : PySem.W.nsIn K mainGlobals c = some (some (.ref D))) (e : PySem.W.exmOne K (.ref D) (.ref C) = some (decide (x = c))) : ∃ D, PySem.W.nsIn K mainGlobals c = some (some (.ref D)) ∧ PySem.W.exmOne K (.ref D) (.ref C) = some (decide (x = c)) := ⟨D, a, e⟩
end
theorem cx_false {P : Program} {w : World} {outer : List Env} {H : Hp} {s s' : Shared} {e : Value} (h : L2.CX P w outer H s (fun _ _ _ => False) e s') : False := by
  obtain ⟨_, _, _, _, _, _, _, _, _, _, _, _, f⟩ := h
  exact f
end PL

set_option Elab.async false
set_option linter.all false
set_option maxRecDepth 100000
set_option maxHeartbeats 4000000
/-! PL29: dicts whose keys are tuples: d[k], k in d, d[k] = v. -/
namespace PL
open PySem L2
variable [TabL]
def isTupD : D → Bool
  | .tup _ => true
  | _ => false
/-- a key: a tuple of keys, to depth 8 -/
def keyOf (d : D) : Option NestedKey := if isTupD d then (nkey d).bind fun k => if k.depth ≤ 8 then some k else none else none
theorem keyOf_some {d : D} {k : NestedKey} (h : keyOf d = some k) : isTupD d = true ∧ nkey d = some k ∧ k.depth ≤ 8 := by
  unfold keyOf at h
  split at h
  · rename_i ht
    cases e : nkey d with
    | none => rw [e] at h; cases h
    | some k' =>
      rw [e] at h
      have h : (if k'.depth ≤ 8 then some k' else none) = some k := h
      split at h
      · cases h; exact ⟨ht, rfl, by assumption⟩
      · cases h
  · cases h
def hasK (k : NestedKey) : List D → Bool
  | [] => false
  | x :: ks => decide (nkey x = some k) || hasK k ks
def lookK (k : NestedKey) : List D → List D → Option D
  | x :: ks, y :: ds => if nkey x = some k then some y else lookK k ks ds
  | _, _ => none
def putK1 (k : NestedKey) (x : D) : List D → List D
  | [] => [x]
  | x' :: ks => if nkey x' = some k then x' :: ks else x' :: putK1 k x ks
def putK2 (k : NestedKey) (y : D) : List D → List D → List D
  | x' :: ks, y' :: ds => if nkey x' = some k then y :: ds else y' :: putK2 k y ks ds
  | _, _ => [y]
/-- the entries behind d[k] = v -/
def putE (k : NestedKey) (b : Addr) (v : V) : List (NestedKey × Addr × V) → List (NestedKey × Addr × V)
  | [] => [(k, b, v)]
  | e :: es => if e.1 = k then (e.1, e.2.1, v) :: es else e :: putE k b v es
section
variable {W : Wd} {S : Addr → Prop} {H : Hp}
theorem nkeys_consE {x : D} {ks : List D} {l : List NestedKey} (h : nkeys (x :: ks) = some l) : ∃ k r, l = k :: r ∧ nkey x = some k ∧ nkeys ks = some r := by
  unfold nkeys at h
  cases e1 : nkey x with
  | none => rw [e1] at h; cases h
  | some k =>
    cases e2 : nkeys ks with
    | none => rw [e1, e2] at h; cases h
    | some r => rw [e1, e2] at h; cases h; exact ⟨k, r, rfl, rfl, rfl⟩
theorem nkeys_cons {x : D} {ks : List D} {k : NestedKey} {l : List NestedKey} : nkeys (x :: ks) = some (k :: l) ↔ nkey x = some k ∧ nkeys ks = some l := by
  constructor
  · intro h
    obtain ⟨k', r, e, h1, h2⟩ := nkeys_consE h
    cases e
    exact ⟨h1, h2⟩
  · rintro ⟨h1, h2⟩
    show (match nkey x, nkeys ks with
      | some k, some r => some (k :: r)
      | _, _ => none) = _
    rw [h1, h2]
theorem look_es {k : NestedKey} {d : D} : ∀ {es : List (NestedKey × Addr × V)} {ks ds : List D}, nkeys ks = some (es.map (·.1)) → Reps W S H ds (es.map (·.2.2)) → lookK k ks ds = some d →
    ∃ e, es.find? (fun e => decide (e.1 = k)) = some e ∧ Rep W S H d e.2.2
  | [], ks, ds, h1, h2, h3 => by
    unfold Reps at h2
    cases ds with
    | nil => cases ks <;> cases h3
    | cons y ds => obtain ⟨_, _, e, _⟩ := h2; cases e
  | e :: es, ks, ds, h1, h2, h3 => by
    cases ks with
    | nil => cases h1
    | cons x ks =>
      obtain ⟨q1, q2⟩ := nkeys_cons.mp (show nkeys (x :: ks) = some (e.1 :: es.map (·.1)) from h1)
      cases ds with
      | nil => cases h3
      | cons y ds =>
        unfold Reps at h2
        obtain ⟨v, r, ev, r1, r2⟩ := h2
        have ev : e.2.2 :: es.map (·.2.2) = v :: r := ev
        cases ev
        have h3 : (if nkey x = some k then some y else lookK k ks ds) = some d := h3
        by_cases hk : e.1 = k
        · rw [q1, if_pos (by rw [hk])] at h3
          cases h3
          exact ⟨e, by rw [List.find?_cons, decide_eq_true hk], r1⟩
        · rw [q1, if_neg (by simpa using hk)] at h3
          obtain ⟨e', f1, f2⟩ := look_es q2 r2 h3
          exact ⟨e', by rw [List.find?_cons, decide_eq_false hk]; exact f1, f2⟩
theorem has_es {k : NestedKey} : ∀ {es : List (NestedKey × Addr × V)} {ks : List D}, nkeys ks = some (es.map (·.1)) → (es.find? (fun e => decide (e.1 = k))).isSome = hasK k ks
  | [], ks, h1 => by
    cases ks with
    | nil => rfl
    | cons x ks => obtain ⟨_, _, e, _⟩ := nkeys_consE h1; cases e
  | e :: es, ks, h1 => by
    cases ks with
    | nil => cases h1
    | cons x ks =>
      obtain ⟨q1, q2⟩ := nkeys_cons.mp (show nkeys (x :: ks) = some (e.1 :: es.map (·.1)) from h1)
      show _ = (decide (nkey x = some k) || hasK k ks)
      rw [q1, List.find?_cons]
      by_cases hk : e.1 = k
      · rw [decide_eq_true hk, decide_eq_true (by rw [hk])]; rfl
      · rw [decide_eq_false hk, decide_eq_false (by simpa using hk), ← has_es q2]; rfl
theorem put_keys {k : NestedKey} {x : D} {b : Addr} {v : V} (hx : nkey x = some k) : ∀ {es : List (NestedKey × Addr × V)} {ks : List D}, nkeys ks = some (es.map (·.1)) → nkeys (putK1 k x ks) = some ((putE k b v es).map (·.1))
  | [], ks, h1 => by
    cases ks with
    | nil => show nkeys [x] = some [k]; exact nkeys_cons.mpr ⟨hx, rfl⟩
    | cons x ks => obtain ⟨_, _, e, _⟩ := nkeys_consE h1; cases e
  | e :: es, ks, h1 => by
    cases ks with
    | nil => cases h1
    | cons x' ks =>
      obtain ⟨q1, q2⟩ := nkeys_cons.mp (show nkeys (x' :: ks) = some (e.1 :: es.map (·.1)) from h1)
      unfold putK1 putE
      by_cases hk : e.1 = k
      · rw [q1, if_pos (by rw [hk]), if_pos hk]; exact h1
      · rw [q1, if_neg (by simpa using hk), if_neg hk]
        exact nkeys_cons.mpr ⟨q1, put_keys hx q2⟩
theorem put_reps1 {k : NestedKey} {x : D} {b : Addr} {v : V} (hx : nkey x = some k) (rx : Rep W S H x (.ref b)) : ∀ {es : List (NestedKey × Addr × V)} {ks : List D}, nkeys ks = some (es.map (·.1)) → Reps W S H ks (es.map fun e => V.ref e.2.1) → Reps W S H (putK1 k x ks) ((putE k b v es).map fun e => V.ref e.2.1)
  | [], ks, h1, _ => by
    cases ks with
    | nil => exact .cons rx .nil
    | cons x ks => obtain ⟨_, _, e, _⟩ := nkeys_consE h1; cases e
  | e :: es, ks, h1, h2 => by
    cases ks with
    | nil => cases h1
    | cons x' ks =>
      obtain ⟨q1, q2⟩ := nkeys_cons.mp (show nkeys (x' :: ks) = some (e.1 :: es.map (·.1)) from h1)
      unfold Reps at h2
      obtain ⟨u, r, eu, r1, r2⟩ := h2
      have eu : V.ref e.2.1 :: es.map (fun e => V.ref e.2.1) = u :: r := eu
      cases eu
      unfold putK1 putE
      by_cases hk : e.1 = k
      · rw [q1, if_pos (by rw [hk]), if_pos hk]; exact .cons r1 r2
      · rw [q1, if_neg (by simpa using hk), if_neg hk]
        exact .cons r1 (put_reps1 hx rx q2 r2)
theorem put_reps2 {k : NestedKey} {y : D} {b : Addr} {v : V} (ry : Rep W S H y v) : ∀ {es : List (NestedKey × Addr × V)} {ks ds : List D}, nkeys ks = some (es.map (·.1)) → Reps W S H ds (es.map (·.2.2)) → Reps W S H (putK2 k y ks ds) ((putE k b v es).map (·.2.2))
  | [], ks, ds, h1, _ => by
    cases ks with
    | nil => exact .cons ry .nil
    | cons x ks => obtain ⟨_, _, e, _⟩ := nkeys_consE h1; cases e
  | e :: es, ks, ds, h1, h2 => by
    cases ks with
    | nil => cases h1
    | cons x' ks =>
      obtain ⟨q1, q2⟩ := nkeys_cons.mp (show nkeys (x' :: ks) = some (e.1 :: es.map (·.1)) from h1)
      cases ds with
      | nil => unfold Reps at h2; cases h2
      | cons y' ds =>
        unfold Reps at h2
        obtain ⟨u, r, eu, r1, r2⟩ := h2
        have eu : e.2.2 :: es.map (·.2.2) = u :: r := eu
        cases eu
        unfold putK2 putE
        by_cases hk : e.1 = k
        · rw [q1, if_pos (by rw [hk]), if_pos hk]; exact .cons ry r2
        · rw [q1, if_neg (by simpa using hk), if_neg hk]
          exact .cons r1 (put_reps2 ry q2 r2)
theorem putE_keys {k : NestedKey} {b : Addr} {v : V} : ∀ {es : List (NestedKey × Addr × V)}, ∀ x, x ∈ (putE k b v es).map (·.1) → x = k ∨ x ∈ es.map (·.1)
  | [], x, h => by
    have h : x ∈ [k] := h
    exact .inl (by simpa using h)
  | e :: es, x, h => by
    unfold putE at h
    by_cases hk : e.1 = k
    · rw [if_pos hk] at h; exact .inr h
    · rw [if_neg hk] at h
      have h : x ∈ e.1 :: (putE k b v es).map (·.1) := h
      rcases List.mem_cons.mp h with rfl | h
      · exact .inr (by simp)
      · rcases putE_keys x h with h | h
        · exact .inl h
        · exact .inr (by rw [List.map_cons]; exact List.mem_cons_of_mem _ h)
theorem putE_nodup {k : NestedKey} {b : Addr} {v : V} : ∀ {es : List (NestedKey × Addr × V)}, (es.map (·.1)).Nodup → ((putE k b v es).map (·.1)).Nodup
  | [], _ => by show ([k] : List NestedKey).Nodup; simp
  | e :: es, h => by
    unfold putE
    by_cases hk : e.1 = k
    · rw [if_pos hk]; exact h
    · rw [if_neg hk]
      rw [List.map_cons, List.nodup_cons] at h ⊢
      refine ⟨fun q => ?_, putE_nodup h.2⟩
      rcases putE_keys _ q with q | q
      · exact hk q
      · exact h.1 q
theorem putE_length {k : NestedKey} {b : Addr} {v : V} : ∀ {es : List (NestedKey × Addr × V)}, (putE k b v es).length ≤ es.length + 1
  | [] => Nat.le_refl _
  | e :: es => by
    unfold putE
    split
    · simp
    · have := putE_length (k := k) (b := b) (v := v) (es := es); simp; omega
abbrev PairX (es : List (NestedKey × Addr × V)) (xs : List (NestedKey × Addr × Value)) : Prop := Paired (fun (p : NestedKey × Addr × V) (q : NestedKey × Addr × Value) => p.1 = q.1 ∧ p.2.1 = q.2.1 ∧ RelV p.2.2 q.2.2) es xs
theorem pairX_keys : ∀ {es : List (NestedKey × Addr × V)} {xs : List (NestedKey × Addr × Value)}, PairX es xs → es.map (·.1) = xs.map (·.1)
  | _, _, .nil => rfl
  | _, _, .cons h t => by rw [List.map_cons, List.map_cons, h.1, pairX_keys t]
theorem pairX_find {k : NestedKey} : ∀ {es : List (NestedKey × Addr × V)} {xs : List (NestedKey × Addr × Value)}, PairX es xs → (∀ e, es.find? (fun e => decide (e.1 = k)) = some e → ∃ x, xs.find? (fun e => decide (e.1 = k)) = some x ∧ RelV e.2.2 x.2.2) ∧
    (xs.find? (fun e => decide (e.1 = k))).isSome = (es.find? (fun e => decide (e.1 = k))).isSome
  | _, _, .nil => ⟨(fun _ h => by cases h), rfl⟩
  | _, _, .cons (l₁ := es) (l₂ := xs) (a := e) (b := x) h t => by
    obtain ⟨i1, i2⟩ := pairX_find (k := k) t
    rw [List.find?_cons, List.find?_cons, ← h.1]
    by_cases hk : e.1 = k
    · rw [decide_eq_true hk]
      exact ⟨fun e' he => by cases he; exact ⟨x, rfl, h.2.2⟩, rfl⟩
    · rw [decide_eq_false hk]
      exact ⟨i1, i2⟩
theorem storedH_cons {k : NestedKey} {b : Addr} {u : Value} {x : NestedKey × Addr × Value} {xs : List (NestedKey × Addr × Value)} (hk : ¬ x.1 = k) : storedH (x :: xs) k b u = x :: storedH xs k b u := by
  unfold storedH
  have e : atKey (x :: xs) k = atKey xs k := by
    unfold atKey; rw [List.find?_cons, decide_eq_false hk]
  rw [e]
  split
  · rw [List.map_cons]
    have : putAt k u x = x := by unfold putAt; rw [if_neg hk]
    rw [this]
  · rfl
theorem storedH_hit {k : NestedKey} {b : Addr} {u : Value} {x : NestedKey × Addr × Value} {xs : List (NestedKey × Addr × Value)} (hk : x.1 = k) (hn : k ∉ xs.map (·.1)) : storedH (x :: xs) k b u = (x.1, x.2.1, u) :: xs := by
  unfold storedH
  have e : atKey (x :: xs) k = some x.2 := by
    unfold atKey; rw [List.find?_cons, decide_eq_true hk]; rfl
  rw [e, if_pos (show (some x.2).isSome = true from rfl), List.map_cons]
  have : putAt k u x = (x.1, x.2.1, u) := by unfold putAt; rw [if_pos hk]
  rw [this]
  congr 1
  have : ∀ l : List (NestedKey × Addr × Value), k ∉ l.map (·.1) → l.map (putAt k u) = l := by
    intro l
    induction l with
    | nil => intro _; rfl
    | cons y l ih =>
      intro h
      rw [List.map_cons, List.mem_cons, not_or] at h
      rw [List.map_cons, ih h.2]
      have : putAt k u y = y := by unfold putAt; rw [if_neg (fun z => h.1 z.symm)]
      rw [this]
  exact this xs hn
theorem pairX_put {k : NestedKey} {b : Addr} {v : V} {u : Value} (rv : RelV v u) : ∀ {es : List (NestedKey × Addr × V)} {xs : List (NestedKey × Addr × Value)}, PairX es xs → (es.map (·.1)).Nodup → PairX (putE k b v es) (storedH xs k b u)
  | _, _, .nil, _ => by
    show PairX [(k, b, v)] ([] ++ [(k, b, u)])
    exact .cons ⟨rfl, rfl, rv⟩ .nil
  | _, _, .cons (l₁ := es) (l₂ := xs) (a := e) (b := x) h t, hn => by
    rw [List.map_cons, List.nodup_cons] at hn
    unfold putE
    by_cases hk : e.1 = k
    · rw [if_pos hk, storedH_hit (by rw [← h.1]; exact hk) (by rw [← pairX_keys t, ← hk]; exact hn.1)]
      exact .cons ⟨h.1, h.2.1, rv⟩ t
    · rw [if_neg hk, storedH_cons (by rw [← h.1]; exact hk)]
      exact .cons h (pairX_put rv t hn.2)
end
/-! ### in the heap -/
section
variable {X : Cx} {pins : List (Addr × Obj)} {σ : L2.St} {H : Hp} {s : Shared} {W : Wd} {S : Addr → Prop}
mutual
theorem rep_nested (I : Inv X pins σ H s) (hK : X.K = W.K) : ∀ (d : D) (v : V) (u : Value) (k : NestedKey), Rep W S H d v → nkey d = some k → RelV v u → NestedIs s.heap k u
  | .non, v, u, k, h, e, r => by unfold Rep at h; subst h; cases e; cases r; exact .none
  | .bl b, v, u, k, h, e, r => by unfold Rep at h; subst h; cases e; cases r; exact .bool rfl
  | .int i, v, u, k, h, e, r => by unfold Rep at h; subst h; cases e; obtain ⟨t, rfl⟩ := r; exact .int i t
  | .str x, v, u, k, h, e, r => by unfold Rep at h; subst h; cases e; obtain ⟨t, rfl⟩ := r; exact .text x t
  | .tup l, v, u, k, h, e, r => by
    unfold Rep at h
    obtain ⟨a, vs, rfl, q, rs⟩ := h
    cases (show u = Value.ref a from r)
    rw [← hK] at q
    obtain ⟨its, ri, ⟨o, ho, hc, n, hd⟩, _⟩ := I.tuple q
    unfold nkey at e
    cases el : nkeys l with
    | none => rw [el] at e; cases e
    | some ks =>
      rw [el] at e; cases e
      exact .tup ho hc hd (by simpa using reps_nested I hK l vs its ks rs el ri)
  | .lst l, v, u, k, h, e, r => by unfold nkey at e; cases e
  | .dct a b, v, u, k, h, e, r => by unfold nkey at e; cases e
  | .ins a b c, v, u, k, h, e, r => by unfold nkey at e; cases e
  | .fn x, v, u, k, h, e, r => by unfold nkey at e; cases e
  | .ext _ _ _ _, v, u, k, h, e, r => by unfold nkey at e; cases e
theorem reps_nested (I : Inv X pins σ H s) (hK : X.K = W.K) : ∀ (l : List D) (vs : List V) (us : List Value) (ks : List NestedKey), Reps W S H l vs → nkeys l = some ks → Vals vs us → NestedAll s.heap ks us
  | [], vs, us, ks, h, e, r => by
    unfold Reps at h; subst h
    cases e
    cases r
    exact .nil
  | d :: l, vs, us, ks, h, e, r => by
    unfold Reps at h
    obtain ⟨v, vr, rfl, h1, h2⟩ := h
    obtain ⟨k, kr, rfl, e1, e2⟩ := nkeys_consE e
    cases r with
    | cons r1 r2 => exact .cons (rep_nested I hK d v _ k h1 e1 r1) (reps_nested I hK l vr _ kr h2 e2 r2)
end
theorem key_is {d : D} {v : V} {u : Value} {k : NestedKey} (I : Inv X pins σ H s) (hK : X.K = W.K) (h : Rep W S H d v) (e : keyOf d = some k) (r : RelV v u) : ∃ b, v = .ref b ∧ u = .ref b ∧ (nestedKind X.prog X.w).is s.heap k b := by
  obtain ⟨ht, e1, e2⟩ := keyOf_some e
  have n := rep_nested I hK d v u k h e1 r
  cases d <;> try cases ht
  unfold Rep at h
  obtain ⟨b, vs, rfl, _⟩ := h
  cases (show u = Value.ref b from r)
  exact ⟨b, rfl, rfl, n, e2⟩
/-- a dict with keys that are tuples, at a -/
structure DicAt (W : Wd) (S : Addr → Prop) (H : Hp) (a : Addr) (ks ds : List D) (es : List (NestedKey × Addr × V)) : Prop where
  at_ : H a = some (HOd W a es) ∨ (H a = some (.dK []) ∧ es = [])
  ky : nkeys ks = some (es.map (·.1))
  nd : (es.map (·.1)).Nodup
  rk : Reps W S H ks (es.map fun e => V.ref e.2.1)
  rd : Reps W S H ds (es.map (·.2.2))
theorem dicAt_of {a : Addr} {ks ds : List D} (h : OwnAt W S H a (.dct ks ds)) (ht : ks.all isTupD = true) : ∃ es, DicAt W S H a ks ds es := by
  rcases h with ⟨kvs, h1, h2, h3, h4⟩ | ⟨es, h1, h2, h3, h4, h5⟩
  · cases kvs with
    | nil =>
      subst h2
      unfold Reps at h4
      cases ds with
      | nil => exact ⟨[], .inr ⟨h1, rfl⟩, rfl, by simp, .nil, .nil⟩
      | cons d ds => obtain ⟨_, _, e, _⟩ := h4; cases e
    | cons p kvs =>
      subst h2
      rw [List.map_cons, List.all_cons, Bool.and_eq_true_iff] at ht
      have := ht.1
      unfold keyD at this
      split at this <;> cases this
  · exact ⟨es, .inl h1, h2, h3, h4, h5⟩
theorem dicAt_heap {a : Addr} {ks ds : List D} {es : List (NestedKey × Addr × V)} (I : Inv X pins σ H s) (hP : X.prog = W.P) (hw : X.w = W.w) (hK : X.K = W.K) (h : DicAt W S H a ks ds es) :
    (a == sysModules) = false ∧ es.length ≤ sizeLine ∧ (∀ e ∈ es, e.1.depth ≤ 8) ∧ ∃ xs, PairX es xs ∧ s.heap.DictOfH (nestedKind X.prog X.w) a xs := by
  rcases h.at_ with e | ⟨e, ee⟩
  · obtain ⟨⟨q1, q2, q3, xs, q4, o, ep, q5, q6, q7⟩, _, _⟩ := (show ObjOk X.prog X.w H s.heap a (.ext (DicPhi W a es)) from I.hok a _ e)
    refine ⟨q1, q2, q3, xs, q4, o, _, ep, q5, q6, q7, by rw [hP, hw], fun x hx => ?_, by rw [← pairX_keys q4]; exact h.nd⟩
    -- each key stands there
    have key : ∀ (es : List (NestedKey × Addr × V)) (xs : List (NestedKey × Addr × Value)) (ks : List D), PairX es xs → nkeys ks = some (es.map (·.1)) → (∀ e ∈ es, e.1.depth ≤ 8) → Reps W S H ks (es.map fun e => V.ref e.2.1) → ∀ x ∈ xs, (nestedKind X.prog X.w).is s.heap x.1 x.2.1 := by
      intro es xs ks p
      induction p generalizing ks with
      | nil => intro _ _ _ x hx; cases hx
      | @cons e x es xs hh t ih =>
        intro hk hd hr y hy
        cases ks with
        | nil => cases hk
        | cons k ks =>
          obtain ⟨k1, k2⟩ := nkeys_cons.mp (show nkeys (k :: ks) = some (e.1 :: es.map (·.1)) from hk)
          unfold Reps at hr
          obtain ⟨v, r, ev, r1, r2⟩ := hr
          have ev : V.ref e.2.1 :: es.map (fun e => V.ref e.2.1) = v :: r := ev
          cases ev
          rcases List.mem_cons.mp hy with rfl | hy
          · rw [← hh.1, ← hh.2.1]
            exact ⟨rep_nested I hK k _ _ _ r1 k1 rfl, hd e (by simp)⟩
          · exact ih ks k2 (fun e he => hd e (by simp [he])) r2 y hy
    exact key es xs ks q4 h.ky q3 h.rk x hx
  · subst ee
    obtain ⟨z, y, vs, rel, o, eb, ep, h1, h2, h3, h4, h5, _⟩ := dk_of I.hok e
    have hv : vs = [] := List.eq_nil_of_length_eq_zero (by rw [← KV.length rel]; rfl)
    have he : eb.toList = [] := List.eq_nil_of_length_eq_zero (by rw [Pairs.length h5, hv]; rfl)
    refine ⟨y, by simp, by simp, [], .nil, o, eb, ep, h1, h2, ?_, ?_, ?_, ?_⟩
    · exact h3
    · rw [he]; rfl
    · intro x hx; cases hx
    · simp
theorem nroom {k : Nat} {A : Around} {P : Program} {w : World} (r : Room k A) : (nestedKind P w).room A.in1 := by
  have := r.un
  show A.units + 1 + 8 < cLine
  omega
/-! d[k] -/
def rDGet (W : Wd) : R2 := fun x y H Q => ∃ (S : Addr → Prop) (a : Addr) (ks ds : List D) (kd : D) (k : NestedKey) (d : D), x = .ref a ∧ OwnAt W S H a (.dct ks ds) ∧ ks.all isTupD = true ∧ Rep W S H kd y ∧ keyOf kd = some k ∧ lookK k ks ds = some d ∧ ∀ v, Rep W S H d v → Q v H
theorem ix_dic {k : Nat} (r : Room k X.A) (hP : X.prog = W.P) (hw : X.w = W.w) (hK : X.K = W.K) : IxR X (rDGet W) := by
  intro value slice pins s σ H x y v u Q I rx ry q hs
  obtain ⟨S, a, ks, ds, kd, kk, d, rfl, hd, ht, rk, ek, el, q⟩ := q
  cases (show v = Value.ref a from rx)
  obtain ⟨es, DA⟩ := dicAt_of hd ht
  obtain ⟨z1, z2, z3, xs, px, dd⟩ := dicAt_heap I hP hw hK DA
  obtain ⟨b, rfl, rfl, ki⟩ := key_is I hK rk ek ry
  obtain ⟨e, f1, f2⟩ := look_es DA.ky DA.rd el
  obtain ⟨x, g1, g2⟩ := (pairX_find px).1 e f1
  have ha : atKey xs kk = some x.2 := by unfold atKey; rw [g1]; rfl
  have hT : s.TypeIs (.ref a) "dict" := dd.typeIs
  refine PyProof.Rows.tail_any hT PySem.F.slot_dict_getitem.lookup ?_ hs
  exact wpAny_getItem_heap (nroom r) ki dd ha ⟨e.2.2, H, I.tok _, g2, q _ f2⟩
/-! k in d -/
def rDIn (W : Wd) (neg : Bool) : R2 := fun x y H Q => ∃ (S : Addr → Prop) (a : Addr) (ks ds : List D) (kd : D) (k : NestedKey), y = .ref a ∧ OwnAt W S H a (.dct ks ds) ∧ ks.all isTupD = true ∧ Rep W S H kd x ∧ keyOf kd = some k ∧ Q (.bl (if neg then !hasK k ks else hasK k ks)) H
theorem op_dic_in {k : Nat} (r : Room k X.A) (hP : X.prog = W.P) (hw : X.w = W.w) (hK : X.K = W.K) : OpR X (compareOp .In) (rDIn W false) := by
  intro pins s σ H x y v u Q I rx ry q
  obtain ⟨S, a, ks, ds, kd, kk, rfl, hd, ht, rk, ek, q⟩ := q
  cases (show u = Value.ref a from ry)
  obtain ⟨es, DA⟩ := dicAt_of hd ht
  obtain ⟨z1, z2, z3, xs, px, dd⟩ := dicAt_heap I hP hw hK DA
  obtain ⟨b, rfl, rfl, ki⟩ := key_is I hK rk ek rx
  refine wpAny_in_heap (nroom r) ki z1 dd ?_
  have e : (atKey xs kk).isSome = hasK kk ks := by
    rw [← has_es DA.ky, ← (pairX_find px).2]; unfold atKey; rw [Option.isSome_map]
  rw [e]
  exact ⟨.bl (hasK kk ks), H, I.tok _, rfl, q⟩
theorem op_dic_notIn {k : Nat} (r : Room k X.A) (hP : X.prog = W.P) (hw : X.w = W.w) (hK : X.K = W.K) : OpR X (compareOp .NotIn) (rDIn W true) := by
  intro pins s σ H x y v u Q I rx ry q
  obtain ⟨S, a, ks, ds, kd, kk, rfl, hd, ht, rk, ek, q⟩ := q
  cases (show u = Value.ref a from ry)
  obtain ⟨es, DA⟩ := dicAt_of hd ht
  obtain ⟨z1, z2, z3, xs, px, dd⟩ := dicAt_heap I hP hw hK DA
  obtain ⟨b, rfl, rfl, ki⟩ := key_is I hK rk ek rx
  refine PyProof.Rows.wpAny_notIn_heap (nroom r) ki z1 dd ?_
  have e : (atKey xs kk).isSome = hasK kk ks := by
    rw [← has_es DA.ky, ← (pairX_find px).2]; unfold atKey; rw [Option.isSome_map]
  rw [e]
  exact ⟨.bl (!hasK kk ks), H, I.tok _, rfl, q⟩
/-! d[k] = v -/
theorem hod_ok {P : Program} {w : World} {H' : Hp} {h' : Heap} {a : Addr} {es : List (NestedKey × Addr × V)} (h : DicPhi W a es h') (e : ∃ o, h'.get? a = some o) : ObjOk P w H' h' a (HOd W a es) :=
  ⟨h, e, fun h1 h2 p k => by
    obtain ⟨q1, q2, q3, xs, q4, o, ep, q5, q6, q7⟩ := p
    exact ⟨q1, q2, q3, xs, q4, o, ep, k o q5, q6, q7⟩⟩
def rDPut (W : Wd) (o i v : V) (H : Hp) (Q : Hp → Prop) : Prop := ∃ (S : Addr → Prop) (a : Addr) (ks ds : List D) (kd : D) (k : NestedKey) (es : List (NestedKey × Addr × V)) (b : Addr), o = .ref a ∧ i = .ref b ∧ DicAt W S H a ks ds es ∧ Rep W S H kd i ∧ keyOf kd = some k ∧ ks.length < sizeLine ∧
  Q (upd H a (HOd W a (putE k b v es)))
end
end PL

set_option Elab.async false
set_option linter.all false
set_option maxRecDepth 100000
set_option maxHeartbeats 4000000
/-! PL30: dicts whose keys are tuples: the rules over data. -/
namespace PL
open PySem L2
variable [TabL]
section
variable {X : Cx} {W : Wd}
theorem set_dic {k : Nat} (r : Room k X.A) (hP : X.prog = W.P) (hw : X.w = W.w) (hK : X.K = W.K) : PSet X (rDPut W) := by
  intro pins s σ H o i v ov iv u Q I ro ri rv q
  obtain ⟨S, a, ks, ds, kd, kk, es, b, rfl, rfl, DA, rk, ek, hl, q⟩ := q
  cases (show ov = Value.ref a from ro)
  obtain ⟨z1, z2, z3, xs, px, dd⟩ := dicAt_heap I hP hw hK DA
  obtain ⟨b', eb, eb2, ki⟩ := key_is I hK rk ek ri
  cases eb
  cases eb2
  have hlen : es.length < sizeLine := by
    have : ks.length = es.length := by
      have := DA.rk.length
      simpa using this
    omega
  have hz : xs.length ≤ sizeLine := by rw [← Paired.length px]; exact z2
  have mu : Mut (H a) := by
    rcases DA.at_ with e | ⟨e, _⟩
    · rw [e]; trivial
    · rw [e]; trivial
  obtain ⟨_, _, k8⟩ := keyOf_some ek
  refine wpAny_setItem_heap (hsz := hz) (nroom r) ki dd fun h' dd' hs => ?_
  obtain ⟨o', es', ep', hq, h2, h3, h4, _, h5⟩ := dd'
  refine ⟨_, d_write I mu hs ⟨o', hq⟩ (hod_ok ⟨z1, Nat.le_trans putE_length hlen, ?_, storedH xs kk b u, pairX_put rv px DA.nd, o', ep', hq, h2, ?_⟩ ⟨o', hq⟩), q⟩
  · intro e he
    rcases putE_keys (k := kk) (b := b) (v := v) e.1 (List.mem_map.mpr ⟨e, he, rfl⟩) with h | h
    · rw [h]; exact k8
    · obtain ⟨e', he', q⟩ := List.mem_map.mp h
      rw [← q]; exact z3 e' he'
  · rw [h3, ← hP, ← hw, ← h4]
end
section
variable {F : Fr} {S : Addr → Prop} {H : Hp}
theorem RepT.dct {ks ds : List D} {v : V} (h : RepT F S H (.dct ks ds) v) : ∃ a, v = .ref a ∧ OwnAt F.toWd S H a (.dct ks ds) := by
  rcases h with h | ⟨a, rfl, _, h⟩
  · unfold Rep at h
    obtain ⟨a, e, _, q⟩ := h
    exact ⟨a, e, q⟩
  · exact ⟨a, rfl, h⟩
theorem RepT.key {d : D} {v : V} {k : NestedKey} (h : RepT F S H d v) (e : keyOf d = some k) : Rep F.toWd S H d v := by
  obtain ⟨ht, _, _⟩ := keyOf_some e
  cases d <;> try cases ht
  rcases h with h | ⟨_, _, _, h⟩
  · exact h
  · exact h.elim
end
/-! d[k] -/
def getK (d x : D) : Option D := match d with
  | .dct ks ds => if ks.all isTupD then (keyOf x).bind fun k => lookK k ks ds else none
  | _ => none
theorem opd_dget {F : Fr} : OpD F (rDGet F.toWd) getK RV := by
  intro S H0 H d1 d2 d v1 v2 Q mt hk hn r1 r2 e kk
  unfold getK at e
  split at e
  · rename_i ks ds
    split at e
    · rename_i ht
      cases ek : keyOf d2 with
      | none => rw [ek] at e; cases e
      | some k =>
        rw [ek] at e
        obtain ⟨a, rfl, o⟩ := r1.dct
        exact ⟨S, a, ks, ds, d2, k, d, rfl, o, ht, r2.key ek, ek, e, fun v r => kk v H (Same.refl _) r⟩
    · cases e
  · cases e
def ixX (a b : D) : Option D := match ixD a b with
  | some d => some d
  | none => getK a b
/-! k in d -/
def inK (x d : D) : Option D := match d with
  | .dct ks ds => if ks.all isTupD then (keyOf x).map fun k => .bl (hasK k ks) else none
  | _ => none
def notInK (x d : D) : Option D := match d with
  | .dct ks ds => if ks.all isTupD then (keyOf x).map fun k => .bl (!hasK k ks) else none
  | _ => none
theorem opd_din {F : Fr} : OpD F (rDIn F.toWd false) inK RV := by
  intro S H0 H d1 d2 d v1 v2 Q mt hk hn r1 r2 e kk
  unfold inK at e
  split at e
  · rename_i ks ds
    split at e
    · rename_i ht
      cases ek : keyOf d1 with
      | none => rw [ek] at e; cases e
      | some k =>
        rw [ek] at e
        cases e
        obtain ⟨a, rfl, o⟩ := r2.dct
        exact ⟨S, a, ks, ds, d1, k, rfl, o, ht, r1.key ek, ek, kk _ H (Same.refl _) rep_b⟩
    · cases e
  · cases e
theorem opd_dnotIn {F : Fr} : OpD F (rDIn F.toWd true) notInK RV := by
  intro S H0 H d1 d2 d v1 v2 Q mt hk hn r1 r2 e kk
  unfold notInK at e
  split at e
  · rename_i ks ds
    split at e
    · rename_i ht
      cases ek : keyOf d1 with
      | none => rw [ek] at e; cases e
      | some k =>
        rw [ek] at e
        cases e
        obtain ⟨a, rfl, o⟩ := r2.dct
        exact ⟨S, a, ks, ds, d1, k, rfl, o, ht, r1.key ek, ek, kk _ H (Same.refl _) rep_b⟩
    · cases e
  · cases e
def inX (a b : D) : Option D := match inK a b with
  | some d => some d
  | none => inD a b
def notInX (a b : D) : Option D := match notInK a b with
  | some d => some d
  | none => notInD a b
theorem inX_bl {a b d : D} (h : inX a b = some d) : ∃ c, d = .bl c := by
  unfold inX at h
  cases e : inK a b with
  | none => rw [e] at h; exact inD_bl h
  | some d' =>
    rw [e] at h; cases h
    unfold inK at e
    split at e
    · split at e
      · cases ek : keyOf a with
        | none => rw [ek] at e; cases e
        | some k => rw [ek] at e; cases e; exact ⟨_, rfl⟩
      · cases e
    · cases e
theorem notInX_bl {a b d : D} (h : notInX a b = some d) : ∃ c, d = .bl c := by
  unfold notInX at h
  cases e : notInK a b with
  | none => rw [e] at h; exact notInD_bl h
  | some d' =>
    rw [e] at h; cases h
    unfold notInK at e
    split at e
    · split at e
      · cases ek : keyOf a with
        | none => rw [ek] at e; cases e
        | some k => rw [ek] at e; cases e; exact ⟨_, rfl⟩
      · cases e
    · cases e
section
variable {X : Cx} {F : Fr} {k : Nat} {a b e : Expr} {fa fb f f1 : SEnv → M D} {fs : SEnv → M (List D)} {pos p p2 px apos : Pos} {x : Str} {i : Nat} {e1 : Expr}
theorem ev_ixX (o : On X F k) (ha : EVB X F a fa) (hb : EVB X F b fb) (hp : PlainIx b := by exact fun _ _ => rfl) : EV X F (.Subscript a b pos) (eOp ixX fa fb) :=
  PE.weak (pe_ix (ix_seq.or (ix_dic o.room o.P o.w o.K)) ha hb hp) fun _ _ _ q => tX_op (OpD.or2 (by unfold rIx; rw [o.K]; exact opd_ix) opd_dget) q
theorem ev_inX (o : On X F k) (ha : EVB X F a fa) (hb : EVB X F b fb) (hm : behindInMarks .In b = false := by rfl) : EV X F (.Compare a [.In] [b] pos) (eOp inX fa fb) :=
  ev_cmp ((op_dic_in o.room o.P o.w o.K).or (op_in_seq.or (op_inD (by have := o.room.un; omega)))) (OpD.or2 opd_din (by rw [o.K]; exact opd_in (neg := false) (gg := fun k => k) rfl)) ha hb hm
theorem ev_notInX (o : On X F k) (ha : EVB X F a fa) (hb : EVB X F b fb) (hm : behindInMarks .NotIn b = false := by rfl) : EV X F (.Compare a [.NotIn] [b] pos) (eOp notInX fa fb) :=
  ev_cmp ((op_dic_notIn o.room o.P o.w o.K).or (op_notIn_seq.or (op_notInD (by have := o.room.un; omega)))) (OpD.or2 opd_dnotIn (by rw [o.K]; exact opd_in (neg := true) (gg := fun k => !k) rfl)) ha hb hm
theorem et_inX (o : On X F k) (ha : EVB X F a fa) (hb : EVB X F b fb) (hm : behindInMarks .In b = false := by rfl) : ET X F (.Compare a [.In] [b] pos) (eOp inX fa fb) :=
  et_cmp ((op_dic_in o.room o.P o.w o.K).or (op_in_seq.or (op_inD (by have := o.room.un; omega)))) (OpD.or2 opd_din (by rw [o.K]; exact opd_in (neg := false) (gg := fun k => k) rfl)) (fun _ _ _ e => inX_bl e) ha hb hm
theorem et_notInX (o : On X F k) (ha : EVB X F a fa) (hb : EVB X F b fb) (hm : behindInMarks .NotIn b = false := by rfl) : ET X F (.Compare a [.NotIn] [b] pos) (eOp notInX fa fb) :=
  et_cmp ((op_dic_notIn o.room o.P o.w o.K).or (op_notIn_seq.or (op_notInD (by have := o.room.un; omega)))) (OpD.or2 opd_dnotIn (by rw [o.K]; exact opd_in (neg := true) (gg := fun k => !k) rfl)) (fun _ _ _ e => notInX_bl e) ha hb hm
/-! d[k] = v, a dict of ours -/
def ownD : Option Sl → Option (List D × List D)
  | some (.own (.dct ks ds)) => some (ks, ds)
  | _ => none
theorem ownD_some {s : Option Sl} {l : List D × List D} (h : ownD s = some l) : s = some (.own (.dct l.1 l.2)) := by
  unfold ownD at h
  split at h
  · cases h; rfl
  · cases h
def putDD (c : Bool) (k : NestedKey) (x d : D) (ks ds : List D) : Option D := if c then some (.dct (putK1 k x ks) (putK2 k d ks ds)) else none
def sSetD (i : Nat) (f1 f : SEnv → M D) : DS := fun Γ => do
  let l ← ofOpt (ownD Γ[i]?)
  let d ← f Γ
  let x ← f1 Γ
  let k ← ofOpt (keyOf x)
  let r ← ofOpt (putDD (l.1.all isTupD && decide (l.1.length < sizeLine)) k x d l.1 l.2)
  pure (.nx, Γ.set i (.own r))
theorem es_setD (o : On X F k) (he : EV X F e f) (h1 : EV X F e1 f1) (hN : X.N[i]? = some x := by rfl) (hv : Vis X.env.scope x := by first | exact Or.inl rfl | exact Or.inr (Or.inl rfl) | exact Or.inr (Or.inr rfl))
    (hb : (x == ("__debug__" : Str)) = false := by decide) (hcd : (x == ("__classdict__" : Str)) = false := by decide)
    (b1 : ∀ v, assign (.Subscript (.Name x px) e1 apos) X.env v = (do
      let ov ← holding [v] (eval (.Name x px) X.env)
      let iv ← holding [v, ov] (eval e1 X.env)
      standAt apos
      holding [v, ov, iv] (setItem ov iv v)
      release [v, ov, iv] []) := by intro _; rfl)
    (b2 : swapsWithSole [.Subscript (.Name x px) e1 apos] e pos.line X.env = pure false := by rfl) (b3 : swappedStores [.Subscript (.Name x px) e1 apos] e X.env = pure none := by rfl)
    (b4 : (assignEach [.Subscript (.Name x px) e1 apos] X.env).map (·.2) = [assign (.Subscript (.Name x px) e1 apos) X.env] := by rfl) :
    ES1 X F (.Assign [.Subscript (.Name x px) e1 apos] e pos) (sSetD i f1 f) :=
  PS.weak (ps_asg he (pg_sub (pe_var hN hv hb hcd) h1 (set_dic o.room o.P o.w o.K) b1) b2 b3 b4) fun Dn σ H q => by
    obtain ⟨Γ, p, st, q⟩ := q
    obtain ⟨l, el, q⟩ := out_opt.mp (OutOk.bind.mp q)
    have el := ownD_some el
    obtain ⟨ks, ds⟩ := l
    refine ⟨_, Γ, p, st.es, (OutOk.bind.mp q).imp fun d p1 q v H1 e1 q1 r1 => ?_⟩
    have es1 := st.es.ext e1 q1
    obtain ⟨y, ey, a, rfl, sa, np, oa⟩ := st.es.env i _ el
    refine ⟨.ref a, ey, _, Γ, p1, es1, (OutOk.bind.mp q).imp fun xd p2 q v2 H2 e2 q2 r2 => ?_⟩
    obtain ⟨kk, ek, q⟩ := out_opt.mp (OutOk.bind.mp q)
    obtain ⟨rr, er, q⟩ := out_opt.mp (OutOk.bind.mp q)
    have er : (if (ks.all isTupD && decide (ks.length < sizeLine)) = true then some (D.dct (putK1 kk xd ks) (putK2 kk d ks ds)) else none) = some rr := er
    split at er
    · rename_i hc
      cases er
      obtain ⟨ht, hl⟩ := Bool.and_eq_true_iff.mp hc
      have e12 := e1.trans e2
      have st2 := st.ext e12 q2
      have es2 := st2.es
      have r1' : Rep F.toWd (Sof F Γ σ) H2 d v := Rep.goes (e2.goes es1.mt es1.pa) _ _ r1
      obtain ⟨y', ey', a', ea', sa', np', oa'⟩ := es2.env i _ el
      rw [ey] at ey'; cases ey'
      cases ea'
      obtain ⟨es, DA⟩ := dicAt_of oa' ht
      obtain ⟨kt, kn, k8⟩ := keyOf_some ek
      have rk : Rep F.toWd (Sof F Γ σ) H2 xd v2 := r2
      obtain ⟨b, rfl⟩ : ∃ b, v2 = .ref b := by
        cases xd <;> try cases kt
        unfold Rep at rk
        obtain ⟨b, _, e, _⟩ := rk
        exact ⟨b, e⟩
      have g : Goes (Sof F Γ σ) (Sof F Γ σ) H2 (upd H2 a (HOd F.toWd a (putE kk b v es))) := ⟨fun b o h n _ => by rw [upd_ne (fun z => by subst z; exact n sa)]; exact h, fun _ w => .inl w, es2.mt⟩
      obtain ⟨s2, k2⟩ := st2.write (d' := .dct (putK1 kk xd ks) (putK2 kk d ks ds)) el ey (H1 := upd H2 a (HOd F.toWd a (putE kk b v es))) (fun b hb => upd_ne hb) (by rw [upd_same]; trivial)
        (.inr ⟨putE kk b v es, upd_same, put_keys kn DA.ky, putE_nodup DA.nd, Reps.goes g _ _ (put_reps1 kn rk DA.ky DA.rk), Reps.goes g _ _ (put_reps2 r1' DA.ky DA.rd)⟩)
      refine ⟨Sof F Γ σ, a, ks, ds, xd, kk, es, b, rfl, rfl, DA, rk, ek, of_decide_eq_true hl, ?_⟩
      exact (show ∀ σ' H', Kp F Γ σ H (Γ.set i (.own (.dct (putK1 kk xd ks) (putK2 kk d ks ds)))) σ' H' → StOk F (Γ.set i (.own (.dct (putK1 kk xd ks) (putK2 kk d ks ds)))) p2 σ' H' → Dn.nx σ' H' from q) _ _ ((Kp.ext st e12 q2).trans k2) s2
    · cases er
end
end PL

set_option Elab.async false
set_option linter.all false
set_option maxRecDepth 100000
set_option maxHeartbeats 4000000
/-! PL31: {k: v} with a key that is a tuple; len of a dict. -/
namespace PL
open PySem L2
variable [TabL]
section
variable {X : Cx} {W : Wd} {H : Hp} {s : Shared}
theorem dic_nil {h : Heap} (hb : sysModules < h.objs.size) : DicPhi W h.objs.size [] (h.push { cls := .type "dict", data := .dict #[] }) := by
  refine ⟨?_, by simp, (fun _ h => by cases h), [], .nil, _, 0, Heap.get?_push_size _ rfl, ?_, rfl⟩
  · have : h.objs.size ≠ sysModules := Nat.ne_of_gt hb
    simpa using this
  · exact ⟨rfl, rfl, rfl⟩
def tDispN (W : Wd) (tk tv : TE) : TE := fun σ H Q => ∀ p, H p = none → tk σ (upd H p (HOd W p [])) fun x H1 => tv σ H1 fun y H2 => H2 p = some (HOd W p []) ∧
  ∃ (S : Addr → Prop) (kd : D) (k : NestedKey) (b : Addr), x = .ref b ∧ Rep W S H2 kd x ∧ keyOf kd = some k ∧ Q (.ref p) (upd H2 p (HOd W p [(k, b, y)]))
theorem pe_dispN {j : Nat} {pos : Pos} {ke ve : Expr} {tk tv : TE} (r : Room j X.A) (hP : X.prog = W.P) (hw : X.w = W.w) (hK : X.K = W.K) (hk : PE X ke tk) (hv : PE X ve tv)
    (hsh : (evalEachOpt [some ke] X.env).zip ((evalEach [ve] X.env).map fun v => do let x ← v; standAt pos; pure x) = (pairTrees [some ke] [ve] X.env pos).map fun p => (some p.1, p.2) := by rfl)
    (hne : pairTrees [some ke] [ve] X.env pos ≠ [] := by intro z; cases z) (h15 : (pairTrees [some ke] [ve] X.env pos).length ≤ 15 := by show 1 ≤ 15; decide) : PE X (.Dict [some ke] [ve] pos) (tDispN W tk tv) := by
  refine ⟨fun pins s σ H Q I q => ?_⟩
  have hn := I.hok.fresh (Nat.le_refl s.heap.objs.size)
  have I1 : Inv X pins σ (upd H s.heap.objs.size (HOd W s.heap.objs.size [])) { s with heap := s.heap.push { cls := .type "dict", data := .dict #[] } } :=
    I.laid (a := s.heap.objs.size) (o := HOd W s.heap.objs.size []) (h' := s.heap.push { cls := .type "dict", data := .dict #[] }) (t' := s.toks) (fun _ _ q => Heap.get?_push_of_some _ q) (Nat.le_refl _) (hod_ok (dic_nil I.big) ⟨_, Heap.get?_push_size _ rfl⟩)
  have hu : (nestedKind X.prog X.w).room X.A := by
    have := r.un
    show X.A.units + 8 < cLine
    omega
  rw [arm_eval_Dict, hsh, dictDisplay_pairs _ hne (by omega)]
  refine wpAny_bind (wpAny_standAt (wpAny_bind (wpAny_subDictH (knd := nestedKind X.prog X.w) (Q := fun d s' => wpAny (model X.prog X.w) X.A (pure (Value.ref d)) _ _ s') hu h15 ?_)))
  refine thn ((pps_cons hk hv pps_nil).run pins _ σ _ (fun ps H2 => match ps with
    | [(x, y)] => H2 s.heap.objs.size = some (HOd W s.heap.objs.size []) ∧ ∃ (S : Addr → Prop) (kd : D) (k : NestedKey) (b : Addr), x = .ref b ∧ Rep W S H2 kd x ∧ keyOf kd = some k ∧ Q (.ref s.heap.objs.size) (upd H2 s.heap.objs.size (HOd W s.heap.objs.size [(k, b, y)]))
    | _ => False) I1 (q _ hn)) fun ws s2 h2 => ?_
  · obtain ⟨ps, H2, I2, rel, h2⟩ := h2
    split at h2
    rotate_left
    · exact h2.elim
    rename_i x y
    obtain ⟨e, S, kd, k, b, rfl, rk, ek, q2⟩ := h2
    cases rel with
    | @cons _ u _ us hh t =>
      cases t
      obtain ⟨u1, u2⟩ := u
      obtain ⟨b', eb, eb2, ki⟩ := key_is I2 hK rk ek hh.1
      cases eb
      have eb2 : u1 = Value.ref b := eb2
      subst eb2
      obtain ⟨⟨z1, z2, z3, xs, z4, o, ep, z5, z6, z7⟩, _, _⟩ := (show ObjOk X.prog X.w H2 s2.heap s.heap.objs.size (.ext (DicPhi W s.heap.objs.size [])) from I2.hok _ _ e)
      cases z4
      refine ⟨[(k, b, u2)], ⟨rfl, rfl, ki, trivial⟩, ⟨o, #[], ep, z5, z6, by rw [z7]; rfl, rfl, (fun _ h => by cases h), by simp⟩, fun h' tk' dd' hs => wpAny_pure ?_⟩
      obtain ⟨o', es', ep', hq, h2, h3, h4, _, h5⟩ := dd'
      obtain ⟨_, _, k8⟩ := keyOf_some ek
      refine ⟨.ref s.heap.objs.size, _, d_write I2 (by rw [e]; trivial) hs ⟨o', hq⟩ (hod_ok ⟨z1, by show 1 ≤ sizeLine; exact (by decide : 1 ≤ 2 ^ 24), ?_, [(k, b, u2)], .cons ⟨rfl, rfl, hh.2⟩ .nil, o', ep', hq, h2, ?_⟩ ⟨o', hq⟩), rfl, q2⟩
      · intro e' he'
        rw [List.mem_singleton] at he'
        subst he'; exact k8
      · rw [h3, ← hP, ← hw, ← show es'.toList = [(k, b, u2)].map (entryOfKey (nestedKind X.prog X.w)) from h4]
end
section
variable {F : Fr} {S : Addr → Prop} {Γ : SEnv} {p : Pot} {σ : St} {H : Hp}
/-- a new thing of ours, laid -/
theorem SlOk.lay {s : Sl} {x : Option V} {a : Addr} {o : HO} (h : SlOk F S H s x) (mt : ∀ a, S a → Mut (H a)) (n : H a = none) : SlOk F (fun b => S b ∨ b = a) (upd H a o) s x := by
  have g := goes_new (o := o) mt n
  cases s with
  | no => trivial
  | val d => obtain ⟨v, e1, r⟩ := h; exact ⟨v, e1, Rep.goes g _ _ r⟩
  | own d => obtain ⟨b, e1, s1, np, r⟩ := h; exact ⟨b, e1, .inl s1, np, r.goes g fun u q nt => by rw [upd_ne (ne_of_none q n)]; exact q⟩
  | pot => exact h
  | exc x => exact SlOk.excGoes g h
  | thk q => exact SlOk.thkGoes g h
  | scr ns => exact SlOk.scrGoes g h
theorem ES.lay {a : Addr} {o : HO} (es : ES F S Γ p σ H) (n : H a = none) (m : Mut (some o)) : ES F (fun b => S b ∨ b = a) Γ p σ (upd H a o) where
  env := fun i s g => let ⟨x, e1, r⟩ := es.env i s g; ⟨x, e1, r.lay es.mt n⟩
  pot := es.pot.same (upd_Same n)
  mt := fun b hb => by
    rcases hb with hb | rfl
    · have m1 := es.mt b hb
      rw [upd_ne (fun z => by rw [z, n] at m1; exact m1)]
      exact m1
    · rw [upd_same]; exact m
  pa := fun b hb => .inl (es.pa b hb)
  s0 := fun b hb => .inl (es.s0 b hb)
  same := es.same.ext (.of (upd_Same n))
end
section
variable {X : Cx} {F : Fr} {k : Nat} {ke ve : Expr} {fk fv : SEnv → M D} {pos : Pos}
def eDisp1 (fk fv : SEnv → M D) : SEnv → M D := fun Γ => do
  let x ← fk Γ
  let _ ← ofOpt (keyOf x)
  let v ← fv Γ
  pure (.dct [x] [v])
theorem ev_disp1 (o : On X F k) (hk : EV X F ke fk) (hv : EV X F ve fv)
    (hsh : (evalEachOpt [some ke] X.env).zip ((evalEach [ve] X.env).map fun v => do let x ← v; standAt pos; pure x) = (pairTrees [some ke] [ve] X.env pos).map fun p => (some p.1, p.2) := by rfl)
    (hne : pairTrees [some ke] [ve] X.env pos ≠ [] := by intro z; cases z) (h15 : (pairTrees [some ke] [ve] X.env pos).length ≤ 15 := by show 1 ≤ 15; decide) : EVN X F (.Dict [some ke] [ve] pos) (eDisp1 fk fv) :=
  PE.weak (pe_dispN o.room o.P o.w o.K hk hv hsh hne h15) fun σ H Q q => by
    obtain ⟨S, Γ, p, es, q⟩ := q
    intro a na
    have es1 := es.lay (o := HOd F.toWd a []) na trivial
    have npa : F.pa ≠ some a := fun z => by
      have m := es.mt a (es.pa a z)
      rw [na] at m; exact m
    refine ⟨_, Γ, p, es1, (OutOk.bind.mp q).imp fun x p1 q v1 H1 e1 q1 r1 => ?_⟩
    obtain ⟨kk, ek, q⟩ := out_opt.mp (OutOk.bind.mp q)
    have es2 := es1.ext e1 q1
    refine ⟨_, Γ, p1, es2, (OutOk.bind.mp q).imp fun y p2 q v2 H2 e2 q2 r2 => ?_⟩
    have q : ∀ v H', Ext F H H' → PotOk F H' p2 → RN F S H H' (.dct [x] [y]) v → Q v H' := q
    have e12 : Ext F (upd H a (HOd F.toWd a [])) H2 := Ext.trans e1 e2
    have ha : H2 a = some (HOd F.toWd a []) := e12.get a _ upd_same npa nt_ext
    obtain ⟨kt, kn, k8⟩ := keyOf_some ek
    have g2 := e2.goes es2.mt es2.pa
    have r1' : Rep F.toWd (fun b => S b ∨ b = a) H2 x v1 := Rep.goes g2 _ _ r1
    obtain ⟨b, rfl⟩ : ∃ b, v1 = .ref b := by
      have r1 : Rep F.toWd (fun b => S b ∨ b = a) H1 x v1 := r1
      cases x <;> try cases kt
      unfold Rep at r1
      obtain ⟨b, _, e, _⟩ := r1
      exact ⟨b, e⟩
    refine ⟨ha, _, x, kk, b, rfl, r1', ek, ?_⟩
    have es3 := es2.ext e2 q2
    have g : Goes (fun b => S b ∨ b = a) (fun b => S b ∨ b = a) H2 (upd H2 a (HOd F.toWd a [(kk, b, v2)])) := ⟨fun c u h n _ => by rw [upd_ne (fun z => n (.inr z))]; exact h, fun _ w => .inl w, es3.mt⟩
    refine q _ _ ?_ ?_ ⟨a, rfl, na, .inr ⟨[(kk, b, v2)], upd_same, nkeys_cons.mpr ⟨kn, rfl⟩, by simp, .cons (Rep.goes g _ _ r1') .nil, .cons (Rep.goes g _ _ r2) .nil⟩⟩
    · have k1 : Ext F H (upd H a (HOd F.toWd a [])) := .of (upd_Same na)
      have k2 : Ext F H H2 := Ext.trans k1 e12
      exact Kept.trans2 k2 (Kept.set1 (X := fun c => c = a) ha nc_HOd rfl) fun c u h z => by
        subst z
        rw [na] at h; cases h
    · intro pa hpa
      obtain ⟨t1, t2⟩ := q2 pa hpa
      refine ⟨by rw [upd_ne (fun z => npa (by rw [← z]; exact hpa))]; exact t1, ?_⟩
      rw [upd_ne (fun z => by rw [z, ha] at t2; cases t2)]
      exact t2
end
end PL

set_option Elab.async false
set_option linter.all false
set_option maxRecDepth 100000
set_option maxHeartbeats 4000000
/-! PL32: {k: v for x in xs}, the keys tuples (the loop's proof is turned from that of the hand layer's comprehension with plain keys). -/
namespace PL
open PySem L2 PySem.Spec PyProof.Rows
variable [TabL]
section
variable {X : Cx} {W : Wd} {j : Nat}
theorem d_dictSetN {pins : List (Addr × Obj)} {σ : L2.St} {H : Hp} {s : Shared} {E : Value → Shared → Prop} {D : Addr} {y v : V} {u r : Value} {P : Hp → Prop} {Q : Unit → Shared → Prop} (r0 : Room j X.A) (hP : X.prog = W.P) (hw : X.w = W.w) (hK : X.K = W.K) (I : Inv X pins σ H s)
    (ry : RelV y u) (rv : RelV v r) (q : rDPut W (.ref D) y v H P) (h : ∀ s' H', Inv X pins σ H' s' → P H' → Q () s') : wpAny (model X.prog X.w) X.A (dictSet D u r) Q E s := by
  obtain ⟨S, a, ks, ds, kd, kk, es, b, eD, rfl, DA, rk, ek, hl, q⟩ := q
  cases eD
  obtain ⟨z1, z2, z3, xs, px, dd⟩ := dicAt_heap I hP hw hK DA
  obtain ⟨b', eb, eb2, ki⟩ := key_is I hK rk ek ry
  cases eb
  cases eb2
  have hlen : es.length < sizeLine := by
    have : ks.length = es.length := by
      have := DA.rk.length
      simpa using this
    omega
  have hz : xs.length ≤ sizeLine := by rw [← Paired.length px]; exact z2
  have mu : Mut (H D) := by
    rcases DA.at_ with e | ⟨e, _⟩
    · rw [e]; trivial
    · rw [e]; trivial
  obtain ⟨_, _, k8⟩ := keyOf_some ek
  have hu : (nestedKind X.prog X.w).room X.A := by
    have := r0.un
    show X.A.units + 8 < cLine
    omega
  refine wpAny_dictSet_heap (hsz := hz) hu ki dd fun h' dd' hs => ?_
  obtain ⟨o', es', ep', hq, h2, h3, h4, _, h5⟩ := dd'
  refine h _ _ (d_write I mu hs ⟨o', hq⟩ (hod_ok ⟨z1, Nat.le_trans putE_length hlen, ?_, storedH xs kk b r, pairX_put rv px DA.nd, o', ep', hq, h2, ?_⟩ ⟨o', hq⟩)) q
  · intro e he
    rcases putE_keys (k := kk) (b := b) (v := v) e.1 (List.mem_map.mpr ⟨e, he, rfl⟩) with h | h
    · rw [h]; exact k8
    · obtain ⟨e', he', q⟩ := List.mem_map.mp h
      rw [← q]; exact z3 e' he'
  · rw [h3, ← hP, ← hw, ← h4]
/-- {k: v for target in iter if ..}: D the new dict -/
def tDcN (W : Wd) (wi : TI) (g : TG) (tt : TT) (tk tv : TE) (vs : List Nat) : TE := fun σ H Q => wi σ H fun J H1 => ∀ D, H1 D = none → ∃ U : Nat → Nat → Hp → Prop, (∃ m, U 0 m (upd H1 D (HOd W D []))) ∧ ∀ i m H, U i m H →
  (J.stop i H ∧ Q (.ref D) H) ∨ (J.go i H ∧ ∃ Nx : Hp → Prop, (∀ H', Nx H' → ∃ m', m' < m ∧ U (i + 1) m' H') ∧ ∀ x H', J.yld i H x H' → g x (wipe σ vs) H' fun σ2 H2 => wipe σ2 vs = wipe σ vs ∧ tt σ2 H2 fun b H3 =>
    if b = true then tk σ2 H3 fun y H4 => tv σ2 H4 fun z H5 => rDPut W (.ref D) y z H5 Nx else Nx H3)
theorem dcN_core {pins : List (Addr × Obj)} {s : Shared} {σ : L2.St} {H : Hp} {Q : VK} {kx vx tg iter : Expr} {ifs : List Expr} {scope : Scope} {own : List (Str × Nat)} {pos pos' : Pos} {wi : TI} {g : TG} {tt : TT} {tk tv : TE} {use : Option (Value → Sem Unit)} {Qf : Value → Shared → Prop}
    (r0 : Room j X.A) (hP : X.prog = W.P) (hw0 : X.w = W.w) (hK0 : X.K = W.K) (hc : X.calm = true) (hN : X.N.Nodup) (I : Inv X pins σ H s) (hi : PI X tg iter wi) (ok : BlkOk X.N X.env.scope scope own)
    (hg : ∀ (s : Shared) (H : Hp) (C : Addr) (cl : List (Str × Addr)) (fp : List Addr), PG (X.blk s H scope (compEnvC scope cl C X.env) fp) tg g) (ht : ∀ (s : Shared) (H : Hp) (C : Addr) (cl : List (Str × Addr)) (fp : List Addr), PTs (X.blk s H scope (compEnvC scope cl C X.env) fp) ifs tt)
    (hk : ∀ (s : Shared) (H : Hp) (C : Addr) (cl : List (Str × Addr)) (fp : List Addr), PE (X.blk s H scope (compEnvC scope cl C X.env) fp) kx tk)
    (he : ∀ (s : Shared) (H : Hp) (C : Addr) (cl : List (Str × Addr)) (fp : List Addr), PE (X.blk s H scope (compEnvC scope cl C X.env) fp) vx tv) (hs : ∀ x, foldedSetIterable iter X.env x = pure x)
    (h : tDcN W wi g tt tk tv (own.map (·.2)) σ H Q)
    (hRR : ∀ D C s' m H', Inv X pins σ H' s' → Q (.ref D) H' → s'.heap.Ns C m → FpOk X pins H' C → compPost (model X.prog X.w) X.A X.xe use Qf (.ref D) C (.ok .next) s') :
    wpAny (model X.prog X.w) X.A (comprehension (.DictComp kx vx [⟨tg, iter, ifs, 0⟩] scope pos) scope X.env pos' newDict false (eval iter X.env) use) Qf X.xe s := by
  have hfree : ∀ y ∈ scope.names, y.2 = .free → ∃ c, X.env.cells.lookup y.1 = some c := fun y hy e => by
    rcases ok.free y hy e with k | k
    · exact I.ok.has _ (.inl k)
    · exact I.ok.has _ (.inr k)
  refine wpAny_comprehension_free (use := use) rfl hs (closure_ok hfree) ok.kind (fun y hy e => by rw [ok.uniq y hy, e])
    (thn (hi.run pins s σ H _ I h) fun xv s1 hx => thn hx fun itv s2 h2 => ?_)
  obtain ⟨it, fp, tn, J, H2, e, I2, T, st2, f2, q⟩ := h2
  subst e
  refine wpAny_newObj_type (newEnv_comp ?_)
  generalize hD : s2.heap.objs.size = D
  have hDn : H2 D = none := I2.hok.fresh (Nat.le_of_eq hD)
  obtain ⟨U, ⟨m0, w0⟩, turn⟩ := q D hDn
  -- the new list
  generalize hs3 : ({ s2 with heap := s2.heap.push { cls := .type "dict", data := .dict #[] } } : Shared) = s3
  have I3 : Inv X pins σ (upd H2 D (HOd W D [])) s3 := by
    rw [← hs3]
    refine I2.laid (t' := s2.toks) (fun b o e => Heap.get?_push_of_some _ e) (Nat.le_of_eq hD) ?_
    rw [← hD]
    exact hod_ok (dic_nil I2.big) ⟨_, Heap.get?_push_size _ rfl⟩
  have h3 : s3.heap = s2.heap.push { cls := .type "dict", data := .dict #[] } := by rw [← hs3]
  have sz : ∀ b ∈ fp, b < s2.heap.objs.size := fun b hb => by
    obtain ⟨o, e, _⟩ := T.obj _ _ st2 b hb
    exact Heap.lt_size e
  have f3 : ∀ b ∈ fp, FpOk X pins (upd H2 D (HOd W D [])) b ∧ b < s3.heap.objs.size := fun b hb => by
    have hlt := sz b hb
    refine ⟨⟨?_, (f2 b hb).2⟩, by rw [h3, Heap.size_push]; exact Nat.lt_succ_of_lt hlt⟩
    rw [upd_ne (by rw [← hD]; exact Nat.ne_of_lt hlt)]
    exact (f2 b hb).1
  have st3 : tn 0 s3.heap := T.keep _ _ _ st2 fun b _ o e => by rw [h3]; exact Heap.get?_push_of_some _ e
  have I4 := block_start I3 ok hN f3
  have pg := hg s3 (upd H2 D (HOd W D [])) s3.heap.objs.size (cellsFrom (s3.heap.objs.size + 1) scope.names (cloFrom X.env.cells scope.names [])) fp
  have pt := ht s3 (upd H2 D (HOd W D [])) s3.heap.objs.size (cellsFrom (s3.heap.objs.size + 1) scope.names (cloFrom X.env.cells scope.names [])) fp
  have pk := hk s3 (upd H2 D (HOd W D [])) s3.heap.objs.size (cellsFrom (s3.heap.objs.size + 1) scope.names (cloFrom X.env.cells scope.names [])) fp
  have pe := he s3 (upd H2 D (HOd W D [])) s3.heap.objs.size (cellsFrom (s3.heap.objs.size + 1) scope.names (cloFrom X.env.cells scope.names [])) fp
  show codeAny _ _ (.compStart (.DictComp kx vx [⟨tg, iter, ifs, 0⟩] scope pos) 0 (.ref it) (.ref D) (compEnvC scope (cellsFrom (s3.heap.objs.size + 1) scope.names (cloFrom X.env.cells scope.names [])) s3.heap.objs.size X.env)) (compPost (model X.prog X.w) X.A X.xe use Qf (.ref D) s3.heap.objs.size) { s3 with heap := pushCells (s3.heap.push { cls := .type "dict", data := .dict #[] }) scope.names }
  have nfp : ∀ b ∈ fp, (upd H2 D (HOd W D [])) b = none := fun b hb => (f3 b hb).1.1
  generalize hce : compEnvC scope (cellsFrom (s3.heap.objs.size + 1) scope.names (cloFrom X.env.cells scope.names [])) s3.heap.objs.size X.env = ce at I4 pg pt pk pe ⊢
  have cL : ce.locals = s3.heap.objs.size := by subst hce; rfl
  generalize hH3 : upd H2 D (HOd W D []) = H3 at I3 I4 pg pt pk pe w0 nfp f3
  generalize hs4 : ({ s3 with heap := pushCells (s3.heap.push { cls := .type "dict", data := .dict #[] }) scope.names } : Shared) = s4 at I4 ⊢
  have st4 : tn 0 s4.heap := T.keep _ _ _ st3 fun b _ o e => by rw [← hs4]; exact pushCells_keeps _ _ _ _ (Heap.get?_push_of_some _ e)
  have stat : ∀ {σ' : L2.St} {H' : Hp} {s' : Shared}, Inv (X.blk s3 H3 scope ce fp) [] σ' H' s' → (∀ b ∈ fp, H' b = none) → ∀ b ∈ fp, FpOk (X.blk s3 H3 scope ce fp) [] H' b := fun {σ' H' s'} I' hn b hb =>
    ⟨hn b hb, (I'.ok.exf b hb).1, I'.ok.exfs b hb, .inl hb, fun x c e => (I'.ok.exf b hb).2 x c e, fun p hp => absurd (show p ∈ ([] : List (Addr × Obj)) ++ [] from hp) (by simp)⟩
  have loop : codeAny (model X.prog X.w) X.A (.compLoop (.DictComp kx vx [⟨tg, iter, ifs, 0⟩] scope pos) 0 (.ref it) (.ref D) ce) (compPost (model X.prog X.w) X.A X.xe use Qf (.ref D) s3.heap.objs.size) s4 := by
    refine compLoop_anyD (fun n s' => ∃ i H', Inv (X.blk s3 H3 scope ce fp) [] (wipe σ (own.map (·.2))) H' s' ∧ tn i s'.heap ∧ (∀ b ∈ fp, H' b = none) ∧ U i n H') ?_ m0 ⟨0, H3, I4, st4, nfp, w0⟩
    rintro n s5 ⟨i, H5, I5, st5, n5, w5⟩
    rcases turn i n H5 w5 with ⟨stop, qq⟩ | ⟨go, Nx, hNx, step⟩
    · have td := T.done (X.blk s3 H3 scope ce fp) rfl rfl rfl hc i [] s5 _ H5 (fun _ _ => False) I5 (stat I5 n5) st5 stop
      refine thnF td fun r s6 ⟨hr, I6⟩ => ?_
      subst hr
      -- back in the def's context
      have I7 : Inv X pins σ H5 s6 := I3.call' (ch := fp) I6.os I6.base I6.hok I6.bare fun b hb => ⟨(f3 b hb).1.2.2.2.1, (f3 b hb).1.2.1, (f3 b hb).1.2.2.2.2.1, (f3 b hb).1.2.2.2.2.2⟩
      have nC : H5 s3.heap.objs.size = none := by
        have z : H5 ce.locals = none := I6.free
        rw [cL] at z
        exact z
      obtain ⟨m, hn, _⟩ := I6.loc
      have hn : s6.heap.Ns ce.locals m := hn
      rw [cL] at hn
      exact hRR D s3.heap.objs.size s6 m H5 I7 qq hn (I3.fpOk (Nat.le_refl _) nC)
    · have ti := T.item (X.blk s3 H3 scope ce fp) rfl rfl rfl hc i [] s5 _ H5 (fun _ _ => False) I5 (stat I5 n5) st5 go
      refine thnF ti fun r s6 ⟨u, hr, h6⟩ => ?_
      subst hr
      refine thnF h6 fun _ s7 ⟨x, H7, I7, r7, y7, st7, n7⟩ => ?_
      have I7' := I7.pinned (stat I7 n7) (T.obj _ _ st7)
      refine thnF (pg.run _ s7 _ H7 x u _ I7' r7 (step x H7 y7)) fun _ s8 ⟨σ8, H8, I8, hw8, q8⟩ => ?_
      refine thnF (pt.run _ s8 σ8 H8 _ I8 q8) fun b s9 ⟨H9, I9, q9⟩ => ?_
      -- the turn's end
      have fin : ∀ {s' : Shared} {H' : Hp}, Inv (X.blk s3 H3 scope ce fp) ([] ++ pinsAt fp s7.heap) σ8 H' s' → Nx H' → ∃ m, m < n ∧ ∃ i H', Inv (X.blk s3 H3 scope ce fp) [] (wipe σ (own.map (·.2))) H' s' ∧ tn i s'.heap ∧ (∀ b ∈ fp, H' b = none) ∧ U i m H' := fun {s' H'} I' nx => by
        obtain ⟨m', hm, w'⟩ := hNx H' nx
        have pin' : ∀ b ∈ fp, ∀ o, s7.heap.get? b = some o → s'.heap.get? b = some o ∧ H' b = none := fun b hb o e =>
          let z := I'.pin (b, o) (List.mem_append_right _ (List.mem_append_right _ (mem_pinsAt hb e)))
          ⟨z.1, z.2.1⟩
        have hl : (wipe σ (own.map (·.2))).length = σ8.length := by rw [← hw8, wipe_length]
        refine ⟨m', hm, i + 1, H', (I'.unpinned (pins := [])).weak hl (fun j v e => ?_), T.keep _ _ _ st7 fun b hb o e => (pin' b hb o e).1, fun b hb => ?_, w'⟩
        · rw [← hw8] at e
          exact (wipe_some e).1
        · obtain ⟨o, e, _⟩ := T.obj _ _ st7 b hb
          exact (pin' b hb o e).2
      cases b with
      | false =>
        simp only [Bool.false_eq_true, if_false] at q9 ⊢
        exact fin I9 q9
      | true =>
        simp only [if_true] at q9 ⊢
        refine thnF (pk.run _ s9 σ8 H9 _ I9 q9) fun z s10 ⟨yk, H10, I10, r10, q10⟩ => ?_
        refine thnF (pe.run _ s10 σ8 H10 _ I10 q10) fun z2 s11 ⟨yv, H11, I11, r11, put⟩ => ?_
        exact d_dictSetN (X := X.blk s3 H3 scope ce fp) r0 hP hw0 hK0 I11 r10 r11 put fun s12 H12 I12 nx => fin I12 nx
  exact codeAny_compStart_dict loop (T.self X.A 0 _ _ _ st4 loop)
/-- as a value -/
theorem pe_dcN {kx vx tg iter : Expr} {ifs : List Expr} {scope : Scope} {own : List (Str × Nat)} {pos : Pos} {wi : TI} {g : TG} {tt : TT} {tk tv : TE} (r0 : Room j X.A) (hP : X.prog = W.P) (hw0 : X.w = W.w) (hK0 : X.K = W.K) (hc : X.calm = true) (hN : X.N.Nodup) (hi : PI X tg iter wi) (ok : BlkOk X.N X.env.scope scope own)
    (hg : ∀ (s : Shared) (H : Hp) (C : Addr) (cl : List (Str × Addr)) (fp : List Addr), PG (X.blk s H scope (compEnvC scope cl C X.env) fp) tg g) (ht : ∀ (s : Shared) (H : Hp) (C : Addr) (cl : List (Str × Addr)) (fp : List Addr), PTs (X.blk s H scope (compEnvC scope cl C X.env) fp) ifs tt)
    (hk : ∀ (s : Shared) (H : Hp) (C : Addr) (cl : List (Str × Addr)) (fp : List Addr), PE (X.blk s H scope (compEnvC scope cl C X.env) fp) kx tk)
    (he : ∀ (s : Shared) (H : Hp) (C : Addr) (cl : List (Str × Addr)) (fp : List Addr), PE (X.blk s H scope (compEnvC scope cl C X.env) fp) vx tv) (hs : ∀ x, foldedSetIterable iter X.env x = pure x := by intro _; rfl) :
    PE X (.DictComp kx vx [⟨tg, iter, ifs, 0⟩] scope pos) (tDcN W wi g tt tk tv (own.map (·.2))) := by
  refine ⟨fun pins s σ H Q I h => ?_⟩
  rw [arm_eval_DictComp]
  refine dcN_core r0 hP hw0 hK0 hc hN I hi ok hg ht hk he hs h fun D C s' m H' I' q hn f => ⟨m, hn, fun h'' sb => ?_⟩
  obtain ⟨f0, f1, f2, f3, f4, f5⟩ := f
  exact ⟨.ref D, H', I'.turned (t' := s'.toks) (fun b o hb e => (sb.2 b hb).trans e) f0 f1 f3 f4 f5, rfl, q⟩
end
end PL

set_option Elab.async false
set_option linter.all false
set_option maxRecDepth 100000
set_option maxHeartbeats 4000000
/-! PL33: {k: v for x in xs} over data, the keys tuples. -/
namespace PL
open PySem L2
variable [TabL]
def dcL (step : D → M (Option (NestedKey × D × D))) : List D → List D → List D → M D
  | [], ks, ds => pure (.dct ks ds)
  | d :: l, ks, ds => do
    match ← step d with
    | some r => dcL step l (putK1 r.1 r.2.1 ks) (putK2 r.1 r.2.2 ks ds)
    | none => dcL step l ks ds
def stepD (t : D → SEnv → Option SEnv) (ft fk fv : SEnv → M D) (Γ : SEnv) : D → M (Option (NestedKey × D × D)) := fun d => do
  let Γ1 ← ofOpt (t d Γ)
  match ← M.nox (ft Γ1) with
  | .bl true => do let x ← M.nox (fk Γ1); let k ← ofOpt (keyOf x); let y ← M.nox (fv Γ1); pure (some (k, x, y))
  | .bl false => pure none
  | _ => M.bad
def eDc (vs : List Nat) (it : SEnv → M (List D)) (t : D → SEnv → Option SEnv) (ft fk fv : SEnv → M D) : SEnv → M D := fun Γ => do
  let ds ← it Γ
  let ds ← ofOpt (szD ds)
  dcL (stepD t ft fk fv (clrs vs.reverse Γ)) ds [] []
theorem DicAt.goes {W : Wd} {S S' : Addr → Prop} {H H' : Hp} {a : Addr} {ks ds : List D} {es : List (NestedKey × Addr × V)} (g : Goes S S' H H') (h : DicAt W S H a ks ds es) (e : H' a = some (HOd W a es)) : DicAt W S' H' a ks ds es :=
  ⟨.inl e, h.ky, h.nd, Reps.goes g _ _ h.rk, Reps.goes g _ _ h.rd⟩
section
variable {X : Cx} {F : Fr} {k : Nat} {own : List (Str × Nat)} {kx vx tg iter : Expr} {ifs : List Expr} {scope : Scope} {pos : Pos} {it : SEnv → M (List D)} {t : D → SEnv → Option SEnv} {ft fk fv : SEnv → M D}
theorem wipe_wipe (σ : St) (vs : List Nat) : L2.wipe (L2.wipe σ vs) vs = L2.wipe σ vs := by
  have key : ∀ (ws us : List Nat), (∀ w ∈ ws, w ∈ us) → L2.wipe (L2.wipe σ us) ws = L2.wipe σ us := by
    intro ws
    induction ws with
    | nil => intro us _; rfl
    | cons w ws ih =>
      intro us hs
      show (L2.wipe (L2.wipe σ us) ws).set w none = L2.wipe σ us
      rw [ih us fun z hz => hs z (List.mem_cons_of_mem _ hz)]
      have hw := hs w List.mem_cons_self
      apply List.ext_getElem?
      intro j
      by_cases hj : w = j
      · subst hj
        by_cases hl : w < (L2.wipe σ us).length
        · rw [List.getElem?_set_self hl]
          cases g : (L2.wipe σ us)[w]? with
          | none => rw [List.getElem?_eq_none_iff] at g; omega
          | some o =>
            cases o with
            | none => rfl
            | some y => exact absurd hw (wipe_some g).2
        · rw [List.getElem?_eq_none (by simpa using hl), List.getElem?_eq_none (by omega)]
      · rw [List.getElem?_set_ne hj]
  exact key vs vs fun _ h => h
theorem dc_read {σ : St} {H : Hp} {Q : VK} {S : Addr → Prop} {Γ : SEnv} {p : Pot} (vs : List Nat) (es : ES F S Γ p σ H) (q : OutOk F (eDc vs it t ft fk fv Γ p) fun d p' => ∀ v H', Ext F H H' → PotOk F H' p' → RN F S H H' d v → Q v H') :
    tDcN F.toWd (tI true F it) (tGx vs F.noE t) (tT F.noE ft) (tX RV F.noE fk) (tX RV F.noE fv) vs σ H Q := by
  refine ⟨S, Γ, p, es, (OutOk.bind.mp q).imp fun ds p1 q J H1 e1 q1 J1 D hD => ?_⟩
  obtain ⟨ds', esz, q⟩ := out_opt.mp (OutOk.bind.mp q)
  obtain ⟨hsz, rfl⟩ := ite_sm esz
  have es1 := es.ext e1 q1
  have nS : ¬ S D := fun w => by have := es1.mt D w; rw [hD] at this; exact this
  let S' : Addr → Prop := fun a => S a ∨ a = D
  have inv0 : Ext F H1 (upd H1 D (HOd F.toWd D [])) := .of (upd_Same hD)
  have npD : F.pa ≠ some D := fun z => nS (es1.pa D z)
  have esAt : ∀ {H2 : Hp} {p2 : Pot}, Ext F H1 H2 → PotOk F H2 p2 → (∃ xs, H2 D = some (HOd F.toWd D xs)) → ES F S' Γ p2 σ H2 := fun {H2 p2} e2 q2 hx => by
    have g : Goes S S' H1 H2 := ⟨fun a o h n nt => e2.get a o h (fun z => n (es1.pa a z)) nt, fun a w => w.elim .inl fun z => .inr (z ▸ hD), es1.mt⟩
    refine ⟨fun i s h => ?_, q2, fun a w => ?_, fun a h => .inl (es1.pa a h), fun a h => .inl (es1.s0 a h), es1.same.ext e2⟩
    · obtain ⟨x, ex, r⟩ := es1.env i s h
      refine ⟨x, ex, ?_⟩
      cases s with
      | no => trivial
      | val d => obtain ⟨v, e, r⟩ := r; exact ⟨v, e, Rep.goes g _ _ r⟩
      | own d => obtain ⟨a, e, sa, np, r⟩ := r; exact ⟨a, e, .inl sa, np, r.goes g fun o h nt => e2.get a o h np nt⟩
      | pot => exact r
      | exc x => exact SlOk.excGoes g r
      | thk q => exact SlOk.thkGoes g r
      | scr ns => exact SlOk.scrGoes g r
    · rcases w with w | rfl
      · exact e2.mt es1.mt q2 a w
      · obtain ⟨xs, hx⟩ := hx; rw [hx]; trivial
  refine ⟨fun i m H2 => m = ds.length - i ∧ i ≤ ds.length ∧ ∃ p2 ee ks dd, ee.length ≤ i ∧ Ext F H1 H2 ∧ PotOk F H2 p2 ∧ H2 D = some (HOd F.toWd D ee) ∧ DicAt F.toWd S' H2 D ks dd ee ∧
    OutOk F (dcL (stepD t ft fk fv (clrs vs.reverse Γ)) (ds.drop i) ks dd p2) fun rs p' => ∀ v H', Ext F H H' → PotOk F H' p' → RN F S H H' rs v → Q v H',
    ⟨_, rfl, Nat.zero_le _, p1, [], [], [], Nat.zero_le _, inv0, q1.same (upd_Same hD), upd_same, ⟨.inl upd_same, rfl, by simp, .nil, .nil⟩, by rw [List.drop_zero]; exact q⟩, ?_⟩
  rintro i m H2 ⟨rfl, hi, p2, ee, ks, dd, hal, e2, q2, hx, da, q⟩
  have es2 := esAt e2 q2 ⟨ee, hx⟩
  have jj := J1 H2 S' ⟨e2, fun a w => w.elim .inl fun z => .inr (z ▸ hD)⟩ es2.mt
  by_cases hlt : i < ds.length
  · obtain ⟨hgo, hy⟩ := jj.1 i hlt
    refine .inr ⟨hgo, fun H' => ∃ p2 ee ks dd, ee.length ≤ i + 1 ∧ Ext F H1 H' ∧ PotOk F H' p2 ∧ H' D = some (HOd F.toWd D ee) ∧ DicAt F.toWd S' H' D ks dd ee ∧
      OutOk F (dcL (stepD t ft fk fv (clrs vs.reverse Γ)) (ds.drop (i + 1)) ks dd p2) fun rs p' => ∀ v H', Ext F H H' → PotOk F H' p' → RN F S H H' rs v → Q v H',
      fun H' h => ⟨ds.length - (i + 1), by omega, rfl, hlt, h⟩, fun x H3 yl => ?_⟩
    obtain ⟨sm, d, ed, r⟩ := hy x H3 yl
    have e23 : Ext F H2 H3 := .of sm
    have q3 := q2.same sm
    have es3 : ES F S' Γ p2 σ H3 := es2.ext e23 q3
    rw [List.drop_eq_getElem_cons hlt] at q
    have ed' : ds[i] = d := by rw [List.getElem?_eq_getElem hlt] at ed; exact Option.some.inj ed
    rw [ed'] at q
    unfold dcL at q
    have q := OutOk.bind.mp q
    unfold stepD at q
    obtain ⟨Γ1, eΓ, q⟩ := out_opt.mp (OutOk.bind.mp q)
    have esw := ES.wipe vs es3
    refine ⟨S', clrs vs.reverse Γ, p2, d, esw.noE, r, Γ1, eΓ, fun σ2 w2 es4 => ?_⟩
    refine ⟨by rw [w2, wipe_wipe], S', Γ1, p2, es4, ?_⟩
    refine (OutOk.bind.mp q).nox.imp fun b p3 q => ?_
    have hb : ∃ c, b = .bl c := by cases b <;> first | exact ⟨_, rfl⟩ | exact q.elim
    obtain ⟨c, rfl⟩ := hb
    refine ⟨c, rfl, fun H4 e34 q4 => ?_⟩
    have e24 : Ext F H1 H4 := (e2.trans e23).trans e34
    have hx4 : H4 D = some (HOd F.toWd D ee) := e34.get _ _ (e23.get _ _ hx npD nt_ext) npD nt_ext
    have g24 : Goes S' S' H2 H4 := ⟨fun a o h n nt => e34.get _ _ (e23.get _ _ h (fun z => n (.inl (es1.pa a z))) nt) (fun z => n (.inl (es1.pa a z))) nt, fun _ w => .inl w, es2.mt⟩
    cases c with
    | false =>
      exact iteF ⟨p3, ee, ks, dd, Nat.le_succ_of_le hal, e24, q4, hx4, da.goes g24 hx4, q⟩
    | true =>
      have q := OutOk.bind.mp (show OutOk F ((M.nox (fk Γ1) >>= fun x => ofOpt (keyOf x) >>= fun k => M.nox (fv Γ1) >>= fun y => pure (some (k, x, y))) p3) _ from q)
      refine iteT ⟨S', Γ1, p3, es4.ext e34 q4, q.nox.imp fun y p4 q v1 H5 e45 q5 r5 => ?_⟩
      obtain ⟨kk, ek, q⟩ := out_opt.mp (OutOk.bind.mp q)
      have es5 := (es4.ext e34 q4).ext e45 q5
      refine ⟨S', Γ1, p4, es5, (OutOk.bind.mp q).nox.imp fun z p5 q v2 H6 e56 q6 r6 => ?_⟩
      have q : OutOk F (dcL (stepD t ft fk fv (clrs vs.reverse Γ)) (ds.drop (i + 1)) (putK1 kk y ks) (putK2 kk z ks dd) p5) _ := q
      have e25 : Ext F H1 H6 := (e24.trans e45).trans e56
      have hx5 : H5 D = some (HOd F.toWd D ee) := e45.get _ _ hx4 npD nt_ext
      have hx6 : H6 D = some (HOd F.toWd D ee) := e56.get _ _ hx5 npD nt_ext
      have g45 : Goes S' S' H4 H5 := ⟨fun a o h n nt => e45.get _ _ h (fun z => n (.inl (es1.pa a z))) nt, fun _ w => .inl w, (esAt e24 q4 ⟨ee, hx4⟩).mt⟩
      have es5' := esAt (e24.trans e45) q5 ⟨ee, hx5⟩
      have g56 : Goes S' S' H5 H6 := ⟨fun a o h n nt => e56.get _ _ h (fun z => n (.inl (es1.pa a z))) nt, fun _ w => .inl w, es5'.mt⟩
      have es6 := esAt e25 q6 ⟨ee, hx6⟩
      have da6 : DicAt F.toWd S' H6 D ks dd ee := ((da.goes g24 hx4).goes g45 hx5).goes g56 hx6
      obtain ⟨kt, kn, k8⟩ := keyOf_some ek
      have ry : Rep F.toWd S' H6 y v1 := Rep.goes g56 _ _ r5
      obtain ⟨bb, rfl⟩ : ∃ b, v1 = .ref b := by
        have ry := ry
        cases y <;> try cases kt
        unfold Rep at ry
        obtain ⟨b, _, e, _⟩ := ry
        exact ⟨b, e⟩
      have hkl : ks.length = ee.length := by have := da6.rk.length; simpa using this
      have g67 : Goes S' S' H6 (upd H6 D (HOd F.toWd D (putE kk bb v2 ee))) := ⟨fun a o h n _ => by rw [upd_ne (fun z => n (.inr z))]; exact h, fun _ w => .inl w, es6.mt⟩
      refine ⟨S', D, ks, dd, y, kk, ee, bb, rfl, rfl, da6, ry, ek, by omega, p5, putE kk bb v2 ee, putK1 kk y ks, putK2 kk z ks dd, ?_, e25.trans2 (Kept.set1 (X := fun b => b = D) hx6 nc_HOd rfl) (fun c o h z => by rw [z, hD] at h; cases h), fun a h => ?_, upd_same, ?_, q⟩
      · have := putE_length (k := kk) (b := bb) (v := v2) (es := ee); omega
      · have z := es1.pa a h
        obtain ⟨c1, c2⟩ := q6 a h
        refine ⟨by rw [upd_ne (fun w => by subst w; exact nS z)]; exact c1, ?_⟩
        by_cases hc : F.ca = D
        · obtain ⟨_, d2⟩ := q1 a h
          rw [hc, hD] at d2; cases d2
        · rw [upd_ne hc]; exact c2
      · exact ⟨.inl upd_same, put_keys kn da6.ky, putE_nodup da6.nd, Reps.goes g67 _ _ (put_reps1 kn ry da6.ky da6.rk), Reps.goes g67 _ _ (put_reps2 (Rep.goes (S' := S') ⟨fun _ _ h _ _ => h, fun _ w => .inl w, es6.mt⟩ _ _ r6) da6.ky da6.rd)⟩
  · have ei : i = ds.length := by omega
    subst ei
    rw [List.drop_length] at q
    have q : ∀ v H', Ext F H H' → PotOk F H' p2 → RN F S H H' (.dct ks dd) v → Q v H' := q
    exact .inl ⟨jj.2, q _ H2 (e1.trans e2) q2 ⟨D, rfl, es.sub e1 q1 D hD, .inr ⟨ee, hx, da.ky, da.nd, da.rk, da.rd⟩⟩⟩
theorem ev_dc (o : On X F k) (hi : EI true X F tg iter it) (ok : BlkOk X.N X.env.scope scope own)
    (hg : ∀ (s : Shared) (H : Hp) (C : Addr) (cl : List (Str × Addr)) (fp : List Addr), On (X.blk s H scope (compEnvC scope cl C X.env) fp) F.noE k → PG (X.blk s H scope (compEnvC scope cl C X.env) fp) tg (tGx (own.map (·.2)) F.noE t))
    (ht : ∀ (s : Shared) (H : Hp) (C : Addr) (cl : List (Str × Addr)) (fp : List Addr), On (X.blk s H scope (compEnvC scope cl C X.env) fp) F.noE k → PTs (X.blk s H scope (compEnvC scope cl C X.env) fp) ifs (tT F.noE ft))
    (hk : ∀ (s : Shared) (H : Hp) (C : Addr) (cl : List (Str × Addr)) (fp : List Addr), On (X.blk s H scope (compEnvC scope cl C X.env) fp) F.noE k → EV (X.blk s H scope (compEnvC scope cl C X.env) fp) F.noE kx fk)
    (he : ∀ (s : Shared) (H : Hp) (C : Addr) (cl : List (Str × Addr)) (fp : List Addr), On (X.blk s H scope (compEnvC scope cl C X.env) fp) F.noE k → EV (X.blk s H scope (compEnvC scope cl C X.env) fp) F.noE vx fv) (hs : ∀ x, foldedSetIterable iter X.env x = pure x := by intro _; rfl) :
    EVN X F (.DictComp kx vx [⟨tg, iter, ifs, 0⟩] scope pos) (eDc (own.map (·.2)) it t ft fk fv) :=
  PE.weak (pe_dcN o.room o.P o.w o.K o.calm o.nd hi ok (fun s H C cl fp => hg s H C cl fp (o.blk _ _ _ _ _)) (fun s H C cl fp => ht s H C cl fp (o.blk _ _ _ _ _)) (fun s H C cl fp => hk s H C cl fp (o.blk _ _ _ _ _)) (fun s H C cl fp => he s H C cl fp (o.blk _ _ _ _ _)) hs) fun σ H Q q => by
    obtain ⟨S, Γ, p, es, q⟩ := q
    exact dc_read _ es q
end
end PL

set_option Elab.async false
set_option linter.all false
set_option maxRecDepth 100000
set_option maxHeartbeats 4000000
/-! PL34: t[::-1] of a tuple, len of a dict, min of a list of numbers. -/
namespace PL
open PySem L2
variable [TabL]

/-! ### t[::-1] -/
theorem fm_congr {α β : Type} {f g : α → Option β} : ∀ {l : List α}, (∀ x ∈ l, f x = g x) → l.filterMap f = l.filterMap g
  | [], _ => rfl
  | a :: l, h => by
    rw [List.filterMap_cons, List.filterMap_cons, h a (by simp), fm_congr fun x hx => h x (by simp [hx])]
theorem range_rev {α : Type} (l : List α) : (List.range l.length).filterMap (fun (m : Nat) => l[((l.length : Int) - 1 + (m : Int) * -1).toNat]?) = l.reverse := by
  have e1 : (List.range l.length).filterMap (fun (m : Nat) => l[((l.length : Int) - 1 + (m : Int) * -1).toNat]?) = (List.range l.length).filterMap (fun (m : Nat) => l.reverse[m]?) := by
    refine fm_congr fun m hm => ?_
    have hm := List.mem_range.mp hm
    rw [List.getElem?_reverse hm]
    congr 1
    omega
  rw [e1]
  have key : ∀ (r : List α), (List.range r.length).filterMap (fun (m : Nat) => r[m]?) = r := by
    intro r
    induction r with
    | nil => rfl
    | cons a r ih =>
      rw [List.length_cons, List.range_succ_eq_map, List.filterMap_cons, List.filterMap_map]
      show a :: (List.range r.length).filterMap ((fun (m : Nat) => (a :: r)[m]?) ∘ Nat.succ) = a :: r
      have : ((fun (m : Nat) => (a :: r)[m]?) ∘ Nat.succ) = fun m => r[m]? := by funext m; simp
      rw [this, ih]
  have := key l.reverse
  rw [List.length_reverse] at this
  exact this
section
open PySem.Spec PyProof.Rows HT
variable {prog : Program} {w : World} {A : Around} {E : Value → Shared → Prop} {s : Shared}
theorem sl_back {sl : Addr} {vs : Value} {n : Nat} {Q : Int × Int × Nat → Shared → Prop} (hs : s.heap.IsSliceOf sl .none .none vs) (ps : IsPart vs (some (-1))) (h : Q ((n : Int) - 1, -1, n) s) : wpAny (model prog w) A (Builtin.Slice.sliceApplied (.ref sl) (pure (n : Int))) Q E s := by
  obtain ⟨os, hos, hcs, hds⟩ := id hs
  unfold Builtin.Slice.sliceApplied Builtin.Slice.sliceFields
  refine wpAny_bind (wpAny_bind (wpAny_field hos hds (x := .none) rfl (wpAny_bind (wpAny_field hos hds (x := .none) rfl (wpAny_bind (wpAny_field hos hds (x := vs) rfl (wpAny_pure ?_)))))))
  refine wpAny_bind (slicePart_ ps ?_)
  show wpAny _ _ (if ((-1 : Int) == 0) = true then _ else _) _ _ s
  rw [if_neg (by decide)]
  refine wpAny_bind (slicePart_none (wpAny_bind (slicePart_none (wpAny_bind (wpAny_pure ?_)))))
  show wpAny _ _ (pure ((n : Int) - 1, (-1 : Int), Builtin.Slice.slicePlaces ((n : Int) - 1) (-1) (-1))) _ _ s
  have e : Builtin.Slice.slicePlaces ((n : Int) - 1) (-1) (-1) = n := by
    unfold Builtin.Slice.slicePlaces
    rw [if_neg (by decide)]
    split
    · rw [show (- -1 : Int) = 1 by decide, Int.ediv_one]; omega
    · omega
  rw [e]
  exact wpAny_pure h
theorem get_back {t sl : Addr} {its : List Value} {vs : Value} {Q : Value → Shared → Prop} (ht : IsTup s.heap t its.toArray) (hs : s.heap.IsSliceOf sl .none .none vs) (ps : IsPart vs (some (-1)))
    (h : Q (.ref s.heap.objs.size) { s with heap := s.heap.push { cls := .type "tuple", data := .seq its.reverse.toArray } }) (hz : its.length ≤ sizeLine) : wpAny (model prog w) A (getItem (.ref t) (.ref sl)) Q E s := by
  obtain ⟨os, hos, hcs, hds⟩ := id hs
  have hT : s.TypeIs (.ref sl) "slice" := ⟨os, hos, hcs⟩
  have hfit : sizeOk (.seq its.reverse.toArray) := by
    show its.reverse.toArray.size ≤ sizeLine
    rw [List.size_toArray, List.length_reverse]; exact hz
  unfold getItem
  try with_reducible refine wpAny_holding ?_
  first | refine wpAny_bind (wpAny_pure ?_) | skip
  refine wpAny_bind (wpAny_sequenceKey ht.typeIs (by decide) ?_)
  refine wpAny_bind (wpAny_callSpecial?_slot (name := Str.ofString "__getitem__") ht.typeIs PyProof.Rows.slot_tuple_getitem (wpAny_call_entry PyProof.Rows.slot_tuple_getitem ht.typeIs entry_tuple_getitem ?_ (args_tuple_getitem _ _)))
  show wpAny _ _ (Builtin.Tuple.tupleItemsOf (.ref t) >>= _) _ _ s
  refine wpAny_bind (tupleItemsOf_ ht (wpAny_bind (wpAny_typeOf hT ?_)))
  rw [if_pos (by decide)]
  refine wpAny_bind (sl_back hs ps ?_)
  show wpAny _ _ (if (((its.toArray.size : Nat) : Int) - 1 == 0 && (-1 : Int) == 1 && its.toArray.size == its.toArray.size) = true then _ else _) _ _ s
  rw [if_neg (by simp)]
  have e : ((List.range its.toArray.size).filterMap fun (m : Nat) => its.toArray[(((its.toArray.size : Nat) : Int) - 1 + (m : Int) * -1).toNat]?).toArray = its.reverse.toArray := by
    rw [← range_rev its]
    simp
  rw [e]
  first
    | exact wpAny_bind (m := Builtin.Tuple.tupleExact _) (wpAny_newObj_type (wpAny_pure ⟨_, rfl, wpAny_pure h⟩) hfit)
    | exact wpAny_bind (m := Builtin.Tuple.tupleExact _) (wpAny_newObj_type (wpAny_bind (wpAny_pure (wpAny_pure ⟨_, rfl, wpAny_pure h⟩))) hfit)
    | exact wpAny_bind (wpAny_bind (m := Builtin.Tuple.tupleExact _) (wpAny_newObj_type (wpAny_pure (wpAny_pure ⟨_, rfl, wpAny_pure h⟩)) hfit))
    | exact wpAny_bind (wpAny_bind (m := Builtin.Tuple.tupleExact _) (wpAny_newObj_type (wpAny_pure ⟨_, rfl, wpAny_pure h⟩) hfit))
end
section
variable {X : Cx} {F : Fr} {k : Nat} {e : Expr} {f : SEnv → M D} {pos : Pos}
def tBackT (K : PySem.W.Frag) (te : TE) : TE := fun σ H Q => te σ H fun x H1 => ∃ a xs, x = .ref a ∧ SqT K H1 a xs ∧ ∀ p, H1 p = none → Q (.ref p) (upd H1 p (.tup xs.reverse))
theorem pe_backT {te : TE} {k : Nat} {p1 p2 p3 : Pos} (he : PE X e te) : PE X (.Subscript e (.Slice none none (some (.UnaryOp .USub (.Constant (.int 1) k p1) p2)) p3) pos) (tBackT X.K te) := by
  refine ⟨fun pins s σ H Q I h => ?_⟩
  refine PyProof.Rows.Subscript_ (thn (he.run pins s σ H _ I h) fun v s1 ⟨x, H1, I1, r1, a, xs, ex, hx, q⟩ => ?_)
  cases ex
  cases r1
  have hst : PO X (some (.UnaryOp .USub (.Constant (.int 1) k p1) p2)) (tPart (tUn (rU fun i => .int (-i)) (tC (.int 1)))) := po_some (pe_un un_neg pe_int)
  refine PySem.wpAny_Slice (thn (po_none.run pins s1 σ H1 (fun o H2 => o = none ∧ H2 = H1) I1 ⟨rfl, rfl⟩) fun vl s2 ⟨l, H2, I2, pl, el, e2⟩ => ?_)
  subst el e2
  refine thn (po_none.run pins s2 σ H2 (fun o H3 => o = none ∧ H3 = H2) I2 ⟨rfl, rfl⟩) fun vu s3 ⟨u, H3, I3, pu, eu, e3⟩ => ?_
  subst eu e3
  refine thn (hst.run pins s3 σ H3 (fun o H4 => o = some (-1) ∧ H4 = H3) I3 ⟨1, rfl, -1, rfl, rfl, rfl⟩) fun vs s4 ⟨o, H4, I4, ps, eo, e4⟩ => ?_
  subst eo e4
  cases pl
  cases pu
  have I5 : Inv X pins σ H4 { s4 with heap := s4.heap.push { cls := .type "slice", data := .fields #[.none, .none, vs] } } := I4.kept (t' := s4.toks) fun b ob q => Heap.get?_push_of_some _ q
  obtain ⟨its, r, ht, hz⟩ := I5.tuple hx
  show wpAny (model X.prog X.w) X.A (PyProof.Rows.subscriptTail e (.Slice none none (some (.UnaryOp .USub (.Constant (.int 1) k p1) p2)) p3) (.ref a) (.ref s4.heap.objs.size)) (EP X pins σ Q) X.xe { s4 with heap := s4.heap.push { cls := .type "slice", data := .fields #[.none, .none, vs] } }
  refine PyProof.Rows.tail_any (ops := [.ref a, .ref s4.heap.objs.size]) ht.typeIs (PyProof.Rows.slot_tuple_getitem.lookup) ?_ (by with_unfolding_all rfl)
  refine get_back ht (Heap.IsSliceOf.new _ .none .none vs) ps ?_ (by rw [← r.length]; exact hz)
  refine ⟨.ref _, _, I5.laid (t' := s4.toks) (o := .tup xs.reverse) (fun b ob q => Heap.get?_push_of_some _ q) (Nat.le_refl _) ?_, rfl, q _ (I5.hok.fresh (Nat.le_refl _))⟩
  exact ⟨by rw [List.length_reverse]; exact hz, _, r.reverse, ⟨_, Heap.get?_push_size _ rfl, rfl, _, rfl⟩⟩
def backD : D → Option D
  | .tup l => some (.tup l.reverse)
  | _ => none
theorem ev_back {k' : Nat} {p1 p2 p3 : Pos} (o : On X F k) (ha : EVB X F e f) : EV X F (.Subscript e (.Slice none none (some (.UnaryOp .USub (.Constant (.int 1) k' p1) p2)) p3) pos) (eUn backD f) :=
  PE.weak (pe_backT ha) fun σ H Q q => by
    obtain ⟨S, Γ, p, es, q⟩ := q
    refine ⟨S, Γ, p, es, (OutOk.bind.mp q).imp fun d1 p1 q v1 H1 e1 q1 r1 => ?_⟩
    obtain ⟨d, e4, q⟩ := out_opt.mp q
    cases d1 <;> try cases e4
    rename_i l
    obtain ⟨a, vs, rfl, hq, rs⟩ := RepT.tup r1
    refine ⟨a, vs, rfl, by rw [o.K]; exact hq, fun pp hp => q _ _ (e1.trans (.of (upd_Same hp))) (q1.same (upd_Same hp)) ?_⟩
    exact new_tup (es.ext e1 q1).mt (Reps.rev rs) hp
end

/-! ### len of a dict -/
section
variable {X : Cx} {W : Wd}
def rDLen (W : Wd) : List V → Hp → VK → Prop := fun xs H Q => ∃ (S : Addr → Prop) (a : Addr) (ks ds : List D), xs = [.ref a] ∧ OwnAt W S H a (.dct ks ds) ∧ ks.all isTupD = true ∧ Q (.int (ks.length : Nat)) H
theorem call_lenX (hP : X.prog = W.P) (hw : X.w = W.w) (hK : X.K = W.K) : CallR X (.builtin "len") (rDLen W) := by
  intro pins s σ H xs us Q I r h
  obtain ⟨S, a, ks, ds, rfl, hd, ht, q⟩ := h
  obtain ⟨u, rfl, ru⟩ := vals1 r
  cases (show u = Value.ref a from ru)
  obtain ⟨es, DA⟩ := dicAt_of hd ht
  obtain ⟨z1, z2, z3, xs, px, dd⟩ := dicAt_heap I hP hw hK DA
  have l1 : ks.length = es.length := by
    have := DA.rk.length
    rw [List.length_map] at this
    exact this
  have l2 : es.length = xs.length := Paired.length px
  refine call_len_dictH z1 dd (by rw [← l2]; rw [sizeLine_eq] at z2; omega) ?_
  rw [← l2, ← l1]
  exact ⟨.int ((ks.length : Nat) : Int), H, I.tok _, ⟨_, rfl⟩, q⟩
end
def lenX : List D → Option D
  | [.dct ks ds] => if ks.all isTupD then some (.int (ks.length : Nat)) else none
  | l => lenD l
theorem CallD.or2 {F : Fr} {r r' : List V → Hp → VK → Prop} {g g' : List D → Option D} {R : RR} {h : List D → Option D} (a : CallD F r g R) (b : CallD F r' g' R) (e : ∀ l, h l = g l ∨ h l = g' l) : CallD F (fun xs H Q => r xs H Q ∨ r' xs H Q) h R := by
  intro S H0 H ds d vs Q mt hn rr eq kk
  rcases e ds with z | z
  · exact .inl (a S H0 H ds d vs Q mt hn rr (by rw [← z]; exact eq) kk)
  · exact .inr (b S H0 H ds d vs Q mt hn rr (by rw [← z]; exact eq) kk)
def lenDD : List D → Option D
  | [.dct ks ds] => if ks.all isTupD then some (.int (ks.length : Nat)) else none
  | _ => none
theorem cd_lenX {F : Fr} : CallD F (rDLen F.toWd) lenDD RV := by
  intro S H0 H ds d vs Q mt hn r e kk
  unfold lenDD at e
  split at e
  · rename_i ks ds
    obtain ⟨v, rfl, r1⟩ := pir1 r
    obtain ⟨ht, rfl⟩ := ite_sm e
    obtain ⟨a, rfl, o⟩ := r1.dct
    exact ⟨S, a, ks, ds, rfl, o, ht, kk _ H (Same.refl _) rep_i⟩
  · cases e
/-! ### min of a list of numbers -/
def rMinL (K : PySem.W.Frag) : List V → Hp → VK → Prop := fun vs H Q => ∃ (p : Addr) (n : Int) (ns : List Int), vs = [.ref p] ∧ SqL K H p ((n :: ns).map V.int) ∧ Q (.int (ns.foldl min n)) H
theorem depth_ints : ∀ ns : List Int, PyData.depthAll (ns.map .int) ≤ 1
  | [] => by unfold List.map PyData.depthAll; omega
  | n :: ns => by
    have := depth_ints ns
    unfold List.map PyData.depthAll PyData.depth
    omega
section
variable {X : Cx}
theorem reads_ints {h : Heap} : ∀ {ns : List Int} {us : List Value}, Vals (ns.map V.int) us → ReadsAll h us (ns.map .int) [] := fun {ns} => by
  induction ns with
  | nil => intro us r; cases r; exact .nil
  | cons n ns ih =>
    intro us r
    cases r with
    | cons h1 h2 =>
      obtain ⟨t, rfl⟩ := h1
      exact .cons (as := []) (bs := []) (.int n t) (ih h2)
theorem call_minL {k : Nat} (hc : X.calm = true) (r0 : Room k X.A) : CallR X (.builtin "min") (rMinL X.K) := by
  intro pins s σ H vs us Q I r h
  obtain ⟨p, n, ns, rfl, hs, q⟩ := h
  obtain ⟨its, rv, hl, _⟩ := I.list hs
  rw [Vals.ref1 r]
  refine PySem.W.min_list_data (x := .int n) (xs := ns.map .int) (I.ok.hd hc) hl.isList (reads_ints (ns := n :: ns) rv) ⟨?_, ?_⟩ ?_ fun i v h' tk bs hv hr hk => ?_
  · intro x hx y hy
    obtain ⟨i, _, rfl⟩ := List.mem_map.mp (show x ∈ (n :: ns).map PyData.int from hx)
    obtain ⟨j, _, rfl⟩ := List.mem_map.mp (show y ∈ (n :: ns).map PyData.int from hy)
    first | rfl | (unfold PySem.alike; rfl)
  · intro x hx
    obtain ⟨i, _, rfl⟩ := List.mem_map.mp (show x ∈ (n :: ns).map PyData.int from hx)
    exact fun z => nomatch z
  · have := r0.un
    have := depth_ints (n :: ns)
    show X.A.units + 1 + PyData.depthAll ((n :: ns).map .int) < cLine
    omega
  · rw [PySem.W.minD_ints] at hr
    cases hr
    exact ⟨.int _, H, I.kept hk, ⟨_, rfl⟩, q⟩
end
def intsOf : List D → Option (List Int)
  | [] => some []
  | .int i :: l => (intsOf l).map (i :: ·)
  | _ :: _ => none
def minLD : List D → Option D
  | [.lst l] => match intsOf l with
    | some (n :: ns) => some (.int (ns.foldl min n))
    | _ => none
  | _ => none
theorem reps_intsOf {W : Wd} {S : Addr → Prop} {H : Hp} : ∀ {l : List D} {vs : List V} {ns : List Int}, Reps W S H l vs → intsOf l = some ns → vs = ns.map V.int
  | [], _, _, h, e => by unfold Reps at h; cases e; exact h
  | d :: l, _, ns, h, e => by
    unfold Reps at h
    obtain ⟨v, r, rfl, h1, h2⟩ := h
    cases d <;> try cases e
    rename_i b
    unfold intsOf at e
    cases g : intsOf l with
    | none => rw [g] at e; cases e
    | some bs =>
      rw [g] at e; cases e
      unfold Rep at h1
      rw [h1, reps_intsOf h2 g]
      rfl
theorem cd_minL {F : Fr} : CallD F (rMinL F.K) minLD RV := by
  intro S H0 H ds d vs Q mt hn r e kk
  unfold minLD at e
  split at e
  · rename_i l
    obtain ⟨v, rfl, r1⟩ := pir1 r
    obtain ⟨a, vs, rfl, q, rs⟩ := r1.lst
    split at e
    · rename_i n ns g
      cases e
      have := reps_intsOf rs g
      subst this
      exact ⟨a, n, ns, rfl, SqL.of q, kk _ H (Same.refl _) rep_i⟩
    · cases e
  · cases e
section
variable {X : Cx} {F : Fr} {k : Nat} {a b e : Expr} {fa fb f : SEnv → M D} {fs : SEnv → M (List D)} {es : List Expr} {pos : Pos} {p : Pos}
theorem ev_lenX (o : On X F k) (hm : F.mg "len" = none) (hg : Gl X "len") (ha : EA true X F [a] fs) (h1 : starEach [a] X.env = (false, eval a X.env) :: starEach [] X.env := by rfl) : EV X F (.Call (.Name "len" p) [a] [] pos) (eCall lenX fs) :=
  ev_callB (call_len.or (call_lenX (W := F.toWd) o.P o.w o.K)) (CallD.or2 (by rw [o.K]; exact cd_len) cd_lenX fun l => by unfold lenX lenDD; split <;> simp_all) hg (by rw [o.mg]; exact hm) PySem.boot_len ha (he := h1)
theorem ev_minL (o : On X F k) (hm : F.mg "min" = none) (hg : Gl X "min") (ha : EA true X F [a] fs) (h1 : starEach [a] X.env = (false, eval a X.env) :: starEach [] X.env := by rfl) : EV X F (.Call (.Name "min" p) [a] [] pos) (eCall minLD fs) :=
  ev_callB (call_minL o.calm o.room) (by rw [o.K]; exact cd_minL) hg (by rw [o.mg]; exact hm) (by decide +kernel) ha (he := h1)
end
end PL

set_option Elab.async false
set_option linter.all false
set_option maxRecDepth 100000
set_option maxHeartbeats 4000000
/-! PL35: sorted(xs, key=str) of tuples of plain data. -/
namespace PL
open PySem L2
variable [TabL]
def pyD (d : D) : PyData := (toPy d).getD .none
def strOk (d : D) : Bool := isTupD d && match toPy d with
  | some x => x.showable && !x.hasDict && decide (x.shown.length ≤ sizeLine) && decide (x.depth ≤ 100)
  | none => false
def keyP (d : D) : PyData := .str (pyD d).shown
def sortS : List D → Option D
  | [.lst l] => if l.all strOk then some (.lst (l.mergeSort (PySem.W.dataLe false keyP))) else none
  | _ => none
theorem strOk_of {d : D} (h : strOk d = true) : (∃ l, d = .tup l) ∧ ∃ x, toPy d = some x ∧ x.showable = true ∧ x.hasDict = false ∧ x.shown.length ≤ sizeLine ∧ x.depth ≤ 100 := by
  unfold strOk at h
  rw [Bool.and_eq_true] at h
  obtain ⟨h1, h2⟩ := h
  have h0 : ∃ l, d = .tup l := by
    cases d <;> first | exact ⟨_, rfl⟩ | (exfalso; exact Bool.noConfusion h1)
  refine ⟨h0, ?_⟩
  cases e : toPy d with
  | none => rw [e] at h2; cases h2
  | some x =>
    rw [e] at h2
    simp only [Bool.and_eq_true, Bool.not_eq_true', decide_eq_true_eq] at h2
    exact ⟨x, rfl, h2.1.1.1, h2.1.1.2, h2.1.2, h2.2⟩
def rSortS (W : Wd) : List V → List V → Hp → VK → Prop := fun vs zs H Q => ∃ (S : Addr → Prop) (a : Addr) (xs : List V) (l : List D), vs = [.ref a] ∧ zs = [.ty "str"] ∧ SqL W.K H a xs ∧ Reps W S H l xs ∧ l.all strOk = true ∧
  ∀ (ys : List V) p, H p = none → Reps W S H (l.mergeSort (PySem.W.dataLe false keyP)) ys → Q (.ref p) (upd H p (.lst ys))
section
open PySem.Spec PyProof.Rows
theorem rel_ty {T : String} {u : Value} (h : RelV (.ty T) u) : u = .type T := h
theorem each_of {W : Wd} {S : Addr → Prop} {H : Hp} : ∀ {l : List D} {xs : List V} {us : List Value}, Reps W S H l xs → Vals xs us → PySem.W.EachIs (fun (u : Value) (p : V × D) => RelV p.1 u ∧ Rep W S H p.2 p.1) us (xs.zip l)
  | [], _, us, h, r => by unfold Reps at h; subst h; cases r; exact .nil
  | d :: l, _, us, h, r => by
    unfold Reps at h
    obtain ⟨v, r', rfl, h1, h2⟩ := h
    cases r with
    | cons a b => exact .cons ⟨a, h1⟩ (each_of h2 b)
theorem of_each {W : Wd} {S : Addr → Prop} {H : Hp} : ∀ {ps : List (V × D)} {us : List Value}, PySem.W.EachIs (fun (u : Value) (p : V × D) => RelV p.1 u ∧ Rep W S H p.2 p.1) us ps → Vals (ps.map (·.1)) us ∧ Reps W S H (ps.map (·.2)) (ps.map (·.1))
  | [], us, h => by cases h; exact ⟨.nil, by unfold List.map Reps; rfl⟩
  | p :: ps, us, h => by
    cases h with
    | cons a b =>
      obtain ⟨h1, h2⟩ := of_each b
      refine ⟨.cons a.1 h1, ?_⟩
      show Reps W S H (p.2 :: ps.map (·.2)) (p.1 :: ps.map (·.1))
      unfold Reps
      exact ⟨_, _, rfl, a.2, h2⟩
theorem zip_sndD {W : Wd} {S : Addr → Prop} {H : Hp} {l : List D} {xs : List V} (h : Reps W S H l xs) : (xs.zip l).map (·.2) = l := List.map_snd_zip (Nat.le_of_eq h.length)
variable {X : Cx} {W : Wd}
theorem cr_sortS {k : Nat} (r0 : Room k X.A) (hK : X.K = W.K) : CallRK X (.builtin "sorted") [Str.ofString "key"] (rSortS W) := by
  intro pins s σ H vs zs us ws Q I r rz h
  obtain ⟨S, a, xs, l, rfl, rfl, hs, rs, ok, q⟩ := h
  rw [← hK] at hs
  obtain rfl := Vals.ref1 r
  obtain ⟨w1, rfl, e1⟩ := vals1 rz
  obtain rfl := rel_ty e1
  obtain ⟨its, rv, hl, hz⟩ := I.list hs
  have ll := rs.length
  have len : (xs.zip l).length = xs.length := by rw [List.length_zip, ll, Nat.min_self]
  have okm : ∀ p ∈ xs.zip l, strOk p.2 = true := fun p hp => List.all_eq_true.mp ok _ (List.of_mem_zip hp).2
  refine PySem.W.sorted_key_data (b := false) (fun p : V × D => keyP p.2) hl.isList (each_of rs rv) ?_ ?_ (by rw [len]; exact hz) ?_ (PyProof.Rows.ksk_s1 _ _) (fun _ => PyProof.Rows.ksk_l1 _ _) (fun _ => rfl) ?_ ?_
  · intro d hd d' hd'
    obtain ⟨p, _, rfl⟩ := List.mem_map.mp hd
    obtain ⟨p', _, rfl⟩ := List.mem_map.mp hd'
    first | rfl | (unfold keyP PySem.alike; rfl)
  · refine .inr fun d hd => ?_
    obtain ⟨p, _, rfl⟩ := List.mem_map.mp hd
    exact ⟨(fun z => nomatch z), (fun _ z => nomatch z)⟩
  · intro p hp
    have := r0.un
    show X.A.units + 2 + (PyData.str (pyD p.2).shown).depth < cLine
    unfold PyData.depth
    omega
  · intro v p hR hp h tk kp
    obtain ⟨⟨t, et⟩, x, ex, h1, h2, h3, h4⟩ := strOk_of (okm p hp)
    have dp : Dp W.K H p.1 x := Rep.dp (F := { toWd := W, H0 := H, S0 := S, pa := none, ca := 0, self := none, exc := none, E := fun _ _ _ => False }) p.2 p.1 x hR.2 ex
    obtain ⟨as, rd⟩ := Dp.reads I x p.1 v (by rw [hK]; exact dp) hR.1
    have hv : ∃ b, v = .ref b := by
      have := hR.2
      rw [et] at this
      unfold Rep at this
      obtain ⟨b, _, eb, _⟩ := this
      have := hR.1
      rw [eb] at this
      exact ⟨b, this⟩
    obtain ⟨b, rfl⟩ := hv
    have ek : keyP p.2 = .str x.shown := by unfold keyP pyD; rw [ex]; rfl
    refine PySem.str_of_reads (s := { s with heap := h, toks := tk }) (A := X.A.in1.in1) rd h1 (fun z => by rw [h2] at z; cases z) r0.gd ?_ kp (fun h' u tk' hk => ?_) h3
    · have := r0.un
      show X.A.units + 1 + 1 + (x.depth + 3) < cLine
      omega
    · rw [ek]
      exact ⟨h', tk', rfl, hk, .str _ _⟩
  · intro out c h' tk hk hf hn hlen he
    obtain ⟨h1, h2⟩ := of_each he
    have e : ((xs.zip l).mergeSort (PySem.W.dataLe false fun p : V × D => keyP p.2)).map (·.2) = l.mergeSort (PySem.W.dataLe false keyP) := by
      have z := List.map_mergeSort (r := PySem.W.dataLe false fun p : V × D => keyP p.2) (s := PySem.W.dataLe false keyP) (f := fun p : V × D => p.2) (l := xs.zip l) (fun a _ b _ => rfl)
      rw [z, zip_sndD rs]
    rw [e] at h2
    have hlen2 : (((xs.zip l).mergeSort (PySem.W.dataLe false fun p : V × D => keyP p.2)).map (·.1)).length ≤ sizeLine := by
      rw [List.length_map, List.length_mergeSort, len]; exact hz
    exact ⟨.ref _, upd H (s.heap.objs.size + 1) (.lst _), I.laid (t' := tk) hk (Nat.le_succ _) ⟨hlen2, _, c, h1, hn⟩, rfl, q _ _ (I.hok.fresh (Nat.le_succ _)) h2⟩
end
section
variable {X : Cx} {F : Fr} {k : Nat} {a : Expr} {fs : SEnv → M (List D)} {pos p ps kp : Pos}
theorem ev_sortS (o : On X F k) (hm : F.mg "sorted" = none) (hs : F.mg "str" = none) (hg : Gl X "sorted") (hgs : Gl X "str") (ha : EA true X F [a] fs)
    (h1 : backTo pos (starEach [a] X.env) = (false, eval a X.env) :: backTo pos (starEach [] X.env) := by rfl) (h2 : (backTo pos (starEach [a] X.env)).any (·.1) = false := by rfl) : EVN X F (.Call (.Name "sorted" p) [a] [⟨some "key", .Name "str" ps, kp⟩] pos) (eCall sortS fs) :=
  PE.weak (pe_callBK (cr_sortS (W := F.toWd) o.room o.K) hg (by rw [o.mg]; exact hm) (by decide +kernel) ha (pk_cons (pe_ty (T := "str") hgs (by rw [o.mg]; exact hs) (by decide +kernel)) pk_nil) (he := h1) (hpl := h2)) fun σ H Q q => by
    obtain ⟨S, Γ, p, es, q⟩ := q
    refine ⟨S, Γ, p, es, (OutOk.bind.mp q).imp fun ds p1 q vs H1 e1 q1 r1 => ?_⟩
    obtain ⟨d, e4, q⟩ := out_opt.mp q
    unfold sortS at e4
    split at e4
    · rename_i l
      obtain ⟨ok, rfl⟩ := ite_sm e4
      obtain ⟨v, rfl, r2⟩ := pir1 r1
      obtain ⟨b, xs, rfl, hq, rs⟩ := RepT.lst r2
      refine ⟨S, b, xs, l, rfl, rfl, SqL.of hq, rs, ok, fun ys p hp ry => q _ _ (e1.trans (.of (upd_Same hp))) (q1.same (upd_Same hp)) ?_⟩
      exact new_lst (es.ext e1 q1).mt (es.sub e1 q1) ry hp
    · cases e4
end
end PL

set_option Elab.async false
set_option linter.all false
set_option maxRecDepth 100000
set_option maxHeartbeats 4000000
/-! PL36: dict(a list of pairs), keys that are tuples. -/
namespace PL
open PySem L2
variable [TabL]
def pairOf : D → Option (D × D)
  | .tup [k, v] => some (k, v)
  | _ => none
theorem pairOf_some {d k v : D} (h : pairOf d = some (k, v)) : d = .tup [k, v] := by
  unfold pairOf at h
  split at h
  · cases h; rfl
  · cases h
def putAll : List D → List D → List D → Option D
  | [], ks, ds => some (.dct ks ds)
  | d :: l, ks, ds => match pairOf d with
    | some (kd, vd) => match keyOf kd with
      | some k => putAll l (putK1 k kd ks) (putK2 k vd ks ds)
      | none => none
    | none => none
theorem putAll_cons {d0 : D} {l ks ds : List D} {d : D} (h : putAll (d0 :: l) ks ds = some d) : ∃ kd vd k, d0 = .tup [kd, vd] ∧ keyOf kd = some k ∧ putAll l (putK1 k kd ks) (putK2 k vd ks ds) = some d := by
  unfold putAll at h
  cases e : pairOf d0 with
  | none => rw [e] at h; cases h
  | some p =>
    obtain ⟨kd, vd⟩ := p
    rw [e] at h
    have h : (match keyOf kd with
      | some k => putAll l (putK1 k kd ks) (putK2 k vd ks ds)
      | none => none) = some d := h
    cases ek : keyOf kd with
    | none => rw [ek] at h; cases h
    | some k => rw [ek] at h; exact ⟨kd, vd, k, pairOf_some e, ek, h⟩
def dictP : List D → Option D
  | [.lst l] => putAll l [] []
  | _ => none
abbrev foldE (es vs : List (NestedKey × Addr × V)) : List (NestedKey × Addr × V) := vs.foldl (fun acc p => putE p.1 p.2.1 p.2.2 acc) es
theorem foldE_length : ∀ {vs es : List (NestedKey × Addr × V)}, (foldE es vs).length ≤ es.length + vs.length
  | [], es => by simp
  | v :: vs, es => by
    have h1 := foldE_length (vs := vs) (es := putE v.1 v.2.1 v.2.2 es)
    have h2 := putE_length (k := v.1) (b := v.2.1) (v := v.2.2) (es := es)
    show (foldE (putE v.1 v.2.1 v.2.2 es) vs).length ≤ _
    rw [List.length_cons]; omega
theorem foldE_keys {P : NestedKey → Prop} : ∀ {vs es : List (NestedKey × Addr × V)}, (∀ e ∈ es, P e.1) → (∀ e ∈ vs, P e.1) → ∀ e ∈ foldE es vs, P e.1
  | [], es, h, _ => h
  | v :: vs, es, h, h2 => by
    refine foldE_keys (vs := vs) (fun e he => ?_) fun e he => h2 e (by simp [he])
    rcases putE_keys (k := v.1) (b := v.2.1) (v := v.2.2) e.1 (List.mem_map.mpr ⟨e, he, rfl⟩) with q | q
    · rw [q]; exact h2 v (by simp)
    · obtain ⟨e', he', q⟩ := List.mem_map.mp q
      rw [← q]; exact h e' he'
theorem foldE_pair : ∀ {vs es : List (NestedKey × Addr × V)} {us xs : List (NestedKey × Addr × Value)}, PairX es xs → PairX vs us → (es.map (·.1)).Nodup → PairX (foldE es vs) (storedAllH xs us) ∧ ((foldE es vs).map (·.1)).Nodup
  | [], es, us, xs, h, h2, nd => by cases h2; exact ⟨h, nd⟩
  | v :: vs, es, us, xs, h, h2, nd => by
    cases h2 with
    | @cons _ u _ us hh t =>
      obtain ⟨e1, e2, rv⟩ := hh
      have q := pairX_put (k := v.1) (b := v.2.1) rv h nd
      rw [e1, e2] at q
      have := foldE_pair (vs := vs) (es := putE v.1 v.2.1 v.2.2 es) (us := us) (xs := storedH xs u.1 u.2.1 u.2.2) (by rw [e1, e2]; exact q) t (putE_nodup nd)
      exact this
section
open PySem.Spec PyProof.Rows
variable {X : Cx} {W : Wd} {pins : List (Addr × Obj)} {σ : L2.St} {H : Hp} {s : Shared} {S : Addr → Prop}
theorem pairs_of (I : Inv X pins σ H s) (hK : X.K = W.K) : ∀ {l : List D} {ts : List V} {us : List Value} {ks ds : List D} {d : D}, Reps W S H l ts → Vals ts us → putAll l ks ds = some d →
    ∃ (vs : List (NestedKey × Addr × V)) (ps : List (NestedKey × Addr × Value)) (Ts : List Addr), us = Ts.map Value.ref ∧ vs.length = l.length ∧ Ts.length = l.length ∧ PairX vs ps ∧ (∀ e ∈ vs, e.1.depth ≤ 8) ∧ (∀ x ∈ ps, (nestedKind X.prog X.w).is s.heap x.1 x.2.1) ∧
      (∀ (j : Nat) (x : NestedKey × Addr × Value), ps[j]? = some x → ∃ T, Ts[j]? = some T ∧ IsTup s.heap T #[.ref x.2.1, x.2.2]) ∧
      ∀ es, nkeys ks = some (es.map (·.1)) → Reps W S H ks (es.map fun e => V.ref e.2.1) → Reps W S H ds (es.map (·.2.2)) →
        ∃ ks' ds', d = .dct ks' ds' ∧ nkeys ks' = some ((foldE es vs).map (·.1)) ∧ Reps W S H ks' ((foldE es vs).map fun e => V.ref e.2.1) ∧ Reps W S H ds' ((foldE es vs).map (·.2.2))
  | [], ts, us, ks, ds, d, h, r, e => by
    unfold Reps at h
    subst h
    cases r
    unfold putAll at e
    cases e
    exact ⟨[], [], [], rfl, rfl, rfl, .nil, (fun _ h => by cases h), (fun _ h => by cases h), (fun j x h => by simp at h), fun es h1 h2 h3 => ⟨ks, ds, rfl, h1, h2, h3⟩⟩
  | d0 :: l, ts, us, ks, ds, d, h, r, e => by
    unfold Reps at h
    obtain ⟨t, ts', rfl, rt, rs⟩ := h
    obtain ⟨kd, vd, k, rfl, ek, e⟩ := putAll_cons e
    unfold Rep at rt
    obtain ⟨T, tv, rfl, q, rr⟩ := rt
    unfold Reps at rr
    obtain ⟨kv, r2, rfl, rk, rr⟩ := rr
    unfold Reps at rr
    obtain ⟨vv, r3, rfl, rv, rr⟩ := rr
    unfold Reps at rr
    subst rr
    cases r with
    | @cons _ u _ us' hu ru =>
      cases (show u = Value.ref T from hu)
      obtain ⟨its, r4, it, _⟩ := I.tuple (show SqT X.K H T [kv, vv] by rw [hK]; exact q)
      cases r4 with
      | @cons _ ku _ its' hk r5 =>
        cases r5 with
        | @cons _ vu _ its'' hv r6 =>
          cases r6
          obtain ⟨b, rfl, rfl, ki⟩ := key_is I hK rk ek hk
          obtain ⟨kt, kn, k8⟩ := keyOf_some ek
          obtain ⟨vs, ps, Ts, h1, h2, h3, h4, h5, h6, h7, h8⟩ := pairs_of I hK rs ru e
          refine ⟨(k, b, vv) :: vs, (k, b, vu) :: ps, T :: Ts, by rw [h1]; rfl, by rw [List.length_cons, h2]; rfl, by rw [List.length_cons, h3]; rfl, .cons ⟨rfl, rfl, hv⟩ h4, ?_, ?_, ?_, ?_⟩
          · intro x hx
            rcases List.mem_cons.mp hx with rfl | hx
            · exact k8
            · exact h5 x hx
          · intro x hx
            rcases List.mem_cons.mp hx with rfl | hx
            · exact ki
            · exact h6 x hx
          · intro j x hx
            cases j with
            | zero =>
              cases (show some _ = some x from hx)
              exact ⟨T, rfl, it⟩
            | succ j => exact h7 j x hx
          · intro es g1 g2 g3
            exact h8 (putE k b vv es) (put_keys kn g1) (put_reps1 kn rk g1 g2) (put_reps2 rv g1 g3)
def rDictP (W : Wd) : List V → Hp → VK → Prop := fun xs H Q => ∃ (S : Addr → Prop) (a : Addr) (l : List D) (ts : List V) (ks ds : List D), xs = [.ref a] ∧ SqL W.K H a ts ∧ Reps W S H l ts ∧ putAll l [] [] = some (.dct ks ds) ∧
  ∀ p es, H p = none → nkeys ks = some (es.map (·.1)) → (es.map (·.1)).Nodup → Reps W S H ks (es.map fun e => V.ref e.2.1) → Reps W S H ds (es.map (·.2.2)) → Q (.ref p) (upd H p (HOd W p es))
theorem call_dictP {k : Nat} (hc : X.calm = true) (r0 : Room k X.A) (hP : X.prog = W.P) (hw : X.w = W.w) (hK : X.K = W.K) : CallR X (.type "dict") (rDictP W) := by
  intro pins s σ H xs us Q I r h
  obtain ⟨S, a, l, ts, ks, ds, rfl, hs, rs, e, q⟩ := h
  rw [← hK] at hs
  obtain ⟨its, rv, hl, hz⟩ := I.list hs
  rw [Vals.ref1 r]
  obtain ⟨vs, ps, Ts, h1, h2, h3, h4, h5, h6, h7, h8⟩ := pairs_of I hK rs rv e
  obtain ⟨ks', ds', ee, g1, g2, g3⟩ := h8 [] rfl .nil .nil
  cases ee
  have lp : ps.length = l.length := by rw [← h2]; exact (Paired.length h4).symm
  have ll := rs.length
  have lits : its.length = l.length := by rw [h1, List.length_map, h3]
  have PA := PairArg.list (prog := X.prog) (w := X.w) a its.toArray (fun j => Ts.getD j 0) (ps.map fun x => (.ref x.2.1, x.2.2))
  have TJ : ∀ (j : Nat) (T : Addr), Ts[j]? = some T → Ts.getD j 0 = T := fun j T h => by rw [List.getD_eq_getElem?_getD, h]; rfl
  refine PySem.call_dict_pairsH (knd := nestedKind X.prog X.w) (ps := ps) PA (I.ok.hd hc) ?_ ⟨?_, ?_, ?_⟩ ⟨by rw [List.length_map], ?_⟩ ?_ ?_ ?_
  · have := r0.un
    show X.A.units + 1 + 1 + 8 < cLine
    omega
  · obtain ⟨o, n, h⟩ := hl
    exact ⟨o, n, h⟩
  · rw [List.size_toArray, List.length_map, lits, lp]
  · intro j kv vv hj
    rw [List.getElem?_map] at hj
    cases g : ps[j]? with
    | none => rw [g] at hj; cases hj
    | some x =>
      rw [g] at hj
      cases hj
      obtain ⟨T, t1, t2⟩ := h7 j x g
      refine ⟨?_, .inl ?_⟩
      · show its.toArray[j]? = some (Value.ref (Ts.getD j 0))
        rw [List.getElem?_toArray, h1, List.getElem?_map, t1, TJ j T t1]; rfl
      · show s.heap.IsTuple (Ts.getD j 0) _
        rw [TJ j T t1]
        obtain ⟨o, ho, hc', n, hd⟩ := t2
        exact ⟨o, ho, hc', n, hd⟩
  · intro i key v hr
    have hr : (ps.map fun x => (Value.ref x.2.1, x.2.2))[i]? = some (key, v) := hr
    rw [List.getElem?_map] at hr
    cases g : ps[i]? with
    | none => rw [g] at hr; cases hr
    | some x =>
      rw [g] at hr
      cases hr
      exact ⟨x.1, x.2.1, rfl, rfl⟩
  · intro h' kp x hx
    exact (nestedKind_stays (prog := X.prog) (w := X.w)).stays (fun b o vs n e _ => kp b o (Nat.ne_of_lt (Heap.lt_size e)) (by simp) e) (h6 x hx)
  · rw [List.length_map, lp, ll]; exact hz
  · intro h' tk dd kp
    have hfr := I.hok.fresh (Nat.le_refl s.heap.objs.size)
    obtain ⟨px, nd⟩ := foldE_pair (es := []) (xs := []) .nil h4 (by simp)
    obtain ⟨o', es', ep', hq, k2, k3, k4, _, _⟩ := dd
    refine ⟨.ref s.heap.objs.size, upd H s.heap.objs.size (HOd W s.heap.objs.size (foldE [] vs)), I.laid (t' := tk) (a := s.heap.objs.size) (o := HOd W s.heap.objs.size (foldE [] vs)) (h' := h') (fun b o e => kp b o (by simp) e) (Nat.le_refl _) (hod_ok ⟨?_, ?_, ?_, _, px, o', ep', hq, k2, ?_⟩ ⟨o', hq⟩), rfl, q _ _ hfr g1 nd g2 g3⟩
    · have : s.heap.objs.size ≠ sysModules := Nat.ne_of_gt I.big
      simpa using this
    · have := foldE_length (es := []) (vs := vs)
      simp only [List.length_nil] at this
      omega
    · exact foldE_keys (P := fun k => k.depth ≤ 8) (fun _ h => by cases h) h5
    · rw [k3, ← hP, ← hw, ← k4]
end
theorem cd_dictP {F : Fr} : CallD F (rDictP F.toWd) dictP RN := by
  intro S H0 H ds d vs Q mt hn r e kk
  unfold dictP at e
  split at e
  · rename_i l
    obtain ⟨v, rfl, r1⟩ := pir1 r
    obtain ⟨a, ts, rfl, q, rs⟩ := RepT.lst r1
    obtain ⟨ks, dd, rfl⟩ : ∃ ks dd, d = .dct ks dd := by
      have key : ∀ (l : List D) (ks ds : List D) (d : D), putAll l ks ds = some d → ∃ ks dd, d = .dct ks dd := by
        intro l
        induction l with
        | nil => intro ks ds d h; unfold putAll at h; cases h; exact ⟨_, _, rfl⟩
        | cons x l ih =>
          intro ks ds d h
          obtain ⟨_, _, _, _, _, h⟩ := putAll_cons h
          exact ih _ _ _ h
      exact key _ _ _ _ e
    refine ⟨S, a, l, ts, ks, dd, rfl, SqL.of q, rs, e, fun p es hp h1 h2 h3 h4 => ?_⟩
    have g := goes_new (o := HOd F.toWd p es) mt hp
    exact kk _ _ (upd_Same hp) ⟨p, rfl, hn p hp, .inr ⟨es, upd_same, h1, h2, Reps.goes g _ _ h3, Reps.goes g _ _ h4⟩⟩
  · cases e
section
variable {X : Cx} {F : Fr} {k : Nat} {a : Expr} {fs : SEnv → M (List D)} {pos p : Pos}
theorem ev_dictP (o : On X F k) (hm : F.mg "dict" = none) (hg : Gl X "dict") (ha : EA true X F [a] fs) (h1 : starEach [a] X.env = (false, eval a X.env) :: starEach [] X.env := by rfl) : EVN X F (.Call (.Name "dict" p) [a] [] pos) (eCall dictP fs) :=
  ev_callTy (call_dictP o.calm o.room o.P o.w o.K) cd_dictP hg (by rw [o.mg]; exact hm) (by decide +kernel) ha (he := h1)
end
end PL

set_option Elab.async false
set_option linter.all false
set_option maxRecDepth 100000
set_option maxHeartbeats 4000000
/-! PL37: return [.. for x in ..], an element's making may take from one's own containers. -/
namespace PL
open PySem L2
variable [TabL]
section
variable {F : Fr} {Γ : SEnv} {p : Pot} {σ : St} {H : Hp}
theorem owned_dead {i : Nat} {x : Option V} (e : ∀ d, Γ[i]? ≠ some (Sl.own d)) {a : Addr} : Owned Γ (σ.set i x) a ↔ Owned Γ σ a := by
  constructor
  · rintro ⟨j, d, h1, h2⟩
    rcases get_set_cases h2 with ⟨rfl, _, _⟩ | ⟨hj, h2⟩
    · exact absurd h1 (e d)
    · exact ⟨j, d, h1, h2⟩
  · rintro ⟨j, d, h1, h2⟩
    have hj : j ≠ i := fun z => e d (z ▸ h1)
    exact ⟨j, d, h1, by rw [List.getElem?_set_ne (Ne.symm hj)]; exact h2⟩
theorem sof_dead {i : Nat} {x : Option V} (e : ∀ d, Γ[i]? ≠ some (Sl.own d)) : Sof F Γ (σ.set i x) = Sof F Γ σ := by
  funext a
  unfold Sof
  rw [propext (owned_dead e)]
theorem no_own_set {i : Nat} : ∀ d, (Γ.set i .no)[i]? ≠ some (Sl.own d) := fun d h => by
  rcases get_set_cases h with ⟨_, h, _⟩ | ⟨h, _⟩
  · cases h
  · exact h rfl
/-- a slot that is forgotten may hold anything -/
theorem StOk.dead {i : Nat} {x : Option V} (s : StOk F (Γ.set i .no) p σ H) : StOk F (Γ.set i .no) p (σ.set i x) H := by
  have ss := sof_dead (F := F) (σ := σ) (x := x) (no_own_set (Γ := Γ) (i := i))
  refine ⟨⟨fun j t h => ?_, s.es.pot, fun b w => s.es.mt b (ss ▸ w), fun a h => .inr (.inr h), fun a h => .inl h, s.es.same⟩, fun b w => s.fresh b ((owned_dead no_own_set).mp w), fun j l d1 d2 b k1 k2 k3 k4 => ?_, fun b w => s.nS0 b ((owned_dead no_own_set).mp w), s.cz⟩
  · obtain ⟨y, ey, r⟩ := s.es.env j t h
    by_cases hj : j = i
    · subst hj
      have hl : j < σ.length := (List.getElem?_eq_some_iff.mp ey).1
      rcases get_set_cases h with ⟨_, rfl, _⟩ | ⟨h, _⟩
      · exact ⟨x, List.getElem?_set_self hl, trivial⟩
      · exact absurd rfl h
    · exact ⟨y, by rw [List.getElem?_set_ne (Ne.symm hj)]; exact ey, by rw [ss]; exact r⟩
  · have n1 : j ≠ i := fun z => no_own_set d1 (z ▸ k1)
    have n2 : l ≠ i := fun z => no_own_set d2 (z ▸ k2)
    rw [List.getElem?_set_ne (Ne.symm n1)] at k3
    rw [List.getElem?_set_ne (Ne.symm n2)] at k4
    exact s.inj _ _ _ _ _ k1 k2 k3 k4
/-- one more address that nobody is to meet -/
abbrev Fr.more (F : Fr) (D : Addr) : Fr := { F with E := fun _ _ _ => False, S0 := fun a => F.S0 a ∨ a = D }
theorem StOk.more {D : Addr} {o : HO} (s : StOk F Γ p σ H) (n : H D = none) (m : Mut (some o)) : StOk (F.more D) Γ p σ (upd H D o) ∧ Goes (Sof F Γ σ) (Sof (F.more D) Γ σ) H (upd H D o) := by
  have el := s.es.lay n m
  have nS : ¬ Sof F Γ σ D := fun w => by have := s.es.mt D w; rw [n] at this; exact this
  have sub : ∀ b, Sof (F.more D) Γ σ b → Sof F Γ σ b ∨ b = D := fun b w => by
    rcases w with w | w | w
    · rcases w with w | w
      · exact .inl (.inl w)
      · exact .inr w
    · exact .inl (.inr (.inl w))
    · exact .inl (.inr (.inr w))
  have g : Goes (fun b => Sof F Γ σ b ∨ b = D) (Sof (F.more D) Γ σ) (upd H D o) (upd H D o) := ⟨fun _ _ h _ _ => h, fun b w => .inl (sub b w), el.mt⟩
  refine ⟨⟨⟨fun j t h => ?_, el.pot, fun b w => el.mt b (sub b w), fun a h => .inr (.inr h), fun a h => .inl h, el.same⟩, s.fresh, s.inj, fun b w z => ?_, s.cz⟩, ?_⟩
  · obtain ⟨x, ex, r⟩ := el.env j t h
    refine ⟨x, ex, ?_⟩
    cases t with
    | no => trivial
    | val d => obtain ⟨v, e, r⟩ := r; exact ⟨v, e, Rep.goes g _ _ r⟩
    | own d =>
      obtain ⟨a, e, sa, np, r⟩ := r
      subst e
      exact ⟨a, rfl, .inr (.inl ⟨j, d, h, ex⟩), np, r.goes g fun o h nt => h⟩
    | pot => exact r
    | exc x => exact SlOk.excGoes g r
    | thk q => exact SlOk.thkGoes g r
    | scr ns => exact SlOk.scrGoes g r
  · rcases z with z | z
    · exact s.nS0 b w z
    · exact nS (z ▸ .inr (.inl w))
  · exact ⟨fun a o' h w _ => by rw [upd_ne (ne_of_none h n)]; exact h, fun b w => (sub b w).imp id fun z => by rw [z]; exact n, s.es.mt⟩
/-- that address is written -/
theorem StOk.poke {D : Addr} {xs ys : List V} (s : StOk (F.more D) Γ p σ H) (h : H D = some (.lst xs)) (hp : F.pa ≠ some D) (hc : ∀ a, F.pa = some a → F.ca ≠ D) (h0 : F.H0 D = none ∨ F.self = some D) :
    StOk (F.more D) Γ p σ (upd H D (.lst ys)) ∧ Goes (Sof (F.more D) Γ σ) (Sof (F.more D) Γ σ) H (upd H D (.lst ys)) := by
  have sd : Sof (F.more D) Γ σ D := .inl (.inr rfl)
  have mt : ∀ b, Sof (F.more D) Γ σ b → Mut (upd H D (.lst ys) b) := fun b w => by
    by_cases hb : b = D
    · rw [hb, upd_same]; trivial
    · rw [upd_ne hb]; exact s.es.mt b w
  have g : Goes (Sof (F.more D) Γ σ) (Sof (F.more D) Γ σ) H (upd H D (.lst ys)) := ⟨fun a o e w _ => by rw [upd_ne (fun z => w (by rw [z]; exact sd))]; exact e, fun _ w => .inl w, s.es.mt⟩
  refine ⟨⟨⟨fun j t e => ?_, fun a e => ?_, mt, s.es.pa, s.es.s0, ?_⟩, s.fresh, s.inj, s.nS0, s.cz⟩, g⟩
  · obtain ⟨x, ex, r⟩ := s.es.env j t e
    refine ⟨x, ex, ?_⟩
    cases t with
    | no => trivial
    | val d => obtain ⟨v, e, r⟩ := r; exact ⟨v, e, Rep.goes g _ _ r⟩
    | own d =>
      obtain ⟨a, e1, sa, np, r⟩ := r
      subst e1
      have na : a ≠ D := fun z => s.nS0 a ⟨j, d, e, ex⟩ (.inr z)
      exact ⟨a, rfl, sa, np, r.goes g fun o h nt => by rw [upd_ne na]; exact h⟩
    | pot => exact r
    | exc x => exact SlOk.excGoes g r
    | thk q => exact SlOk.thkGoes g r
    | scr ns => exact SlOk.scrGoes g r
  · obtain ⟨h1, h2⟩ := s.es.pot a e
    exact ⟨by rw [upd_ne (fun z => hp (by rw [← z]; exact e))]; exact h1, by rw [upd_ne (show (F.more D).ca ≠ D from hc a e)]; exact h2⟩
  · exact Kept.trans2 s.es.same (Kept.set1 (X := fun b => b = D) h nc_lst rfl) fun c o e z => by
      subst z
      rcases h0 with h0 | h0
      · rw [show (F.more c).H0 c = F.H0 c from rfl, h0] at e; cases e
      · exact .inr h0
end
theorem Goes.trans {S S1 S2 : Addr → Prop} {H H1 H2 : Hp} (a : Goes S S1 H H1) (b : Goes S1 S2 H1 H2) (d : ∀ a, H1 a = none → H a = none) : Goes S S2 H H2 :=
  ⟨fun c o h n nt => b.keep c o (a.keep c o h n nt) (a.nS h n) nt, fun c w => (b.sub c w).elim (a.sub c) fun z => .inr (d c z), a.mt⟩
def lcM (step : D → SEnv → M (D × SEnv)) : List D → SEnv → M (List D)
  | [], _ => pure []
  | d :: l, Γ => do let r ← step d Γ; let rs ← lcM step l r.2; pure (r.1 :: rs)
def stepM (i : Nat) (fm : SEnv → M (D × SEnv)) : D → SEnv → M (D × SEnv) := fun d Γ => M.nox (fm ((Γ.set i .no).set i (.val d)))
/-- return [fm for (slot i) in it] -/
def sRetLc (i : Nat) (it : SEnv → M (List D)) (fm : SEnv → M (D × SEnv)) : DS := fun Γ => do
  let ds ← it Γ
  let ds ← ofOpt (szD ds)
  let rs ← lcM (stepM i fm) ds Γ
  pure (.rt (.lst rs), Γ)
section
variable {X : Cx} {F : Fr} {k i : Nat} {x : Str} {elt iter : Expr} {scope : Scope} {pos cpos px : Pos} {it : SEnv → M (List D)} {fm : SEnv → M (D × SEnv)}
theorem es_retLc (o : On X F k) (hi : EI false X F (.Name x px) iter it) (ok : BlkOk X.N X.env.scope scope [(x, i)])
    (hg : ∀ (s : Shared) (H : Hp) (C : Addr) (cl : List (Str × Addr)) (fp : List Addr), PG (X.blk s H scope (compEnvC scope cl C X.env) fp) (.Name x px) (gName i))
    (he : ∀ (D : Addr) (s : Shared) (H : Hp) (C : Addr) (cl : List (Str × Addr)) (fp : List Addr), On (X.blk s H scope (compEnvC scope cl C X.env) fp) (F.more D) k → EM (X.blk s H scope (compEnvC scope cl C X.env) fp) (F.more D) elt fm)
    (hs : ∀ x, foldedSetIterable iter X.env x = pure x := by intro _; rfl) : ES1 X F (.Return (some (.ListComp elt [⟨.Name x px, iter, [], 0⟩] scope cpos)) pos) (sRetLc i it fm) :=
  PS.weak (ps_ret (pe_lc (tt := tYes) (te := fun σ H Q => ∃ D, tM (F.more D) fm σ H Q) o.calm o.nd hi ok hg (fun _ _ _ _ _ => pts_nil) (fun s H C cl fp => ⟨fun pins s' σ H' Q I ⟨D, q⟩ => (he D s H C cl fp ⟨o.P, o.w, o.K, o.mg, o.room, o.nd, o.calm, fun u s' ⟨a, B, sI, pins, σ, H, cls, d, e, I, nb, up, sky, na, os, ag, w⟩ => w.elim⟩).run pins s' σ H' Q I q⟩) hs)) fun Dn σ H q => by
    obtain ⟨Γ, p, st, q⟩ := q
    refine ⟨_, Γ, p, st.es, (OutOk.bind.mp q).imp fun ds p1 q J H1 e1 q1 J1 D hD => ?_⟩
    obtain ⟨ds', esz, q⟩ := out_opt.mp (OutOk.bind.mp q)
    obtain ⟨hsz, rfl⟩ := ite_sm esz
    have st1 := st.ext e1 q1
    have npD : F.pa ≠ some D := fun z => by have := st1.es.mt D (.inr (.inr z)); rw [hD] at this; exact this
    have ncD : ∀ a, F.pa = some a → F.ca ≠ D := fun a h z => by
      obtain ⟨_, d2⟩ := q1 a h
      rw [z, hD] at d2; cases d2
    have h0D := st1.fresh0 hD
    have nS0D : ¬ F.S0 D := fun z => by have := st1.es.mt D (.inl z); rw [hD] at this; exact this
    have q := OutOk.bind.mp q
    refine ⟨fun j m H2 => m = ds.length - j ∧ j ≤ ds.length ∧ ∃ Γi p2 acc accD, acc.length ≤ j ∧ StOk (F.more D) (Γi.set i .no) p2 (σ.set i none) H2 ∧ H2 D = some (.lst acc) ∧ Reps F.toWd (Sof (F.more D) (Γi.set i .no) (σ.set i none)) H2 accD acc ∧
        Goes (Sof F Γ σ) (Sof (F.more D) (Γi.set i .no) (σ.set i none)) H1 H2 ∧ (∀ a, H2 a = none → H1 a = none) ∧
        OutOk F (lcM (stepM i fm) (ds.drop j) Γi p2) fun rs p' => ∀ v H', SameX F H' → PotOk F H' p' → Rep F.toWd F.S0 H' (.lst (accD ++ rs)) v → Dn.rt v H',
      ⟨_, rfl, Nat.zero_le _, Γ, p1, [], [], Nat.zero_le _, ?_⟩, ?_⟩
    · obtain ⟨s2, g2⟩ := st1.more (D := D) (o := .lst []) hD trivial
      obtain ⟨s3, k3⟩ := s2.clr (i := i)
      refine ⟨s3.dead, upd_same, .nil, ?_, fun a h => ?_, by rw [List.drop_zero]; exact q⟩
      · rw [sof_dead no_own_set]
        exact g2.trans (k3.goes s2) fun a h => by
          by_cases ha : a = D
          · rw [ha]; exact hD
          · rw [upd_ne ha] at h; exact h
      · by_cases ha : a = D
        · rw [ha]; exact hD
        · rw [upd_ne ha] at h; exact h
    rintro j m H2 ⟨rfl, hj, Γi, p2, acc, accD, hal, s2, hx, ra, g2, dom, q⟩
    have jj := J1 H2 _ g2 s2.es.mt
    by_cases hlt : j < ds.length
    · obtain ⟨hgo, hy⟩ := jj.1 j hlt
      refine .inr ⟨hgo, fun H' => ∃ Γi p2 acc accD, acc.length ≤ j + 1 ∧ StOk (F.more D) (Γi.set i .no) p2 (σ.set i none) H' ∧ H' D = some (.lst acc) ∧ Reps F.toWd (Sof (F.more D) (Γi.set i .no) (σ.set i none)) H' accD acc ∧
        Goes (Sof F Γ σ) (Sof (F.more D) (Γi.set i .no) (σ.set i none)) H1 H' ∧ (∀ a, H' a = none → H1 a = none) ∧
        OutOk F (lcM (stepM i fm) (ds.drop (j + 1)) Γi p2) fun rs p' => ∀ v H', SameX F H' → PotOk F H' p' → Rep F.toWd F.S0 H' (.lst (accD ++ rs)) v → Dn.rt v H',
        fun H' h => ⟨ds.length - (j + 1), by omega, rfl, hlt, h⟩, fun x H3 yl => ?_⟩
      obtain ⟨sm, d, ed, r⟩ := hy x H3 yl
      have ed' : ds[j] = d := by rw [List.getElem?_eq_getElem hlt] at ed; exact Option.some.inj ed
      rw [List.drop_eq_getElem_cons hlt, ed'] at q
      unfold lcM at q
      have s3 : StOk (F.more D) (Γi.set i .no) p2 (σ.set i none) H3 := s2.ext (.of sm) (s2.es.pot.same sm)
      have g3 : Goes (Sof (F.more D) (Γi.set i .no) (σ.set i none)) (Sof (F.more D) (Γi.set i .no) (σ.set i none)) H2 H3 := sm.goes s2.es.mt
      have dom3 : ∀ a, H3 a = none → H2 a = none := fun a h => sm.none (fun z => z.elim) h
      have s4 := s3.set (i := i) (d := d) (v := x) r
      have k4 : Kp (F.more D) (Γi.set i .no) (σ.set i none) H3 ((Γi.set i .no).set i (.val d)) ((σ.set i none).set i (some x)) H3 := Kp.set
      refine ⟨?_, ?_⟩
      · show L2.wipe ((σ.set i none).set i (some x)) [i] = L2.wipe σ [i]
        show ((σ.set i none).set i (some x)).set i none = σ.set i none
        rw [List.set_set, List.set_set]
      unfold tYes
      dsimp only
      rw [if_pos rfl]
      refine ⟨D, _, p2, s4, ?_⟩
      have q := OutOk.bind.mp q
      refine (show OutOk F (M.nox (fm ((Γi.set i .no).set i (.val d))) p2) _ from q).nox.imp fun r4 p4 q v H5 k5 s5 r5 => ?_
      have q := OutOk.bind.mp q
      have g5 := k5.goes s4
      have gg : Goes (Sof (F.more D) (Γi.set i .no) (σ.set i none)) (Sof (F.more D) r4.2 ((σ.set i none).set i (some x))) H2 H5 := (g3.trans (k4.goes s3) dom3).trans g5 dom3
      have hx5 : H5 D = some (.lst acc) := by
        have h3 : H3 D = some (.lst acc) := sm.get _ _ hx (fun z => z) nt_lst
        refine k5.keep.get _ _ h3 (fun z => ?_) nt_lst
        rcases z with z | z
        · exact s4.nS0 D z (.inr rfl)
        · exact npD z
      have dom5 : ∀ a, H5 a = none → H1 a = none := fun a h => dom a (dom3 a (k5.dom a h))
      have hz : acc.length < sizeLine := by omega
      obtain ⟨s6, k6⟩ := s5.clr (i := i)
      have s7 : StOk (F.more D) (r4.2.set i .no) p4 (σ.set i none) H5 := by
        have : StOk (F.more D) (r4.2.set i .no) p4 (((σ.set i none).set i (some x)).set i none) H5 := s6.dead (x := (none : Option V))
        rw [List.set_set, List.set_set] at this
        exact this
      have e7 : Sof (F.more D) (r4.2.set i .no) ((σ.set i none).set i (some x)) = Sof (F.more D) (r4.2.set i .no) (σ.set i none) := sof_dead no_own_set
      have g7 : Goes (Sof (F.more D) r4.2 ((σ.set i none).set i (some x))) (Sof (F.more D) (r4.2.set i .no) (σ.set i none)) H5 H5 := by
        have z : Goes (Sof (F.more D) r4.2 ((σ.set i none).set i (some x))) (Sof (F.more D) (r4.2.set i .no) ((σ.set i none).set i (some x))) H5 H5 := k6.goes s5
        rw [e7] at z
        exact z
      obtain ⟨s8, g8⟩ := s7.poke (ys := acc ++ [v]) hx5 npD ncD h0D
      have dom52 : ∀ a, H5 a = none → H2 a = none := fun a h => dom3 a (k5.dom a h)
      have gA := gg.trans g7 dom52
      refine ⟨acc, hx5, hz, r4.2, p4, acc ++ [v], accD ++ [r4.1], by rw [List.length_append]; exact Nat.succ_le_succ hal, s8, upd_same, Reps.goes g8 _ _ ((Reps.goes gA _ _ ra).append (.cons (Rep.goes g7 _ _ r5) .nil)), ?_, fun a h => ?_, ?_⟩
      · exact g2.trans (gA.trans g8 dom52) dom
      · by_cases ha : a = D
        · rw [ha]; exact hD
        · rw [upd_ne ha] at h; exact dom5 a h
      · exact q.imp fun rs p' q => by
          rw [List.append_assoc]
          exact q
    · have ei : j = ds.length := by omega
      subst ei
      rw [List.drop_length] at q
      have q : ∀ v H', SameX F H' → PotOk F H' p2 → Rep F.toWd F.S0 H' (.lst (accD ++ [])) v → Dn.rt v H' := q
      refine .inl ⟨jj.2, q _ H2 s2.es.same s2.es.pot ?_⟩
      unfold Rep
      refine ⟨D, rfl, nS0D, acc, hx, ?_⟩
      rw [List.append_nil]
      have g9 : Goes (Sof (F.more D) (Γi.set i .no) (σ.set i none)) F.S0 H2 H2 := ⟨fun _ _ h _ _ => h, fun a w => .inl (.inl (.inl w)), s2.es.mt⟩
      exact Reps.goes g9 _ _ ra
end
end PL

set_option Elab.async false
set_option linter.all false
set_option maxRecDepth 100000
set_option maxHeartbeats 4000000
/-! PL38: name = {.. for ..}, the name a local. -/
namespace PL
open PySem L2
variable [TabL]
theorem sw_dc {kx vx : Expr} {gs : List Comprehension} {scope : Scope} {pos py : Pos} {y : Str} {l : Nat} {env : Env} (hk : env.scope.kind = .function) (hy : env.scope.names.lookup y = some .local) (hl : (py.line == pos.line) = true)
    (ha : (scope.names.any fun (n, k) => n == y && (k == .local || k == .cell)) = false) : swapsWith (.DictComp kx vx gs scope pos) (some (.Name y py)) l env = pure true := by
  have hb : env.blockKind = .function := by unfold Env.blockKind; rw [hk]; rfl
  unfold swapsWith
  simp only [hb, show env.kindOf y = some .local from hy, ha, Expr.pos, hl]
  rfl
section
open PyProof.Rows
variable {X : Cx} {W : Wd} {j : Nat}
theorem ps_setDc {i : Nat} {y : Str} {py : Pos} {kx vx tg iter : Expr} {ifs : List Expr} {scope : Scope} {own : List (Str × Nat)} {pos spos : Pos} {wi : TI} {g : TG} {tt : TT} {tk tv : TE} (r0 : Room j X.A) (hP : X.prog = W.P) (hw0 : X.w = W.w) (hK0 : X.K = W.K) (hc : X.calm = true) (hN : X.N.Nodup)
    (hy : X.N[i]? = some y) (hyl : X.env.scope.names.lookup y = some .local) (hsw : swapsWith (.DictComp kx vx [⟨tg, iter, ifs, 0⟩] scope pos) (some (.Name y py)) spos.line X.env = pure true) (hi : PI X tg iter wi) (ok : BlkOk X.N X.env.scope scope own)
    (hg : ∀ (s : Shared) (H : Hp) (C : Addr) (cl : List (Str × Addr)) (fp : List Addr), PG (X.blk s H scope (compEnvC scope cl C X.env) fp) tg g) (ht : ∀ (s : Shared) (H : Hp) (C : Addr) (cl : List (Str × Addr)) (fp : List Addr), PTs (X.blk s H scope (compEnvC scope cl C X.env) fp) ifs tt)
    (hk : ∀ (s : Shared) (H : Hp) (C : Addr) (cl : List (Str × Addr)) (fp : List Addr), PE (X.blk s H scope (compEnvC scope cl C X.env) fp) kx tk)
    (he : ∀ (s : Shared) (H : Hp) (C : Addr) (cl : List (Str × Addr)) (fp : List Addr), PE (X.blk s H scope (compEnvC scope cl C X.env) fp) vx tv) (hs : ∀ x, foldedSetIterable iter X.env x = pure x) :
    PS X (.Assign [.Name y py] (.DictComp kx vx [⟨tg, iter, ifs, 0⟩] scope pos) spos) (tAsg (tDcN W wi g tt tk tv (own.map (·.2))) (gName i)) := by
  refine ⟨fun pins s σ H D I h => ?_⟩
  rw [PySem.exec_Assign_Name_used _ _ _ _ hsw]
  refine wpAny_bind (wpAny_standAt (wpAny_bind ?_))
  show wpAny _ X.A (do let _ ← comprehension (.DictComp kx vx [⟨tg, iter, ifs, 0⟩] scope pos) scope X.env (firstIterPos [⟨tg, iter, ifs, 0⟩] pos) newDict false (eval iter X.env) (some (assign (.Name y py) X.env))) _ _ s
  have h : tDcN W wi g tt tk tv (own.map (·.2)) σ H (fun x H1 => gName i x σ H1 D.nx) := h
  refine wpAny_bind (thn (dcN_core (Qf := fun _ s' => SP X pins D .next s') r0 hP hw0 hK0 hc hN I hi ok hg ht hk he hs h fun L C s' m H' J q hn f => ?_) fun _ s' hq => wpAny_pure (wpAny_pure hq))
  show wpAny _ _ (assign (.Name y py) X.env (.ref L)) _ _ _
  refine wpAny_assign_Name (store_ok2 (v := V.ref L) J hN hy (.inl hyl) rfl (fun s2 J2 ⟨a, sb, ha⟩ => ?_) (.inr hyl))
  obtain ⟨f0, f1, f2, f3, f4, f5⟩ := f
  have ne : C ≠ a := by
    rcases ha with z | z
    · rw [z]; exact f1
    · exact fun e => f4 y a z e.symm
  exact ⟨m, hn.sameBut sb ne, fun h3 sb3 => ⟨_, H', J2.turned (t' := s2.toks) (fun b o hb e => (sb3.2 b hb).trans e) f0 f1 f3 f4 f5, q⟩⟩
end
section
variable {X : Cx} {F : Fr} {k i : Nat} {kx vx tg iter : Expr} {ifs : List Expr} {scope : Scope} {own : List (Str × Nat)} {pos spos py : Pos} {it : SEnv → M (List D)} {t : D → SEnv → Option SEnv} {ft fk fv : SEnv → M D} {y : Str}
theorem ps_dcA (o : On X F k) (hi : EI true X F tg iter it) (ok : BlkOk X.N X.env.scope scope own)
    (hg : ∀ (s : Shared) (H : Hp) (C : Addr) (cl : List (Str × Addr)) (fp : List Addr), On (X.blk s H scope (compEnvC scope cl C X.env) fp) F.noE k → PG (X.blk s H scope (compEnvC scope cl C X.env) fp) tg (tGx (own.map (·.2)) F.noE t))
    (ht : ∀ (s : Shared) (H : Hp) (C : Addr) (cl : List (Str × Addr)) (fp : List Addr), On (X.blk s H scope (compEnvC scope cl C X.env) fp) F.noE k → PTs (X.blk s H scope (compEnvC scope cl C X.env) fp) ifs (tT F.noE ft))
    (hk : ∀ (s : Shared) (H : Hp) (C : Addr) (cl : List (Str × Addr)) (fp : List Addr), On (X.blk s H scope (compEnvC scope cl C X.env) fp) F.noE k → EV (X.blk s H scope (compEnvC scope cl C X.env) fp) F.noE kx fk)
    (he : ∀ (s : Shared) (H : Hp) (C : Addr) (cl : List (Str × Addr)) (fp : List Addr), On (X.blk s H scope (compEnvC scope cl C X.env) fp) F.noE k → EV (X.blk s H scope (compEnvC scope cl C X.env) fp) F.noE vx fv)
    (hy : X.N[i]? = some y) (hyl : X.env.scope.names.lookup y = some .local) (hkd : X.env.scope.kind = .function) (hl : (py.line == pos.line) = true) (ha : (scope.names.any fun (n, k) => n == y && (k == .local || k == .cell)) = false) (hs : ∀ x, foldedSetIterable iter X.env x = pure x) :
    PS X (.Assign [.Name y py] (.DictComp kx vx [⟨tg, iter, ifs, 0⟩] scope pos) spos) (tAsg (tX RN F (eDc (own.map (·.2)) it t ft fk fv)) (gName i)) :=
  PS.weak (ps_setDc o.room o.P o.w o.K o.calm o.nd hy hyl (sw_dc hkd hyl hl ha) hi ok (fun s H C cl fp => hg s H C cl fp (o.blk _ _ _ _ _)) (fun s H C cl fp => ht s H C cl fp (o.blk _ _ _ _ _)) (fun s H C cl fp => hk s H C cl fp (o.blk _ _ _ _ _)) (fun s H C cl fp => he s H C cl fp (o.blk _ _ _ _ _)) hs) fun D σ H q => by
    obtain ⟨S, Γ, p, es, q⟩ := q
    exact dc_read _ es q
theorem es_asgODc (o : On X F k) (hi : EI true X F tg iter it) (ok : BlkOk X.N X.env.scope scope own)
    (hg : ∀ (s : Shared) (H : Hp) (C : Addr) (cl : List (Str × Addr)) (fp : List Addr), On (X.blk s H scope (compEnvC scope cl C X.env) fp) F.noE k → PG (X.blk s H scope (compEnvC scope cl C X.env) fp) tg (tGx (own.map (·.2)) F.noE t))
    (ht : ∀ (s : Shared) (H : Hp) (C : Addr) (cl : List (Str × Addr)) (fp : List Addr), On (X.blk s H scope (compEnvC scope cl C X.env) fp) F.noE k → PTs (X.blk s H scope (compEnvC scope cl C X.env) fp) ifs (tT F.noE ft))
    (hk : ∀ (s : Shared) (H : Hp) (C : Addr) (cl : List (Str × Addr)) (fp : List Addr), On (X.blk s H scope (compEnvC scope cl C X.env) fp) F.noE k → EV (X.blk s H scope (compEnvC scope cl C X.env) fp) F.noE kx fk)
    (he : ∀ (s : Shared) (H : Hp) (C : Addr) (cl : List (Str × Addr)) (fp : List Addr), On (X.blk s H scope (compEnvC scope cl C X.env) fp) F.noE k → EV (X.blk s H scope (compEnvC scope cl C X.env) fp) F.noE vx fv)
    (hy : X.N[i]? = some y := by rfl) (hyl : X.env.scope.names.lookup y = some .local := by rfl) (hkd : X.env.scope.kind = .function := by rfl) (hl : (py.line == pos.line) = true := by rfl) (ha : (scope.names.any fun (n, k) => n == y && (k == .local || k == .cell)) = false := by rfl) (hs : ∀ x, foldedSetIterable iter X.env x = pure x := by intro _; rfl) :
    ES1 X F (.Assign [.Name y py] (.DictComp kx vx [⟨tg, iter, ifs, 0⟩] scope pos) spos) (sAsgO i (eDc (own.map (·.2)) it t ft fk fv)) := PS.weak (ps_dcA o hi ok hg ht hk he hy hyl hkd hl ha hs) fun _ _ _ q => asgO_read q
theorem es_asgDc (o : On X F k) (hi : EI true X F tg iter it) (ok : BlkOk X.N X.env.scope scope own)
    (hg : ∀ (s : Shared) (H : Hp) (C : Addr) (cl : List (Str × Addr)) (fp : List Addr), On (X.blk s H scope (compEnvC scope cl C X.env) fp) F.noE k → PG (X.blk s H scope (compEnvC scope cl C X.env) fp) tg (tGx (own.map (·.2)) F.noE t))
    (ht : ∀ (s : Shared) (H : Hp) (C : Addr) (cl : List (Str × Addr)) (fp : List Addr), On (X.blk s H scope (compEnvC scope cl C X.env) fp) F.noE k → PTs (X.blk s H scope (compEnvC scope cl C X.env) fp) ifs (tT F.noE ft))
    (hk : ∀ (s : Shared) (H : Hp) (C : Addr) (cl : List (Str × Addr)) (fp : List Addr), On (X.blk s H scope (compEnvC scope cl C X.env) fp) F.noE k → EV (X.blk s H scope (compEnvC scope cl C X.env) fp) F.noE kx fk)
    (he : ∀ (s : Shared) (H : Hp) (C : Addr) (cl : List (Str × Addr)) (fp : List Addr), On (X.blk s H scope (compEnvC scope cl C X.env) fp) F.noE k → EV (X.blk s H scope (compEnvC scope cl C X.env) fp) F.noE vx fv)
    (hy : X.N[i]? = some y := by rfl) (hyl : X.env.scope.names.lookup y = some .local := by rfl) (hkd : X.env.scope.kind = .function := by rfl) (hl : (py.line == pos.line) = true := by rfl) (ha : (scope.names.any fun (n, k) => n == y && (k == .local || k == .cell)) = false := by rfl) (hs : ∀ x, foldedSetIterable iter X.env x = pure x := by intro _; rfl) :
    ES1 X F (.Assign [.Name y py] (.DictComp kx vx [⟨tg, iter, ifs, 0⟩] scope pos) spos) (sAsg (gN i) (eDc (own.map (·.2)) it t ft fk fv)) := PS.weak (ps_dcA o hi ok hg ht hk he hy hyl hkd hl ha hs) fun _ _ _ q => asgV_read q
end
end PL

set_option Elab.async false
set_option linter.all false
set_option maxRecDepth 100000
set_option maxHeartbeats 4000000
/-! PL39: several classes of plain instances, one by one. -/
namespace PL
open PySem L2
variable {P : Program} {w : World} {K : PySem.W.Frag} {h : Heap} {mg : Str → Option Value}
theorem ins_nil : InsAll ⟨P, w, K, mg⟩ [] := ⟨fun _ hc => (by cases hc), fun _ hc => (by cases hc)⟩
/-- two classes apart -/
def Apart (K : PySem.W.Frag) (C : Addr) (c' : Str) : Prop := ∃ C' : Addr, PySem.W.nsIn K mainGlobals c' = some (some (.ref C')) ∧ PySem.W.kitOne K (.ref C) (.ref C') = some false ∧ PySem.W.kitOne K (.ref C') (.ref C) = some false
theorem apart_mk {C C' : Addr} {c' : Str} (a : PySem.W.nsIn K mainGlobals c' = some (some (.ref C'))) (e1 : PySem.W.kitOne K (.ref C) (.ref C') = some false) (e2 : PySem.W.kitOne K (.ref C') (.ref C) = some false) : Apart K C c' := ⟨C', a, e1, e2⟩
theorem ins_cons {c : Str} {C : Addr} {cs : List Str} (X : K.In h) (G : h.Ns mainGlobals mg) (I : InsAll ⟨P, w, K, mg⟩ cs) (nc : decide (c ∈ cs) = false) (a : PySem.W.nsIn K mainGlobals c = some (some (.ref C))) (f : InsF K C) (s : PySem.W.kitOne K (.ref C) (.ref C) = some true)
    (z : ∀ c' ∈ cs, Apart K C c') : InsAll ⟨P, w, K, mg⟩ (c :: cs) := by
  have at_ : ∀ C1, mg c = some (.ref C1) → C1 = C := fun C1 hC => by
    have e := PySem.W.mg_of X G a
    rw [hC] at e
    cases e; rfl
  have at2 : ∀ {c' : Str} {C1 C2 : Addr}, PySem.W.nsIn K mainGlobals c' = some (some (.ref C1)) → mg c' = some (.ref C2) → C2 = C1 := fun {c' C1 C2} a' hC => by
    have e := PySem.W.mg_of X G a'
    rw [hC] at e
    cases e; rfl
  have nc : c ∉ cs := of_decide_eq_false nc
  obtain ⟨I1, I2⟩ := I
  refine ⟨fun c1 h1 C1 e1 => ?_, fun c1 h1 c2 h2 C1 C2 e1 e2 => ?_⟩
  · rcases List.mem_cons.mp h1 with rfl | h1
    · rw [at_ C1 e1]; exact f
    · exact I1 c1 h1 C1 e1
  · rcases List.mem_cons.mp h1 with rfl | g1
    · rw [at_ C1 e1]
      rcases List.mem_cons.mp h2 with rfl | h2
      · rw [at_ C2 e2, s, decide_eq_true rfl]
      · obtain ⟨C', a', k1, k2⟩ := z c2 h2
        rw [at2 a' e2]
        have n : c1 ≠ c2 := fun q => nc (q ▸ h2)
        rw [decide_eq_false n]
        exact k1
    · rcases List.mem_cons.mp h2 with rfl | h2
      · rw [at_ C2 e2]
        obtain ⟨C', a', k1, k2⟩ := z c1 g1
        rw [at2 a' e1]
        have n : c1 ≠ c2 := fun q => nc (q ▸ g1)
        rw [decide_eq_false n]
        exact k2
      · exact I2 c1 g1 c2 h2 C1 C2 e1 e2
end PL

set_option Elab.async false
set_option linter.all false
set_option maxRecDepth 100000
set_option maxHeartbeats 4000000
/-! PL40: exceptions as values: made, asked for their class, their fields read. -/
namespace PL
open PySem L2 NdefX
variable [TabL]
/-! ### no code object stands where they stand -/
def codeHeap (a : Addr) (q : Str) : Heap := ⟨Array.replicate (a + 1) ({ cls := .none, data := .fields #[.none, .str q 0] } : Obj), {}⟩
omit [TabL] in
theorem codeHeap_get (a : Addr) (q : Str) : (codeHeap a q).get? a = some ({ cls := .none, data := .fields #[.none, .str q 0] } : Obj) := by
  unfold codeHeap Heap.get?
  simp
omit [TabL] in
theorem nc_of {a : Addr} {φ : Heap → Prop} (h : ∀ q, ¬ φ (codeHeap a q)) : NC a (.ext φ) := by
  refine ⟨fun q e => ?_, fun _ h => nomatch h⟩
  unfold LamX.CodeO at e
  have h2 := HO.ext.inj e
  have h3 := congrFun h2 (codeHeap a q)
  refine h q ?_
  rw [h3]
  exact ⟨_, _, 0, codeHeap_get a q, rfl, rfl⟩
omit [TabL] in
theorem nc_exo {a C : Addr} {d : Option Addr} : NC a (exo a C d) := nc_of fun q ⟨t, e⟩ => by
  rw [codeHeap_get] at e
  injection e with e
  injection e with e
  cases e
omit [TabL] in
theorem nc_ExO {a C : Addr} : NC a (ExO (.ref C) a) := nc_of fun q ⟨oe, vs, e, z, _⟩ => by
  rw [codeHeap_get] at e
  cases e
  cases z.1
omit [TabL] in
theorem nc_exd {a : Addr} {fs : List (Str × V)} : NC a (exd a fs) := nc_of fun q ⟨mA, n, _⟩ => by
  obtain ⟨o, es, ep, e, d, _⟩ := n
  rw [codeHeap_get] at e
  cases e
  cases d
/-! ### C(..), a new one -/
def tMkV (C : Addr) (ps : List Str) (ta : TA) : TE := fun σ H Q => ta σ H fun vs H1 => vs.length = ps.length ∧ (ps = [] → ∀ a, H1 a = none → Q (.ref a) (upd H1 a (exo a C none))) ∧
  (ps ≠ [] → ∀ a d, H1 a = none → H1 d = none → d ≠ a → Q (.ref a) (upd (upd H1 d (exd d (ps.zip vs).reverse)) a (exo a C (some d))))
section
variable {X : Cx} {pins : List (Addr × Obj)} {σ : L2.St} {H : Hp} {s : Shared} {C fI cc cda : Addr} {x : Str} {st : Stmt} {ps : List Str} {fd : FuncData} {k : Nat}
theorem run_mkv {us : List Value} {vs : List V} {Q : VK} (XF : XcF X.prog X.K X.mg x st ps C fI cc cda fd) (G : FnOk X.prog X.w X.K X.mg X.base (L2.CX X.prog X.w) k fI fd ("self" :: ps) (spX C ps)) (hr : Room (k + 1) X.A) (hx : Passes (L2.CX X.prog X.w) X (fun _ _ _ => False)) (I1 : Inv X pins σ H s) (r1 : Vals vs us)
    (hl : vs.length = ps.length) (q1 : ps = [] → ∀ a, H a = none → Q (.ref a) (upd H a (exo a C none))) (q2 : ps ≠ [] → ∀ a d, H a = none → H d = none → d ≠ a → Q (.ref a) (upd (upd H d (exd d (ps.zip vs).reverse)) a (exo a C (some d)))) (hz : vs.length ≤ 1000) :
    wpAny (model X.prog X.w) X.A (call (.ref C) us) (fun u s' => ∃ v H', Inv X pins σ H' s' ∧ RelV v u ∧ Q v H') X.xe s := by
  have T := XF.ox
  obtain ⟨nm, q, N, bs, bm, sn, sub, ab, col, dd, k0, k1, k2, k3, k5, hC, hbm⟩ := T.cls
  obtain ⟨hp, g, dr, tk, os⟩ := s
  have hsz : hp.objs.size ≤ hp.objs.size + 1 := Nat.le_succ _
  have hn : H (hp.objs.size + 1) = none := I1.hok.fresh hsz
  have kk : ∀ b o, hp.get? b = some o → ((hp.push (PySem.W.kdv_tup us)).push (PySem.HandSPX.excO C hp.objs.size)).get? b = some o := fun b o e => Heap.get?_push_of_some _ (Heap.get?_push_of_some _ e)
  have hget : ((hp.push (PySem.W.kdv_tup us)).push (PySem.HandSPX.excO C hp.objs.size)).get? (hp.objs.size + 1) = some (PySem.HandSPX.excO C hp.objs.size) := by heap_get
  have I2 : Inv X pins σ (upd H (hp.objs.size + 1) (exo (hp.objs.size + 1) C none)) ⟨(hp.push (PySem.W.kdv_tup us)).push (PySem.HandSPX.excO C hp.objs.size), g, dr, tk, os⟩ :=
    I1.laid (t' := tk) (a := hp.objs.size + 1) (o := exo (hp.objs.size + 1) C none) (h' := (hp.push (PySem.W.kdv_tup us)).push (PySem.HandSPX.excO C hp.objs.size)) kk hsz (exo_ok hget)
  have r2 : Vals (V.ref (hp.objs.size + 1) :: vs) (Value.ref (hp.objs.size + 1) :: us) := .cons rfl r1
  have hlu : (Value.ref (hp.objs.size + 1) :: us).length = (("self" : Str) :: ps).length := by
    rw [List.length_cons, List.length_cons, ← r1.length, hl]
  have hus : us.length ≤ sizeLine := by
    rw [← Paired.length r1, sizeLine_eq]
    omega
  have hq : spX C ps (V.ref (hp.objs.size + 1) :: vs) (upd H (hp.objs.size + 1) (exo (hp.objs.size + 1) C none)) (fun v H2 => v = .non ∧ Q (.ref (hp.objs.size + 1)) H2) (fun _ _ _ => False) := by
    refine ⟨_, vs, rfl, hl, upd_same, fun e => ⟨rfl, q1 e _ hn⟩, fun e d hd ne => ⟨rfl, ?_⟩⟩
    rw [upd_ne ne] at hd
    have eH : upd (upd (upd H (hp.objs.size + 1) (exo (hp.objs.size + 1) C none)) d (exd d (ps.zip vs).reverse)) (hp.objs.size + 1) (exo (hp.objs.size + 1) C (some d)) = upd (upd H d (exd d (ps.zip vs).reverse)) (hp.objs.size + 1) (exo (hp.objs.size + 1) C (some d)) := by
      funext b
      by_cases h1 : b = hp.objs.size + 1
      · rw [h1, upd_same, upd_same]
      · rw [upd_ne h1, upd_ne h1]
        by_cases h2 : b = d
        · rw [h2, upd_same, upd_same]
        · rw [upd_ne h2, upd_ne h2, upd_ne h1]
    rw [eH]
    exact q2 e _ d hn hd ne
  have hb := XF.bd { heap := (hp.push (PySem.W.kdv_tup us)).push (PySem.HandSPX.excO C hp.objs.size), gens := g, drawn := dr, toks := tk, os := os } (Value.ref (hp.objs.size + 1) :: us) I2.kIn (by rw [List.append_nil]; exact hlu)
  rw [List.append_nil] at hb
  refine wpAny_call (PySem.HandSPX.call_own F.excBase_ValueError (fun Y => PySem.HandSPX.refsVE_contains Y bm hbm) (I1.kIn _ _ hC) (PySem.W.looks_findIn I1.kIn XF.iI) (fun self => PySem.W.bind_fn I1.kIn self XF.tI) hus
    (codeAny_mono (G.run _ X.stack _ _ ⟨Value.ref (hp.objs.size + 1) :: us, []⟩ (Value.ref (hp.objs.size + 1) :: us) _ _ (fun _ _ _ => False) (hr.make C us []) (I2.env0.make C us []) hb r2 hq) fun r s' hq' => ?_))
  cases r with
  | error er => exact hx pins σ _ _ er s' I2 hq'
  | ok fl =>
    cases fl with
    | ret u =>
      obtain ⟨v, H2, os2, bare2, un2, hok2, rv, ev, h2⟩ := hq'
      subst ev
      obtain ⟨hh2, g2, d2, t2, os'⟩ := s'
      have J : Inv X pins σ H2 ⟨hh2, g2, d2, t2, os'⟩ := I2.call' (ch := []) os2 un2 hok2 bare2 (fun b z => absurd z (by simp))
      exact ⟨rv, .ref (hp.objs.size + 1), H2, J, rfl, h2⟩
    | next => exact False.elim hq'
    | brk => exact False.elim hq'
    | cont => exact False.elim hq'
end
section
variable {X : Cx} {C fI cc cda : Addr} {x : Str} {st : Stmt} {ps : List Str} {fd : FuncData} {k : Nat} {e : Expr} {es : List Expr} {ta : TA} {p pos : Pos}
theorem pe_mkv (XF : XcF X.prog X.K X.mg x st ps C fI cc cda fd) (G : FnOk X.prog X.w X.K X.mg X.base (L2.CX X.prog X.w) k fI fd ("self" :: ps) (spX C ps)) (hr : Room (k + 1) X.A) (hx : Passes (L2.CX X.prog X.w) X (fun _ _ _ => False)) (hz : ps.length ≤ 1000) (hg : Gl X x) (ha : PA X (e :: es) ta)
    (hdb : (x == ("__debug__" : Str)) = false := by decide) (he : starEach (e :: es) X.env = (false, eval e X.env) :: starEach es X.env := by rfl) (hpl : (backTo pos (starEach es X.env)).any (·.1) = false := by rfl) :
    PE X (.Call (.Name x p) (e :: es) [] pos) (tMkV C ps ta) := by
  refine ⟨fun pins s σ H Q I h => ?_⟩
  refine wpAny_Call_Name_kw (ld_glob I hg XF.mgC ?_ hdb)
  refine PySem.W.callWith_K (h₀ := X.base) I.ok.mod.kin XF.ox.kC (thn (ha.run pos pins s σ H _ I h) fun us s1 ⟨vs, H1, I1, r1, hl, q1, q2⟩ => ⟨I1.kIn, ?_⟩) he hpl
  exact run_mkv XF G hr hx I1 r1 hl q1 q2 (by omega)
theorem pe_mkv0 (XF : XcF X.prog X.K X.mg x st [] C fI cc cda fd) (G : FnOk X.prog X.w X.K X.mg X.base (L2.CX X.prog X.w) k fI fd ["self"] (spX C [])) (hr : Room (k + 1) X.A) (hx : Passes (L2.CX X.prog X.w) X (fun _ _ _ => False)) (hg : Gl X x)
    (hdb : (x == ("__debug__" : Str)) = false := by decide) : PE X (.Call (.Name x p) [] [] pos) (tMkV C [] tNil) := by
  refine ⟨fun pins s σ H Q I h => ?_⟩
  refine wpAny_Call_Name_kw (ld_glob I hg XF.mgC ?_ hdb)
  obtain ⟨hl, q1, q2⟩ := (show (fun (vs : List V) H1 => vs.length = ([] : List Str).length ∧ (([] : List Str) = [] → ∀ a, H1 a = none → Q (.ref a) (upd H1 a (exo a C none))) ∧ (([] : List Str) ≠ [] → ∀ a d, H1 a = none → H1 d = none → d ≠ a → Q (.ref a) (upd (upd H1 d (exd d (([] : List Str).zip vs).reverse)) a (exo a C (some d))))) [] H from h)
  exact PySem.W.callWith_K0 I.kIn XF.ox.kC (run_mkv (us := []) XF G hr hx I .nil hl q1 q2 (by simp))
end
def eMkX (x : Str) (ps : List Str) (fs : SEnv → M (List D)) : SEnv → M D := fun Γ => do let ds ← fs Γ; pure (.ext 0 x ps.reverse ds.reverse)
section
variable {X : Cx} {F : Fr} {k k' : Nat} {x : Str} {ps : List Str} {e : Expr} {es : List Expr} {fs : SEnv → M (List D)} {p pos pos2 : Pos}
theorem mkv_weak {C : Addr} (hC : F.mg x = some (.ref C)) (hn : LenA fs ps.length) {σ : L2.St} {H : Hp} {Q : VK} (q : tX RV F (eMkX x ps fs) σ H Q) : tMkV C ps (tA false F fs) σ H Q := by
  obtain ⟨S, Γ, p, est, q⟩ := q
  have q := OutOk.bind.mp q
  refine ⟨_, Γ, p, est, ?_⟩
  cases g : fs Γ p with
  | bad => rw [g] at q; exact q.elim
  | exc z => rw [g] at q; exact q
  | ok z =>
    obtain ⟨ds, p1⟩ := z
    rw [g] at q
    intro vs H1 e1 q1 r1
    have q : ∀ v H', Ext F H H' → PotOk F H' p1 → RV F S H H' (.ext 0 x ps.reverse ds.reverse) v → Q v H' := q
    have es1 := est.ext e1 q1
    have hl : vs.length = ps.length := by
      rw [← r1.reps.length, hn Γ p ds p1 g]
    have nS : ∀ {a : Addr}, H1 a = none → ¬ S a := fun {a} n w => by
      have m := es1.mt a w
      rw [n] at m; exact m
    refine ⟨hl, fun ep a ha => ?_, fun ep a d ha hd ne => ?_⟩
    · subst ep
      have hds : ds = [] := List.length_eq_zero_iff.mp (hn Γ p ds p1 g)
      subst hds
      have sm : Same H1 (upd H1 a (exo a C none)) := upd_Same ha
      refine q _ _ (e1.trans (.of sm)) (q1.same sm) ?_
      show Rep _ _ _ _ _
      unfold Rep
      refine ⟨a, [], _, rfl, ⟨C, hC, .inl ⟨rfl, rfl, rfl⟩⟩, fun z hz => ?_, by unfold Reps; rfl⟩
      rw [List.mem_singleton] at hz; subst hz
      exact ⟨nS ha, nc_exo, upd_same⟩
    · have sm1 : Same H1 (upd H1 d (exd d (ps.zip vs).reverse)) := upd_Same hd
      have sm2 : Same (upd H1 d (exd d (ps.zip vs).reverse)) (upd (upd H1 d (exd d (ps.zip vs).reverse)) a (exo a C (some d))) := upd_Same (by rw [upd_ne (Ne.symm ne)]; exact ha)
      have sm : Same H1 (upd (upd H1 d (exd d (ps.zip vs).reverse)) a (exo a C (some d))) := Kept.trans sm1 sm2
      refine q _ _ (e1.trans (.of sm)) (q1.same sm) ?_
      show Rep _ _ _ _ _
      unfold Rep
      refine ⟨a, vs.reverse, _, rfl, ⟨C, hC, .inr (.inr ⟨d, (ps.zip vs).reverse, rfl, ?_, ?_⟩)⟩, fun z hz => ?_, ?_⟩
      · rw [List.map_reverse, zip_fst hl]
      · rw [List.map_reverse, zip_snd hl]
      · simp only [List.mem_cons, List.not_mem_nil, or_false] at hz
        rcases hz with rfl | rfl
        · exact ⟨nS ha, nc_exo, upd_same⟩
        · exact ⟨nS hd, nc_exd, by rw [upd_ne ne]; exact upd_same⟩
      · refine Reps.rev (Reps.goes ⟨fun a o h _ nt => sm.get a o h id nt, fun a w => .inl w, es1.mt⟩ _ _ r1.reps)
theorem ev_mkX (o : On X F k) (G : Xc F.toWd X.base k' x ps) (hk : k' + 1 ≤ k) (hz : ps.length ≤ 1000) (hg : Gl X x) (ha : EA false X F (e :: es) fs) (hn : LenA fs ps.length) (hdb : (x == ("__debug__" : Str)) = false := by decide)
    (he : starEach (e :: es) X.env = (false, eval e X.env) :: starEach es X.env := by rfl) (hpl : (backTo pos (starEach es X.env)).any (·.1) = false := by rfl) : EV X F (.Call (.Name x p) (e :: es) [] pos) (eMkX x ps fs) := by
  obtain ⟨st, C, fI, cc, cda, fd, XF, G⟩ := G
  have hC : F.mg x = some (.ref C) := XF.mgC
  rw [toWd_of o] at XF G
  exact PE.weak (pe_mkv XF G (o.room.mono hk) (passes_call o.tk fun _ _ _ _ h => h.elim) hz hg ha hdb he hpl) fun σ H Q q => mkv_weak hC hn q
theorem ev_mkX0 (o : On X F k) (G : Xc F.toWd X.base k' x []) (hk : k' + 1 ≤ k) (hg : Gl X x) (hdb : (x == ("__debug__" : Str)) = false := by decide) : EV X F (.Call (.Name x p) [] [] pos) (eMkX x [] eNil) := by
  obtain ⟨st, C, fI, cc, cda, fd, XF, G⟩ := G
  have hC : F.mg x = some (.ref C) := XF.mgC
  rw [toWd_of o] at XF G
  refine PE.weak (pe_mkv0 XF G (o.room.mono hk) (passes_call o.tk fun _ _ _ _ h => h.elim) hg hdb) fun σ H Q q => ?_
  obtain ⟨S, Γ, p, es, q⟩ := mkv_weak hC len_nil q
  exact (show ∀ vs H', Ext F H H' → PotOk F H' p → PIR false F S H' [] vs → _ from q) [] H .refl es.pot .nil
end
end PL

set_option Elab.async false
set_option linter.all false
set_option maxRecDepth 100000
set_option maxHeartbeats 4000000
/-! PL41: exceptions as values: isinstance, fields. -/
namespace PL
open PySem L2 NdefX
variable [TabL]
/-! ### the object behind it -/
section
variable {X : Cx} {pins : List (Addr × Obj)} {σ : L2.St} {H : Hp} {s : Shared} {W : Wd} {S : Addr → Prop}
/-- such an object, as the library's rules look at it -/
theorem shape_at (I : Inv X pins σ H s) {x : Str} {ns : List Str} {a : Addr} {vs : List V} {L : List (Addr × HO)} (h : Shape W 0 x ns a vs L) (hL : ∀ p ∈ L, ¬ S p.1 ∧ NC p.1 p.2 ∧ H p.1 = some p.2) :
    ∃ C ox od, W.mg x = some (.ref C) ∧ PySem.W.InstAt s.heap a ox C od ∧ (ns = [] ∨ ∃ (dx : Addr) (fs : List (Str × V)), fs.map (·.1) = ns ∧ fs.map (·.2) = vs ∧ ∃ o, od = some o ∧ ∃ mA : Str → Option Value, (∀ name, PySem.W.lookIn name o = some (mA name)) ∧ ∀ f, RelO (fs.lookup f) (mA f)) := by
  obtain ⟨C, hC, h⟩ := h
  refine ⟨C, ?_⟩
  rcases h with ⟨rfl, rfl, rfl⟩ | ⟨rfl, rfl, rfl⟩ | ⟨dx, fs, rfl, e1, e2⟩
  · obtain ⟨_, _, ha⟩ := hL _ List.mem_cons_self
    obtain ⟨t1, ho⟩ := exo_at I.hok ha
    exact ⟨_, none, hC, ⟨ho, rfl, rfl, trivial⟩, .inl rfl⟩
  · obtain ⟨_, _, ha⟩ := hL _ List.mem_cons_self
    obtain ⟨⟨oe, vs, ho, hz, hd, _⟩, _, _⟩ := I.hok a _ ha
    obtain ⟨oc, odd, oda, osl⟩ := oe
    obtain ⟨h1, h2⟩ := hz
    dsimp only at h1 h2 hd
    subst h1 h2 hd
    exact ⟨_, none, hC, ⟨ho, rfl, rfl, trivial⟩, .inl rfl⟩
  · obtain ⟨_, _, ha⟩ := hL (a, exo a C (some dx)) List.mem_cons_self
    obtain ⟨_, _, hd⟩ := hL (dx, exd dx fs) (List.mem_cons_of_mem _ List.mem_cons_self)
    obtain ⟨t1, ho⟩ := exo_at I.hok ha
    obtain ⟨mA, hn, hr⟩ := exd_at I.hok hd
    obtain ⟨od, hod, hl⟩ := lookIn_ns hn
    exact ⟨_, some od, hC, ⟨ho, rfl, rfl, hod⟩, .inr ⟨dx, fs, e1, e2, od, rfl, mA, hl, hr⟩⟩
end
/-! ### isinstance -/
structure ExcK (K : PySem.W.Frag) (C : Addr) : Prop where
  cl : (PySem.W.clsIn K C).isSome = true
  ga : PySem.W.findIn K (.ref C) "__getattribute__" = some (some (.builtin "BaseException.__getattribute__"))
  gg : PySem.W.findIn K (.ref C) "__getattr__" = some none
  ex : PySem.W.subIn K (.ref C) (.type "BaseException") = some true
  ha : PySem.W.findIn K (.ref C) "__class__" = some (some (.builtin "object.__class__"))
  hn : PySem.W.specialIn K (.builtin "object.__class__") "__get__" = some (some (.builtin "getset_descriptor.__get__"))
  htk : PySem.W.takesIn K (.builtin "object.__class__") = some true
  hm : PySem.W.mroIn K C (.type "object") = some true
/-- the exception classes of a text -/
def ExcAll (K : PySem.W.Frag) (mg : Str → Option Value) (cs : List Str) : Prop := ∀ c ∈ cs, ∀ C, mg c = some (.ref C) → ExcK K C
/-- which of them are of a class -/
def KitE (K : PySem.W.Frag) (mg : Str → Option Value) (u : Value) (tb : List (Str × Bool)) : Prop := ∀ p ∈ tb, ∀ C, mg p.1 = some (.ref C) → PySem.W.kitOne K (.ref C) u = some p.2
def isiE (tb : List (Str × Bool)) : D → Option D
  | .ext 0 c _ _ => (tb.lookup c).map .bl
  | _ => none
omit [TabL] in
theorem lookup_mem' {tb : List (Str × Bool)} {c : Str} {b : Bool} (h : tb.lookup c = some b) : (c, b) ∈ tb := by
  induction tb with
  | nil => cases h
  | cons p tb ih =>
    obtain ⟨y, b'⟩ := p
    rw [List.lookup_cons] at h
    by_cases e : c = y
    · subst e
      rw [beq_self_eq_true] at h
      cases h; exact List.mem_cons_self
    · rw [beq_false_of_ne e] at h
      exact List.mem_cons_of_mem _ (ih h)
def rIsiE (W : Wd) (tb : List (Str × Bool)) : List V → Hp → VK → Prop := fun xs H Q => ∃ (S : Addr → Prop) (c : Str) (ns : List Str) (ds : List D) (v w : V) (u : Value) (b : Bool), xs = [v, w] ∧ ClsV w u ∧ Rep W S H (.ext 0 c ns ds) v ∧ KitE W.K W.mg u tb ∧ (∀ p ∈ tb, ∀ C, W.mg p.1 = some (.ref C) → ExcK W.K C) ∧ tb.lookup c = some b ∧ Q (.bl b) H
section
variable {X : Cx} {F : Fr} {k : Nat} {a : Expr} {fa : SEnv → M D} {pos p p2 : Pos}
theorem call_isiE {W : Wd} {tb : List (Str × Bool)} (hK : X.K = W.K) : CallR X (.builtin "isinstance") (rIsiE W tb) := by
  intro pins s σ H xs us Q I r h
  obtain ⟨S, c, ns, ds, v, w, u, b, rfl, kw, rp, kt, ke, lk, q⟩ := h
  obtain ⟨u1, u2, rfl, r1, r2⟩ := vals2 r
  have e2 := kw.eq r2
  subst e2
  unfold Rep at rp
  obtain ⟨ad, vs, L, rfl, sh, hL, _⟩ := rp
  cases (show u1 = Value.ref ad from r1)
  obtain ⟨C, ox, od, hC, J, _⟩ := shape_at I sh hL
  have hm := lookup_mem' lk
  have E := ke _ hm C hC
  have kk := kt _ hm C hC
  rw [← hK] at E kk
  exact PySem.W.kia_one (PySem.W.kitx_exc (od := od) E.cl E.ga E.gg E.ex E.ha E.hn E.htk E.hm) I.kIn J kk (fun z => nomatch z) fun tk => ⟨.bl b, H, I.tok tk, rfl, q⟩
theorem isiE_read {tb : List (Str × Bool)} {w : V} {u : Value} {t : TA} (kw : ClsV w u) (KI : KitE F.K F.mg u tb) (KE : ∀ p ∈ tb, ∀ C, F.mg p.1 = some (.ref C) → ExcK F.K C) (ht : ∀ σ H Q, Q [w] H → t σ H Q) {σ : L2.St} {H : Hp} {Q : VK}
    (q : tX RV F (eUn (isiE tb) fa) σ H Q) : tCB (rIsiE F.toWd tb) (tCons (tX RB F fa) t) σ H Q := by
  obtain ⟨S, Γ, p, es, q⟩ := q
  refine ⟨S, Γ, p, es, (OutOk.bind.mp q).imp fun d p1 q v H1 e1 q1 r1 => ?_⟩
  obtain ⟨b, e2, q⟩ := out_opt.mp q
  refine ht σ H1 _ ?_
  unfold isiE at e2
  split at e2
  · rename_i c ns ds
    cases lk : tb.lookup c with
    | none => rw [lk] at e2; cases e2
    | some bb =>
      rw [lk] at e2
      cases e2
      have r1 : Rep F.toWd S H1 (.ext 0 c ns ds) v := by
        rcases r1 with r1 | ⟨_, _, _, r1⟩
        · exact r1
        · exact r1.elim
      exact ⟨S, c, ns, ds, v, w, u, bb, rfl, kw, r1, KI, KE, lk, q _ H1 e1 q1 rep_b⟩
  · cases e2
theorem ev_isiE {tb : List (Str × Bool)} {t : Str} (o : On X F k) (KI : ∃ C, F.mg t = some (.ref C) ∧ KitE F.K F.mg (.ref C) tb) (KE : ∀ p ∈ tb, ∀ C, F.mg p.1 = some (.ref C) → ExcK F.K C) (hi : F.mg "isinstance" = none) (hg : Gl X "isinstance") (hgx : Gl X t) (ha : EVB X F a fa) (hb : (t == ("__debug__" : Str)) = false := by decide)
    (h1 : starEach [a, .Name t p2] X.env = (false, eval a X.env) :: starEach [.Name t p2] X.env := by rfl) (h2 : (backTo pos (starEach [.Name t p2] X.env)).any (·.1) = false := by rfl) (h3 : starEach [.Name t p2] X.env = (false, eval (.Name t p2) X.env) :: starEach [] X.env := by rfl) :
    EV X F (.Call (.Name "isinstance" p) [a, .Name t p2] [] pos) (eUn (isiE tb) fa) := by
  obtain ⟨C, hC, KI⟩ := KI
  exact PE.weak (pe_callB (call_isiE (W := F.toWd) (tb := tb) o.K) hg (by rw [o.mg]; exact hi) (by decide +kernel) (pa_cons ha (pa_cons (pe_glob (v := .ref C) hgx (by rw [o.mg]; exact hC) rfl hb) pa_nil h3) h1) (he := h1) (hpl := h2)) fun σ H Q q =>
    isiE_read (.own C) KI KE (fun σ H Q q => q) q
theorem ev_isiB {tb : List (Str × Bool)} {x : Str} {T : String} (o : On X F k) (KI : KitE F.K F.mg (.type T) tb) (KE : ∀ p ∈ tb, ∀ C, F.mg p.1 = some (.ref C) → ExcK F.K C) (hi : F.mg "isinstance" = none) (hx : F.mg x = none) (hg : Gl X "isinstance") (hgx : Gl X x) (hv : bootBuiltins x = some (.type T)) (ha : EVB X F a fa) (hn : x ≠ "__name__" := by decide) (hb : (x == ("__debug__" : Str)) = false := by decide)
    (h1 : starEach [a, .Name x p2] X.env = (false, eval a X.env) :: starEach [.Name x p2] X.env := by rfl) (h2 : (backTo pos (starEach [.Name x p2] X.env)).any (·.1) = false := by rfl) (h3 : starEach [.Name x p2] X.env = (false, eval (.Name x p2) X.env) :: starEach [] X.env := by rfl) :
    EV X F (.Call (.Name "isinstance" p) [a, .Name x p2] [] pos) (eUn (isiE tb) fa) :=
  PE.weak (pe_callB (call_isiE (W := F.toWd) (tb := tb) o.K) hg (by rw [o.mg]; exact hi) (by decide +kernel) (pa_cons ha (pa_cons (pe_ty hgx (by rw [o.mg]; exact hx) hv hn hb) pa_nil h3) h1) (he := h1) (hpl := h2)) fun σ H Q q =>
    isiE_read (.ty T) KI KE (fun σ H Q q => q) q
/-! ### fields -/
def rXat (W : Wd) (n : Str) (te : TE) : TE := fun σ H Q => te σ H fun v H1 => ∃ (S : Addr → Prop) (c : Str) (ns : List Str) (ds : List D) (d : D), Rep W S H1 (.ext 0 c ns ds) v ∧ XfE W.K W.mg c n ∧ (ns.zip ds).lookup n = some d ∧ ∀ w, Rep W S H1 d w → Q w H1
theorem pe_xat {W : Wd} {e : Expr} {te : TE} {n : Str} (hK : X.K = W.K) (he : PE X e te) (hb : attributeBase e n X.env (eval e X.env) = eval e X.env := by rfl) : PE X (.Attribute e n pos) (rXat W n te) := by
  refine ⟨fun pins s σ H Q I h => ?_⟩
  refine attr_of hb (thn (he.run pins s σ H _ I h) fun u s1 hh => ?_)
  obtain ⟨x, H1, I1, rx, S, c, ns, ds, d, rp, T, lk, q⟩ := hh
  unfold Rep at rp
  obtain ⟨a, vs, L, rfl, sh, hL, rs⟩ := rp
  obtain rfl : u = Value.ref a := rx
  obtain ⟨C, hC, T, hno⟩ := T
  obtain ⟨C', ox, od, hC', J, al⟩ := shape_at I1 sh hL
  have : C' = C := by rw [hC] at hC'; cases hC'; rfl
  subst this
  rw [← hK] at T hno
  rcases al with rfl | ⟨dx, fs, e1, e2, o, rfl, mA, hl, hr⟩
  · cases lk
  · obtain ⟨v, e5, rv⟩ := lookup_reps (fs := fs) e1 (by rw [e2]; exact rs) lk
    obtain ⟨u, hu, ru⟩ := RelO.some_of (v := v) (o := mA n) (by rw [← e5]; exact hr n)
    exact HandSPX.exc_get I1.kIn J T.ga T.gg T.exC (PySem.W.findObj_own T.hdC hno rfl (by rw [hl, hu])) (handed_of ru) ⟨v, H1, I1.tok _, ru, q v rv⟩
def xatD (cs : List Str) (n : Str) : D → Option D
  | .ext 0 c ns ds => if c ∈ cs then (ns.zip ds).lookup n else none
  | _ => none
theorem ev_xat {e : Expr} {f : SEnv → M D} {cs : List Str} {n : Str} (o : On X F k) (h : ∀ c ∈ cs, XfE F.K F.mg c n) (ha : EVB X F e f) (hb : attributeBase e n X.env (eval e X.env) = eval e X.env := by rfl) : EV X F (.Attribute e n pos) (eUn (xatD cs n) f) :=
  PE.weak (pe_xat (W := F.toWd) o.K ha hb) fun σ H Q q => by
    obtain ⟨S, Γ, p, es, q⟩ := q
    refine ⟨S, Γ, p, es, (OutOk.bind.mp q).imp fun d p1 q v H1 e1 q1 r1 => ?_⟩
    obtain ⟨b, e2, q2⟩ := out_opt.mp q
    unfold xatD at e2
    split at e2
    · rename_i c ns ds
      split at e2
      · rename_i hc
        have r1 : Rep F.toWd S H1 (.ext 0 c ns ds) v := by
          rcases r1 with r1 | ⟨_, _, _, r1⟩
          · exact r1
          · exact r1.elim
        exact ⟨S, c, ns, ds, b, r1, h c hc, e2, fun w rw_ => q2 w H1 e1 q1 rw_⟩
      · cases e2
    · cases e2
/-! ### an exception class without an __init__ of its own -/
structure XcB (K : PySem.W.Frag) (mg : Str → Option Value) (x : Str) (C : Addr) : Prop where
  mgC : mg x = some (.ref C)
  q : ∃ bmB, ∃ (F : ExcBaseFacts "ValueError" "ValueError.__new__" "ValueError.__init__" bmB), PySem.W.excIn K C bmB "ValueError.__new__" = true
  kC : PySem.W.keepIn K (.ref C) = true
end
end PL

set_option Elab.async false
set_option linter.all false
set_option maxRecDepth 100000
set_option maxHeartbeats 4000000
/-! PL42: repr of nested data, dicts with texts as keys among them. -/
namespace PL
open PySem L2
variable [TabL]
/-! ### data as the library's -/
def txtD : D → Option PyData
  | .str x => some (.str x)
  | _ => none
def txtsD : List D → Option (List PyData)
  | [] => some []
  | d :: l => match txtD d, txtsD l with
    | some k, some r => some (k :: r)
    | _, _ => none
mutual
def toPyR : D → Option PyData
  | .non => some PyData.none
  | .bl b => some (PyData.bool b)
  | .int i => some (PyData.int i)
  | .str x => some (PyData.str x)
  | .tup l => (toPysR l).map PyData.tuple
  | .lst l => (toPysR l).map PyData.list
  | .dct ks ds => match txtsD ks, toPysR ds with
    | some a, some b => if a.length = b.length then some (PyData.dict (a.zip b)) else none
    | _, _ => none
  | .ins _ _ _ => none
  | .fn _ => none
  | .ext _ _ _ _ => none
def toPysR : List D → Option (List PyData)
  | [] => some []
  | d :: l => match toPyR d, toPysR l with
    | some k, some r => some (k :: r)
    | _, _ => none
end
omit [TabL] in
theorem txtsD_cons {d : D} {l : List D} {xs : List PyData} (h : txtsD (d :: l) = some xs) : ∃ x r, d = .str x ∧ xs = .str x :: r ∧ txtsD l = some r := by
  unfold txtsD at h
  cases d <;> try (cases h; done)
  rename_i x
  cases e : txtsD l with
  | none => rw [e] at h; cases h
  | some r => rw [e] at h; cases h; exact ⟨x, r, rfl, rfl, rfl⟩
omit [TabL] in
theorem toPysR_cons {d : D} {l : List D} {xs : List PyData} (h : toPysR (d :: l) = some xs) : ∃ x r, xs = x :: r ∧ toPyR d = some x ∧ toPysR l = some r := by
  unfold toPysR at h
  cases e1 : toPyR d with
  | none => rw [e1] at h; cases h
  | some x =>
    cases e : toPysR l with
    | none => rw [e1, e] at h; cases h
    | some r => rw [e1, e] at h; cases h; exact ⟨x, r, rfl, rfl, rfl⟩
section
variable {X : Cx} {pins : List (Addr × Obj)} {σ : L2.St} {H : Hp} {s : Shared} {W : Wd} {S : Addr → Prop}
/-- the entries of a dict with texts as keys -/
theorem dct_at (I : Inv X pins σ H s) {ks ds : List D} {a : Addr} {xs : List PyData} (hx : txtsD ks = some xs) (r : (∃ kvs : List (Key × V), H a = some (.dK kvs) ∧ ks = kvs.map (fun p => keyD p.1) ∧ (kvs.map (·.1)).Nodup ∧ Reps W S H ds (kvs.map (·.2))) ∨
      ∃ es : List (NestedKey × Addr × V), H a = some (HOd W a es) ∧ nkeys ks = some (es.map (·.1)) ∧ (es.map (·.1)).Nodup ∧ Reps W S H ks (es.map (fun e => V.ref e.2.1)) ∧ Reps W S H ds (es.map (·.2.2))) :
    ∃ o es ep vs, (a == sysModules) = false ∧ s.heap.get? a = some o ∧ o.cls = .type "dict" ∧ o.data = .dict es ep ∧ ReadsAll s.heap (es.toList.map (·.key)) xs [] ∧ Reps W S H ds vs ∧ Vals vs (es.toList.map (·.val)) := by
  rcases r with ⟨kvs, e, rfl, nd, rd⟩ | ⟨es, e, hk, nd, rk, rd⟩
  · obtain ⟨zl, hsm, vs, kv, o, es, ep, ho, hx1, hd, ko, ps, nd2⟩ := (show ObjOk X.prog X.w H s.heap a (.dK kvs) from I.hok a _ e)
    refine ⟨o, es, ep, kvs.map (·.2), hsm, ho, hx1.1, hd, ?_, rd, ?_⟩
    · clear nd rd hd e zl ko nd2
      generalize es.toList = L at ps
      induction ps generalizing kvs xs with
      | nil =>
        cases kv
        cases hx
        exact .nil
      | @cons en kw es' vs' hi hv ps ih =>
        cases kv with
        | @cons kv1 _ kvs' _ h1 h2 =>
          obtain ⟨x, r, ex, rfl, hr⟩ := txtsD_cons hx
          have := ih _ hr h2
          obtain ⟨k1, v1⟩ := kv1
          obtain ⟨k2, v2⟩ := kw
          cases h1.1
          cases k1 with
          | inl i => cases ex
          | inr y =>
            have ey : y = x := by
              have : D.str y = .str x := ex
              injection this
            subst ey
            have hi : keyIs (.inr y) en.key = true := hi
            rcases keyIs_shape hi with ⟨i, t, e1, _⟩ | ⟨z, t, e1, e2⟩
            · cases e1
            · cases e1
              show ReadsAll s.heap (en.key :: _) _ _
              rw [e2]
              have q := ReadsAll.cons (Reads.str (h := s.heap) y t) this
              rw [List.nil_append] at q
              exact q
    · clear nd rd hd e hx zl ko nd2
      generalize es.toList = L at ps
      induction ps generalizing kvs with
      | nil => cases kv; exact .nil
      | @cons en kw es' vs' hi hv ps ih =>
        cases kv with
        | cons h1 h2 =>
          refine .cons ?_ (ih _ h2)
          show RelV _ en.val
          rw [hv]; exact h1.2
  · cases es with
    | nil =>
      obtain ⟨h1, _, _, ys, pr, o, ep, ho, hx1, hd⟩ := (show DicPhi W a [] s.heap from (I.hok a _ e).1)
      cases pr
      have hks : ks = [] := by
        unfold Reps at rk
        cases ks with
        | nil => rfl
        | cons d l => obtain ⟨v, r, e, _⟩ := rk; cases e
      subst hks
      cases hx
      exact ⟨o, #[], ep, [], h1, ho, hx1.1, hd, .nil, rd, .nil⟩
    | cons en es =>
      exfalso
      cases ks with
      | nil => unfold Reps at rk; cases rk
      | cons d l =>
        obtain ⟨x, r, rfl, _, _⟩ := txtsD_cons hx
        unfold Reps at rk
        obtain ⟨v, r', e, h1, _⟩ := rk
        injection e with e _
        subst e
        unfold Rep at h1
        cases h1
mutual
theorem rep_reads (I : Inv X pins σ H s) (hK : X.K = W.K) : ∀ (d : D) (v : V) (u : Value) (x : PyData), Rep W S H d v → RelV v u → toPyR d = some x → x.showable = true → x.shown.length ≤ sizeLine →
    (∃ as, Reads s.heap u x as) ∧ ∃ bs, ReadAtMost s.heap x.depth bs ∧ ReprK X.prog X.w bs s.heap x.depth u x.shown
  | .non, v, u, x, h, r, e, _, _ => by
    unfold Rep at h; subst h; cases r; cases e
    exact ⟨⟨_, .none⟩, [], (fun _ h => nomatch h), by simp only [PyData.shown]; exact .of_is ReprIs.none _ _ _⟩
  | .bl b, v, u, x, h, r, e, _, _ => by
    unfold Rep at h; subst h; cases r; cases e
    exact ⟨⟨_, .bool b⟩, [], (fun _ h => nomatch h), by simp only [PyData.shown]; exact .of_is (ReprIs.bool b) _ _ _⟩
  | .int i, v, u, x, h, r, e, hs, _ => by
    unfold Rep at h; subst h; obtain ⟨t, rfl⟩ := r; cases e
    exact ⟨⟨_, .int i t⟩, [], (fun _ h => nomatch h), by simp only [PyData.shown]; exact .of_is (ReprIs.int t (by simpa [PyData.showable] using hs)) _ _ _⟩
  | .str y, v, u, x, h, r, e, _, hz => by
    unfold Rep at h; subst h; obtain ⟨t, rfl⟩ := r; cases e
    exact ⟨⟨_, .str y t⟩, [], (fun _ h => nomatch h), by simp only [PyData.shown]; exact .of_is (ReprIs.str y t (by simpa only [PyData.shown] using hz)) _ _ _⟩
  | .lst l, v, u, x, h, r, e, hs, hz => by
    unfold Rep at h
    obtain ⟨a, rfl, _, vs, q, rs⟩ := h
    cases (show u = Value.ref a from r)
    unfold toPyR at e
    cases el : toPysR l with
    | none => rw [el] at e; cases e
    | some xs =>
      rw [el] at e; cases e
      have hz' : (listText (PyData.shownAll xs)).length ≤ sizeLine := by simpa only [PyData.shown] using hz
      obtain ⟨its, rv, ⟨o, n, h1, h2, _, h3⟩, _⟩ := I.list (.inl (.inl q))
      obtain ⟨⟨as, ra⟩, bs, hb, hk⟩ := reps_reads I hK l vs its xs rs rv el (by simpa [PyData.showable] using hs) (fun t ht => Nat.le_trans (listText_mem_le ht) hz')
      have rr : Reads s.heap (.ref a) (.list xs) _ := .list h1 h2 h3 ra
      have hna : a ∉ bs := not_mem_of_deeper rr (by simp only [PyData.depth]; omega) hb
      refine ⟨⟨_, rr⟩, a :: bs, ReadAtMost.cons rr (by simp only [PyData.depth]; omega) hb, ?_⟩
      simp only [PyData.depth, PyData.shown]
      cases its with
      | nil =>
        cases ra
        simp only [PyData.shownAll, listText_nil]
        exact ReprK.listEmpty h1 h2 h3
      | cons y its => exact ReprK.list h1 h2 h3 hna (by simpa using hk.length_eq) (fun i y e => hk.item i y (by simpa using e))
  | .tup l, v, u, x, h, r, e, hs, hz => by
    unfold Rep at h
    obtain ⟨a, vs, rfl, q, rs⟩ := h
    cases (show u = Value.ref a from r)
    unfold toPyR at e
    cases el : toPysR l with
    | none => rw [el] at e; cases e
    | some xs =>
      rw [el] at e; cases e
      have hz' : (tupleText (PyData.shownAll xs)).length ≤ sizeLine := by simpa only [PyData.shown] using hz
      rw [← hK] at q
      obtain ⟨its, rv, ⟨o, h1, h2, n, h3⟩, _⟩ := I.tuple q
      obtain ⟨⟨as, ra⟩, bs, hb, hk⟩ := reps_reads I hK l vs its xs rs rv el (by simpa [PyData.showable] using hs) (fun t ht => Nat.le_trans (tupleText_mem_le ht) hz')
      have rr : Reads s.heap (.ref a) (.tuple xs) _ := .tuple h1 h2 h3 ra
      have hna : a ∉ bs := not_mem_of_deeper rr (by simp only [PyData.depth]; omega) hb
      refine ⟨⟨_, rr⟩, a :: bs, ReadAtMost.cons rr (by simp only [PyData.depth]; omega) hb, ?_⟩
      simp only [PyData.depth, PyData.shown]
      exact ReprK.tuple h1 h2 h3 hna hk
  | .dct ks ds, v, u, x, h, r, e, hs, hz => by
    unfold Rep at h
    obtain ⟨a, rfl, _, rr⟩ := h
    cases (show u = Value.ref a from r)
    unfold toPyR at e
    cases ek : txtsD ks with
    | none => rw [ek] at e; cases e
    | some xs =>
      cases ed : toPysR ds with
      | none => rw [ek, ed] at e; cases e
      | some ys =>
        rw [ek, ed] at e
        dsimp only at e
        obtain ⟨hl, rfl⟩ := ite_sm e
        obtain ⟨o, es, ep, vs, hsys, h1, h2, h3, h4, rd, rv⟩ := dct_at I ek rr
        have m1 : (xs.zip ys).map (·.1) = xs := List.map_fst_zip (by omega)
        have m2 : (xs.zip ys).map (·.2) = ys := List.map_snd_zip (by omega)
        have hz' : (dictText (PyData.shownKv (xs.zip ys))).length ≤ sizeLine := by simpa only [PyData.shown] using hz
        obtain ⟨hs1, hs2⟩ := PyData.showableKv_split (xs.zip ys) (by simpa [PyData.showable] using hs)
        obtain ⟨b1, hb1, k1⟩ := ReprAllK.of_readsAll (prog := X.prog) (w := X.w) (show ReadsAll s.heap (es.toList.map (·.key)) ((xs.zip ys).map (·.1)) [] by rw [m1]; exact h4) hs1 (fun _ => by simp) (fun t ht => let ⟨p, hp, hl⟩ := PyData.shownKv_key_le _ t ht; Nat.le_trans hl (Nat.le_trans (dictText_mem_le hp) hz'))
        obtain ⟨⟨as, ra⟩, b2, hb2, k2⟩ := reps_reads I hK ds vs (es.toList.map (·.val)) ys rd rv ed (by rw [m2] at hs2; exact hs2) (fun t ht => let ⟨p, hp, hl⟩ := PyData.shownKv_val_le (xs.zip ys) t (by rw [m2]; exact ht); Nat.le_trans hl (Nat.le_trans (dictText_mem_le hp) hz'))
        have rr : Reads s.heap (.ref a) (.dict (xs.zip ys)) _ := .dict h1 h2 h3 (by rw [m1]; exact h4) (by rw [m2]; exact ra)
        rw [← m2] at hb2 k2
        have hb : ReadAtMost s.heap (PyData.depthKv (xs.zip ys)) (b1 ++ b2) := (hb1.mono (PyData.depthAll_keys_le _)).append (hb2.mono (PyData.depthAll_vals_le _))
        have hna : a ∉ b1 ++ b2 := not_mem_of_deeper rr (by simp only [PyData.depth]; omega) hb
        refine ⟨⟨_, rr⟩, a :: (b1 ++ b2), ReadAtMost.cons rr (by simp only [PyData.depth]; omega) hb, ?_⟩
        simp only [PyData.depth, PyData.shown, PyData.shownKv_eq]
        exact ReprK.dict h1 h2 h3 hsys hna (ReprEntriesK.of_two es.toList _ _
          (k1.more_le (fun b hb => List.mem_append_left _ hb) (PyData.depthAll_keys_le _)) (k2.more_le (fun b hb => List.mem_append_right _ hb) (PyData.depthAll_vals_le _)))
  | .ins _ _ _, v, u, x, h, r, e, _, _ => by unfold toPyR at e; cases e
  | .fn _, v, u, x, h, r, e, _, _ => by unfold toPyR at e; cases e
  | .ext _ _ _ _, v, u, x, h, r, e, _, _ => by unfold toPyR at e; cases e
theorem reps_reads (I : Inv X pins σ H s) (hK : X.K = W.K) : ∀ (l : List D) (vs : List V) (us : List Value) (xs : List PyData), Reps W S H l vs → Vals vs us → toPysR l = some xs → PyData.showableAll xs = true → (∀ t ∈ PyData.shownAll xs, t.length ≤ sizeLine) →
    (∃ as, ReadsAll s.heap us xs as) ∧ ∃ bs, ReadAtMost s.heap (PyData.depthAll xs) bs ∧ ReprAllK X.prog X.w bs s.heap (PyData.depthAll xs) us (PyData.shownAll xs)
  | [], vs, us, xs, h, r, e, _, _ => by
    unfold Reps at h; subst h; cases r; cases e
    exact ⟨⟨_, .nil⟩, [], (fun _ h => nomatch h), by simp only [PyData.shownAll]; exact .nil⟩
  | d :: l, vs, us, xs, h, r, e, hs, hz => by
    unfold Reps at h
    obtain ⟨v, vs', rfl, h1, h2⟩ := h
    cases r with
    | cons r1 r2 =>
      obtain ⟨x, ys, rfl, e1, e2⟩ := toPysR_cons e
      have hs' : x.showable = true ∧ PyData.showableAll ys = true := by simpa [PyData.showableAll] using hs
      obtain ⟨⟨as, q1⟩, b1, hb1, k1⟩ := rep_reads I hK d v _ x h1 r1 e1 hs'.1 (hz _ (by simp only [PyData.shownAll]; exact List.mem_cons_self ..))
      obtain ⟨⟨bs, q2⟩, b2, hb2, k2⟩ := reps_reads I hK l vs' _ ys h2 r2 e2 hs'.2 (fun t ht => hz t (by simp only [PyData.shownAll]; exact List.mem_cons_of_mem _ ht))
      refine ⟨⟨_, .cons q1 q2⟩, b1 ++ b2, ?_, ?_⟩
      · intro b hm
        simp only [PyData.depthAll]
        rcases List.mem_append.mp hm with hm | hm
        · obtain ⟨d', as', r', hd'⟩ := hb1 b hm
          exact ⟨d', as', r', Nat.le_trans hd' (Nat.le_max_left _ _)⟩
        · obtain ⟨d', as', r', hd'⟩ := hb2 b hm
          exact ⟨d', as', r', Nat.le_trans hd' (Nat.le_max_right _ _)⟩
      · simp only [PyData.depthAll, PyData.shownAll]
        exact .cons ((k1.more fun b hb => List.mem_append_left _ hb).level_le (Nat.le_max_left _ _)) (k2.more_le (fun b hb => List.mem_append_right _ hb) (Nat.le_max_right _ _))
end
end
end PL

set_option Elab.async false
set_option linter.all false
set_option maxRecDepth 100000
set_option maxHeartbeats 4000000
/-! PL43: repr of a list, an exception class without __init__, split, a display with a text as key. -/
namespace PL
open PySem L2
variable [TabL]
/-! ### repr of a list -/
def lstOk (xs : List PyData) : Bool := PyData.showableAll xs && decide ((listText (PyData.shownAll xs)).length ≤ sizeLine) && decide (PyData.depthAll xs ≤ 100)
def reprL : List D → Option D
  | [.lst l] => match toPysR l with
    | some xs => if lstOk xs then some (.str (listText (PyData.shownAll xs))) else none
    | none => none
  | _ => none
def rReprL (W : Wd) : List V → Hp → VK → Prop := fun vs H Q => ∃ (S : Addr → Prop) (a : Addr) (ys : List V) (l : List D) (xs : List PyData), vs = [.ref a] ∧ H a = some (.lst ys) ∧ Reps W S H l ys ∧ toPysR l = some xs ∧ lstOk xs = true ∧ Q (.str (listText (PyData.shownAll xs))) H
section
variable {X : Cx} {W : Wd}
theorem cr_reprL {k : Nat} (r0 : Room k X.A) (hK : X.K = W.K) : CallR X (.builtin "repr") (rReprL W) := by
  intro pins s σ H vs us Q I r h
  obtain ⟨S, a, ys, l, xs, rfl, hq, rs, el, ok, q⟩ := h
  obtain rfl := Vals.ref1 r
  unfold lstOk at ok
  simp only [Bool.and_eq_true, decide_eq_true_eq] at ok
  obtain ⟨⟨hs, hz⟩, hd⟩ := ok
  obtain ⟨its, rv, ⟨o, n, h1, h2, _, h3⟩, _⟩ := I.list (.inl (.inl hq))
  obtain ⟨⟨as, ra⟩, bs, hb, hk⟩ := reps_reads I hK l ys its xs rs rv el hs (fun t ht => Nat.le_trans (listText_mem_le ht) hz)
  have rr : Reads s.heap (.ref a) (.list xs) _ := .list h1 h2 h3 ra
  have hna : a ∉ bs := not_mem_of_deeper rr (by simp only [PyData.depth]; omega) hb
  have hu := r0.un
  refine call_repr_slot (by omega) ⟨o, h1, h2⟩ F.slot_list_repr.toG ?_
  have fin : ∀ (h' : Heap) (u tk : Nat), (∀ b o, s.heap.get? b = some o → h'.get? b = some o) → ∃ x t, Value.str (listText (PyData.shownAll xs)) u = .str x t ∧ (∃ v H', Inv X pins σ H' { s with heap := h', toks := tk } ∧ RelV v (.str (listText (PyData.shownAll xs)) u) ∧ Q v H') := fun h' u tk hk' =>
    ⟨_, _, rfl, .str _, H, I.kept (t' := tk) hk', ⟨_, rfl⟩, q⟩
  cases its with
  | nil =>
    cases ra
    simp only [PyData.shownAll, listText_nil] at fin ⊢
    exact call_list_repr_empty ⟨o, h1, h2⟩ h1 h3 (fin s.heap _ _ fun _ _ e => e)
  | cons y its =>
    exact call_list_reprK h1 h2 h3 hna (by simpa using hk.length_eq) (fun i y e => hk.item i y (by simpa using e)) (g := []) r0.gd (fun b _ => Clear.nil b) (by show X.A.units + 1 + (PyData.depthAll xs + 1) < cLine; omega) (fun _ _ e => e) fin hz
end
section
variable {X : Cx} {F : Fr} {k : Nat} {a : Expr} {fs : SEnv → M (List D)} {pos p : Pos}
theorem ev_reprL (o : On X F k) (hm : F.mg "repr" = none) (hg : Gl X "repr") (ha : EA true X F [a] fs) (h1 : starEach [a] X.env = (false, eval a X.env) :: starEach [] X.env := by rfl) : EV X F (.Call (.Name "repr" p) [a] [] pos) (eCall reprL fs) :=
  ev_callB (cr_reprL (W := F.toWd) o.room o.K) (by
    intro S H0 H ds d vs Q mt hn r e kk
    unfold reprL at e
    split at e
    · rename_i l
      cases el : toPysR l with
      | none => rw [el] at e; cases e
      | some xs =>
        rw [el] at e
        dsimp only at e
        obtain ⟨ok, rfl⟩ := ite_sm e
        obtain ⟨v, rfl, r1⟩ := pir1 r
        obtain ⟨b, ys, rfl, hq, rs⟩ := RepT.lst r1
        exact ⟨S, b, ys, l, xs, rfl, hq, rs, el, ok, kk _ H (Same.refl _) rep_s⟩
    · cases e) hg (by rw [o.mg]; exact hm) (by decide +kernel) ha (he := h1)
end
/-! ### X(e), X an exception class without an __init__ -/
def eMkB (x : Str) (f : SEnv → M D) : SEnv → M D := fun Γ => do let _ ← f Γ; pure (.ext 0 x [] [])
section
variable {X : Cx} {F : Fr} {k : Nat} {e : Expr} {f : SEnv → M D} {pos p : Pos} {x : Str}
structure XcV (K : PySem.W.Frag) (mg : Str → Option Value) (x : Str) : Prop where
  C : ∃ C, mg x = some (.ref C) ∧ PySem.W.excIn K C [.type "ValueError", .type "Exception", .type "BaseException", .type "object"] "ValueError.__new__" = true ∧ PySem.W.keepIn K (.ref C) = true
theorem ev_mkB (o : On X F k) (h : XcV F.K F.mg x) (hg : Gl X x) (ha : EV X F e f) (hs : starEach [e] X.env = (false, eval e X.env) :: starEach [] X.env := by rfl) (hdb : (x == ("__debug__" : Str)) = false := by decide) : EV X F (.Call (.Name x p) [e] [] pos) (eMkB x f) := by
  obtain ⟨C, hC, hx, hk⟩ := h.C
  refine PE.weak (pe_exc1 PySem.F.excBase_ValueError (by rw [o.K]; exact hx) (by rw [o.mg]; exact hC) (by rw [o.K]; exact hk) hg ha hs hdb) fun σ H Q q => ?_
  obtain ⟨S, Γ, p, es, q⟩ := q
  refine ⟨S, Γ, p, es, (OutOk.bind.mp q).imp fun d p1 q v H1 e1 q1 r1 a ha => ?_⟩
  have q : ∀ v H', Ext F H H' → PotOk F H' p1 → RV F S H H' (.ext 0 x [] []) v → Q v H' := q
  have es1 := es.ext e1 q1
  refine q _ _ (e1.trans (.of (upd_Same ha))) (q1.same (upd_Same ha)) ?_
  show Rep _ _ _ _ _
  unfold Rep
  refine ⟨a, [], _, rfl, ⟨C, hC, .inr (.inl ⟨rfl, rfl, rfl⟩)⟩, fun z hz => ?_, by unfold Reps; rfl⟩
  rw [List.mem_singleton] at hz; subst hz
  refine ⟨fun w => ?_, nc_ExO, upd_same⟩
  have m := es1.mt a w
  rw [ha] at m; exact m
end
/-! ### x.split(y) -/
def splitD : D → D → Option D
  | .str a, .str b => if b.length != 0 && decide (a.length + 2 ≤ sizeLine) then some (.lst ((Txt.split a b).map D.str)) else none
  | _, _ => none
section
variable {X : Cx} {F : Fr} {k : Nat} {e1 e2 : Expr} {f g : SEnv → M D} {pos p : Pos}
def strOfD : D → Option Str
  | .str a => some a
  | _ => none
/-- a text's method with one argument -/
def eBi (h : D → D → Option D) (f g : SEnv → M D) : SEnv → M D := fun Γ => do
  let a ← f Γ
  let _ ← ofOpt (strOfD a)
  let b ← g Γ
  ofOpt (h a b)
theorem reps_strs {W : Wd} {S : Addr → Prop} {H : Hp} : ∀ ys : List Str, Reps W S H (ys.map D.str) (ys.map V.str)
  | [] => .nil
  | y :: ys => .cons (by unfold Rep; rfl) (reps_strs ys)
theorem ev_split (ha : EV X F e1 f) (hb : EV X F e2 g) (hs : starEach [e2] X.env = [(false, eval e2 X.env)] := by rfl) (hbase : attributeBase e1 "split" X.env (eval e1 X.env) = eval e1 X.env := by rfl) (hline : (p.endLine == pos.line) = true := by rfl) :
    EVN X F (.Call (.Attribute e1 "split" p) [e2] [] pos) (eBi splitD f g) :=
  PE.weak (pe_split ha hb hs hbase hline) fun σ H Q q => by
    obtain ⟨S, Γ, p, es, q⟩ := q
    refine ⟨S, Γ, p, es, (OutOk.bind.mp q).imp fun d1 p1 q v1 H1 e1 q1 r1 => ?_⟩
    have es1 := es.ext e1 q1
    obtain ⟨a, ea, q⟩ := out_opt.mp (OutOk.bind.mp q)
    have q := OutOk.bind.mp q
    have hstr : ∀ {H : Hp} {a : Str} {v : V}, Rep F.toWd S H (.str a) v → v = .str a := fun h => by unfold Rep at h; exact h
    have ed : d1 = .str a := by
      cases d1 <;> first | (cases ea; done) | (cases ea; rfl)
    subst ed
    have r1 : Rep F.toWd S H1 (.str a) v1 := r1
    refine ⟨⟨a, hstr r1⟩, S, Γ, p1, es1, q.imp fun d2 p2 q v2 H2 e2 q2 r2 => ?_⟩
    obtain ⟨d, e4, q⟩ := out_opt.mp q
    cases d2 <;> try cases e4
    rename_i b
    have r2 : Rep F.toWd S H2 (.str b) v2 := r2
    have e4 : (if (b.length != 0 && decide (a.length + 2 ≤ sizeLine)) = true then some (D.lst ((Txt.split a b).map D.str)) else none) = some d := e4
    obtain ⟨ok, rfl⟩ := ite_sm e4
    simp only [Bool.and_eq_true, decide_eq_true_eq, bne_iff_ne] at ok
    have es2 := es1.ext e2 q2
    exact ⟨a, b, hstr r1, by rw [hstr r2], by simpa using ok.1, ok.2, fun c hc => q _ _ ((e1.trans e2).trans (.of (upd_Same hc))) (q2.same (upd_Same hc)) (new_lst es2.mt (es.sub (e1.trans e2) q2) (reps_strs _) hc)⟩
end
/-! ### {"x": e} -/
section
variable {X : Cx} {F : Fr} {k : Nat} {e1 e2 : Expr} {f g : SEnv → M D} {pos p : Pos}
def eDispS (f g : SEnv → M D) : SEnv → M D := fun Γ => do
  let a ← f Γ
  let x ← ofOpt (strOfD a)
  let b ← g Γ
  pure (.dct [.str x] [b])
theorem ev_dispS (ha : EV X F e1 f) (hb : EV X F e2 g) : EVN X F (.Dict [some e1] [e2] pos) (eDispS f g) :=
  PE.weak (pe_disp (pps_cons ha hb pps_nil) rfl rfl (by simp) (by simp)) fun σ H Q q => by
    obtain ⟨S, Γ, p, es, q⟩ := q
    intro a na
    have es1 := es.lay (o := .dK []) na trivial
    have npa : F.pa ≠ some a := fun z => by
      have m := es.mt a (es.pa a z)
      rw [na] at m; exact m
    refine ⟨_, Γ, p, es1, (OutOk.bind.mp q).imp fun d1 p1 q v1 H1 e1 q1 r1 => ?_⟩
    obtain ⟨x, ea, qq⟩ := out_opt.mp (OutOk.bind.mp q)
    have ed : d1 = .str x := by
      cases d1 <;> first | (cases ea; done) | (cases ea; rfl)
    subst ed
    have hv : v1 = .str x := by
      have r1 : Rep F.toWd (fun b => S b ∨ b = a) H1 (.str x) v1 := r1
      unfold Rep at r1; exact r1
    subst hv
    have es2 := es1.ext e1 q1
    refine ⟨_, Γ, p1, es2, (OutOk.bind.mp qq).imp fun y p2 q v2 H2 e2 q2 r2 => ?_⟩
    have q : ∀ v H', Ext F H H' → PotOk F H' p2 → RN F S H H' (.dct [.str x] [y]) v → Q v H' := q
    have e12 : Ext F (upd H a (.dK [])) H2 := Ext.trans e1 e2
    have ha : H2 a = some (.dK []) := e12.get a _ upd_same npa nt_dK
    have es3 := es2.ext e2 q2
    have g : Goes (fun b => S b ∨ b = a) (fun b => S b ∨ b = a) H2 (upd H2 a (.dK [(.inr x, v2)])) := ⟨fun c u h n _ => by rw [upd_ne (fun z => n (.inr z))]; exact h, fun _ w => .inl w, es3.mt⟩
    refine ⟨ha, [(.inr x, v2)], rfl, by simp, ?_⟩
    refine q _ _ ?_ ?_ ⟨a, rfl, na, .inl ⟨[(.inr x, v2)], upd_same, rfl, by simp, .cons (Rep.goes g _ _ r2) .nil⟩⟩
    · have k1 : Ext F H (upd H a (.dK [])) := .of (upd_Same na)
      have k2 : Ext F H H2 := Ext.trans k1 e12
      exact Kept.trans2 k2 (Kept.set1 (X := fun c => c = a) ha nc_dK rfl) fun c u h z => by
        subst z
        rw [na] at h; cases h
    · intro pa hpa
      obtain ⟨t1, t2⟩ := q2 pa hpa
      refine ⟨by rw [upd_ne (fun z => npa (by rw [← z]; exact hpa))]; exact t1, ?_⟩
      rw [upd_ne (fun z => by rw [z, ha] at t2; cases t2)]
      exact t2
end
end PL

set_option Elab.async false
set_option linter.all false
set_option maxRecDepth 100000
set_option maxHeartbeats 4000000
/-! PL44: facts of the top for exceptions as values; a law without a table. -/
namespace PL
open PySem L2 NdefX
section
variable {K : PySem.W.Frag} {mg : Str → Option Value} {h : Heap}
theorem excK_mk {C : Addr} (cl : (PySem.W.clsIn K C).isSome = true) (ga : PySem.W.findIn K (.ref C) "__getattribute__" = some (some (.builtin "BaseException.__getattribute__"))) (gg : PySem.W.findIn K (.ref C) "__getattr__" = some none) (ex : PySem.W.subIn K (.ref C) (.type "BaseException") = some true)
    (ha : PySem.W.findIn K (.ref C) "__class__" = some (some (.builtin "object.__class__"))) (hn : PySem.W.specialIn K (.builtin "object.__class__") "__get__" = some (some (.builtin "getset_descriptor.__get__"))) (htk : PySem.W.takesIn K (.builtin "object.__class__") = some true) (hm : PySem.W.mroIn K C (.type "object") = some true) : ExcK K C := ⟨cl, ga, gg, ex, ha, hn, htk, hm⟩
theorem excAll_nil : ExcAll K mg [] := fun _ h => nomatch h
theorem excAll_cons {c : Str} {cs : List Str} {C : Addr} (X : K.In h) (G : h.Ns mainGlobals mg) (a : PySem.W.nsIn K mainGlobals c = some (some (.ref C))) (e : ExcK K C) (r : ExcAll K mg cs) : ExcAll K mg (c :: cs) := by
  intro d hd C' hC
  rcases List.mem_cons.mp hd with rfl | hd
  · have z := PySem.W.mg_of X G a
    rw [hC] at z
    cases z
    exact e
  · exact r d hd C' hC
theorem kitE_nil {u : Value} : KitE K mg u [] := fun _ h => nomatch h
theorem kitE_cons {u : Value} {c : Str} {b : Bool} {tb : List (Str × Bool)} {C : Addr} (X : K.In h) (G : h.Ns mainGlobals mg) (a : PySem.W.nsIn K mainGlobals c = some (some (.ref C))) (e : PySem.W.kitOne K (.ref C) u = some b) (r : KitE K mg u tb) : KitE K mg u ((c, b) :: tb) := by
  intro d hd C' hC
  rcases List.mem_cons.mp hd with rfl | hd
  · have z := PySem.W.mg_of X G a
    rw [hC] at z
    cases z
    exact e
  · exact r d hd C' hC
theorem kitR_mk {t : Str} {tb : List (Str × Bool)} {C : Addr} (X : K.In h) (G : h.Ns mainGlobals mg) (a : PySem.W.nsIn K mainGlobals t = some (some (.ref C))) (r : KitE K mg (.ref C) tb) : ∃ C, mg t = some (.ref C) ∧ KitE K mg (.ref C) tb := ⟨C, PySem.W.mg_of X G a, r⟩
theorem exc_tb {cs : List Str} {tb : List (Str × Bool)} (e : tb.map (·.1) = cs) (h : ExcAll K mg cs) : ∀ p ∈ tb, ∀ C, mg p.1 = some (.ref C) → ExcK K C := fun p hp C hC => h p.1 (by rw [← e]; exact List.mem_map_of_mem hp) C hC
theorem xcV_mk {x : Str} {C : Addr} (X : K.In h) (G : h.Ns mainGlobals mg) (a : PySem.W.nsIn K mainGlobals x = some (some (.ref C))) (e : PySem.W.excIn K C [.type "ValueError", .type "Exception", .type "BaseException", .type "object"] "ValueError.__new__" = true) (k : PySem.W.keepIn K (.ref C) = true) : XcV K mg x := ⟨C, PySem.W.mg_of X G a, e, k⟩
end
theorem lawAt0_mk {l : PySem.W.OpenLaw} {w : World} {K : PySem.W.Frag} {k : Nat} {mg : Str → Option Value} {f fa : Addr} {h : Heap} {st : Stmt} {oc kV doc pm cv ctv : Value} {od an : Option Addr} {osl : Array (Option Value)}
    (X : K.In h) (G : h.Ns mainGlobals mg) (hm : mg "law" = some (.ref fa)) (a : PySem.W.nsIn K mainGlobals "law" = some (some (.ref f)))
    (lk : K.lookup f = some ⟨oc, od, .func (PySem.W.fnOf "law" "law" (defArgs st) (defBody st) (defScope st) .none kV doc pm an cv ctv), osl⟩)
    (b : ∀ (kV doc pm : Value) (an : Option Addr) (cdv ctv u : Value), bindArgs (PySem.W.fnOf "law" "law" (defArgs st) (defBody st) (defScope st) .none kV doc pm an cdv ctv) ⟨[u], []⟩ = pure [(Str.ofString "script", u)])
    (cd : PySem.W.codeIn K cv "law" = true)
    (ok : ∀ [I : TabL], TabL.T = [] → ∀ base : Heap, K.In base → base.Ns mainGlobals mg → K.lookup f = some ⟨oc, od, .func (PySem.W.fnOf "law" "law" (defArgs st) (defBody st) (defScope st) .none kV doc pm an cv ctv), osl⟩ → PySem.W.codeIn K cv "law" = true → FnOk l.prog w K mg base (L2.CX l.prog w) k f (PySem.W.fnOf "law" "law" (defArgs st) (defBody st) (defScope st) .none kV doc pm an cv ctv) ["script"] (spLaw K)) :
    LawAtG l w K (L2.CX l.prog w) k 63 "script" mg fa h := by
  letI : TabL := ⟨[]⟩
  have e := PySem.W.mg_of X G a
  rw [hm] at e
  cases e
  refine ⟨_, [], spLaw K, ?_, ?_, ?_, fun s u => .of_eq (b kV doc pm an cv ctv u), ?_, fun base KB GB TB => ok rfl base KB GB lk cd⟩
  · intro p hp; cases hp
  · intro p hp; cases hp
  · intro p hp; cases hp
  · intro H a ns hl hb ht hs
    refine ⟨a, ns, rfl, hs, ?_, hl, hb, fun _ => rfl⟩
    intro p hp
    have hp : p ∈ ([] : List (Addr × Str)) := hp
    cases hp
end PL

set_option Elab.async false
set_option linter.all false
set_option maxRecDepth 100000
/-! PM1: the denotations as equations, for the plain laws. -/
namespace PL
open PySem L2

/-- types that keep simp out of what comes later -/
abbrev Tf {α β : Type} (_ : α → Pot → Out (β × Pot)) : Type := Out (β × Pot)
abbrev T2 {α : Type} (_ _ : Out α) : Type := Out α
def Out.then {α β : Type} (x : Out (α × Pot)) (f : α → Pot → Out (β × Pot)) : Tf f := match x with
  | .ok (a, p) => f a p
  | .exc x => .exc x
  | .bad => .bad
def Out.nx {α : Type} (x : Out α) : Out α := match x with
  | .ok a => .ok a
  | _ => .bad
def Out.up {α : Type} (x : Out α) (p : Pot) : Out (α × Pot) := match x with
  | .ok a => .ok (a, p)
  | .exc x => .exc x
  | .bad => .bad
def Out.dn {α : Type} (x : Out (α × Pot)) : Out α := match x with
  | .ok (a, _) => .ok a
  | .exc x => .exc x
  | .bad => .bad
def opt {α : Type} (x : Option α) (p : Pot) : Out (α × Pot) := match x with
  | some a => .ok (a, p)
  | none => .bad
def ifD {α : Type} (d : D) (x y : Out α) : T2 x y := match d with
  | .bl true => x
  | .bl false => y
  | _ => .bad
def ifFl {α : Type} (f : Fl) (x y : Out α) : T2 x y := match f with
  | .nx => x
  | _ => y
section
variable {α β : Type} {p q : Pot}
@[simp] theorem then_ok {a : α} {f : α → Pot → Out (β × Pot)} : (Out.ok (a, p)).then f = f a p := (rfl)
@[simp] theorem then_exc {x : Exc} {f : α → Pot → Out (β × Pot)} : (Out.exc x).then f = .exc x := (rfl)
@[simp] theorem then_bad {f : α → Pot → Out (β × Pot)} : (Out.bad).then f = .bad := (rfl)
@[simp] theorem nx_ok {a : α} : (Out.ok a).nx = .ok a := (rfl)
@[simp] theorem nx_exc {x : Exc} : (Out.exc x : Out α).nx = .bad := (rfl)
@[simp] theorem nx_bad : (Out.bad : Out α).nx = .bad := (rfl)
@[simp] theorem up_ok {a : α} : (Out.ok a).up p = .ok (a, p) := (rfl)
@[simp] theorem up_exc {x : Exc} : (Out.exc x : Out α).up p = .exc x := (rfl)
@[simp] theorem up_bad : (Out.bad : Out α).up p = .bad := (rfl)
@[simp] theorem dn_ok {a : α} : (Out.ok (a, p)).dn = .ok a := (rfl)
@[simp] theorem dn_exc {x : Exc} : (Out.exc x : Out (α × Pot)).dn = .exc x := (rfl)
@[simp] theorem dn_bad : (Out.bad : Out (α × Pot)).dn = .bad := (rfl)
@[simp] theorem opt_some {a : α} : opt (some a) p = .ok (a, p) := (rfl)
@[simp] theorem opt_none : opt (none : Option α) p = .bad := (rfl)
theorem ifD_bl {b : Bool} {x y : Out α} : ifD (.bl b) x y = if b = true then x else y := by cases b <;> rfl
@[simp] theorem ifD_t {x y : Out α} : ifD (.bl true) x y = x := (rfl)
@[simp] theorem ifD_f {x y : Out α} : ifD (.bl false) x y = y := (rfl)
@[simp] theorem ifFl_nx {x y : Out α} : ifFl .nx x y = x := (rfl)
@[simp] theorem ifFl_rt {x y : Out α} {d : D} : ifFl (.rt d) x y = y := (rfl)
@[simp] theorem ifFl_bk {x y : Out α} : ifFl .bk x y = y := (rfl)
@[simp] theorem ifFl_ct {x y : Out α} : ifFl .ct x y = y := (rfl)
@[simp] theorem bind_ap {m : M α} {f : α → M β} : (m >>= f) p = (m p).then f := by
  show M.bind m f p = _
  unfold M.bind Out.then
  cases h : m p <;> rfl
theorem then_ext {x : Out (α × Pot)} {f g : α → Pot → Out (β × Pot)} (h : ∀ a p, f a p = g a p) : x.then f = x.then g := by
  have : f = g := funext fun a => funext fun p => h a p
  rw [this]
theorem bind_ext {m : M α} {f : α → M β} {g : α → Pot → Out (β × Pot)} (h : ∀ a p, f a p = g a p) : (m >>= f) p = (m p).then g := by
  rw [bind_ap]; exact then_ext h
@[simp] theorem pure_ap (a : α) : (pure a : M α) p = .ok (a, p) := (rfl)
@[simp] theorem bad_ap : (M.bad : M α) p = .bad := (rfl)
@[simp] theorem opt_ap (x : Option α) : ofOpt x p = opt x p := by cases x <;> rfl
@[simp] theorem lift_ap (x : Out α) : M.lift x p = x.up p := by cases x <;> rfl
@[simp] theorem nox_ap (m : M α) : M.nox m p = (m p).nx := by
  unfold M.nox Out.nx
  cases m p <;> rfl
end
section
variable {p : Pot} {Γ : SEnv} {f g fa fb fc ft fe c : SEnv → M D} {fs : SEnv → M (List D)} {s t : DS}
@[simp] theorem eVar_ap {i : Nat} : eVar i Γ p = opt (valOf Γ[i]?) p := opt_ap _
@[simp] theorem eVarB_ap {i : Nat} : eVarB i Γ p = opt (anyOf Γ[i]?) p := opt_ap _
@[simp] theorem eC_ap {d : D} : eC d Γ p = .ok (d, p) := (rfl)
@[simp] theorem eOp_ap {h : D → D → Option D} : eOp h fa fb Γ p = (fa Γ p).then fun a p => (fb Γ p).then fun b p => opt (h a b) p := (rfl)
@[simp] theorem eUn_ap {h : D → Option D} : eUn h f Γ p = (f Γ p).then fun a p => opt (h a) p := (rfl)
@[simp] theorem eNil_ap : eNil Γ p = .ok ([], p) := (rfl)
@[simp] theorem eCons_ap : eCons f fs Γ p = (f Γ p).then fun d p => (fs Γ p).then fun ds p => .ok (d :: ds, p) := (rfl)
@[simp] theorem eStar_ap : eStar f fs Γ p = (f Γ p).then fun d p => (opt (itemsT d) p).then fun l p => (fs Γ p).then fun ds p => .ok (l ++ ds, p) := (rfl)
@[simp] theorem eTup_ap : eTup fs Γ p = (fs Γ p).then fun ds p => opt (mkTup ds) p := (rfl)
@[simp] theorem eLst_ap : eLst fs Γ p = (fs Γ p).then fun ds p => opt (mkLst ds) p := (rfl)
@[simp] theorem eCall_ap {h : List D → Option D} : eCall h fs Γ p = (fs Γ p).then fun ds p => opt (h ds) p := (rfl)
@[simp] theorem eCallP_ap {m : List D → Out D} : eCallP m fs Γ p = (fs Γ p).then fun ds p => (m ds).up p := (rfl)
@[simp] theorem eCallQ_ap {i : Nat} {m : List D → M D} : eCallQ i m fs Γ p = (opt (isPot Γ[i]?) p).then fun _ p => (fs Γ p).then fun ds p => (m ds p).nx := by
  refine bind_ext fun _ p => bind_ext fun ds p => nox_ap _
@[simp] theorem eAnd_ap : eAnd fa fb Γ p = (fa Γ p).then fun a p => ifD a (fb Γ p) (.ok (.bl false, p)) := by
  refine bind_ext fun a p => ?_; cases a with
  | bl b => cases b <;> rfl
  | _ => rfl
@[simp] theorem eOr_ap : eOr fa fb Γ p = (fa Γ p).then fun a p => ifD a (.ok (.bl true, p)) (fb Γ p) := by
  refine bind_ext fun a p => ?_; cases a with
  | bl b => cases b <;> rfl
  | _ => rfl
def notD : D → Option D
  | .bl b => some (.bl !b)
  | _ => none
@[simp] theorem notD_bl {b : Bool} : notD (.bl b) = some (.bl !b) := (rfl)
@[simp] theorem eNot_ap : eNot fa Γ p = (fa Γ p).then fun a p => opt (notD a) p := by
  refine bind_ext fun a p => ?_; cases a <;> rfl
@[simp] theorem eIf_ap : eIf ft fa fb Γ p = (ft Γ p).then fun a p => ifD a (fa Γ p) (fb Γ p) := by
  refine bind_ext fun a p => ?_; cases a with
  | bl b => cases b <;> rfl
  | _ => rfl
@[simp] theorem eChain_ap {h k : D → D → Option D} : eChain h k fa fb fc Γ p = (fa Γ p).then fun a p => (fb Γ p).then fun b p => (opt (h a b) p).then fun r p => ifD r ((fc Γ p).then fun c p => opt (k b c) p) (.ok (.bl false, p)) := by
  refine bind_ext fun a p => bind_ext fun b p => ?_
  refine (bind_ext (g := fun r p => ifD r ((fc Γ p).then fun c p => opt (k b c) p) (.ok (.bl false, p))) fun r p => ?_)
  cases r with
  | bl b => cases b <;> rfl
  | _ => rfl
@[simp] theorem ePart0_ap : ePart0 Γ p = .ok (none, p) := (rfl)
@[simp] theorem ePart_ap : ePart f Γ p = (f Γ p).then fun d p => (opt (intOf d) p).then fun i p => .ok (some i, p) := (rfl)
@[simp] theorem eSl_ap {h : D → Option Int → Option Int → Option D} {fl fh : SEnv → M (Option Int)} : eSl h f fl fh Γ p = (f Γ p).then fun d p => (fl Γ p).then fun lo p => (fh Γ p).then fun hi p => opt (h d lo hi) p := (rfl)
@[simp] theorem eItems_ap {h : D → Option (List D)} : eItems h f Γ p = (f Γ p).then fun d p => opt (h d) p := (rfl)
@[simp] theorem eRng_ap {h : List D → Option (List D)} : eRng h fs Γ p = (fs Γ p).then fun d p => opt (h d) p := (rfl)
@[simp] theorem eDnew_ap : eDnew Γ p = .ok (.dct [] [], p) := (rfl)
@[simp] theorem eXf_ap {i : Nat} {n : Str} : eXf i n Γ p = opt (xOf n Γ[i]?) p := opt_ap _
@[simp] theorem eMake_ap {c : Str} {m : List D → Out FS} : eMake c m fs Γ p = (fs Γ p).then fun ds p => ((m ds).up p).then fun gs p => .ok (.ins c (gs.map (·.1)) (gs.map (·.2)), p) := (rfl)
@[simp] theorem eCallV_ap {i : Nat} {ms : List (Str × (List D → Out D))} : eCallV i ms fs Γ p = (opt (fnOfS Γ[i]?) p).then fun x p => (opt (ms.lookup x) p).then fun m p => eCallP m fs Γ p := (rfl)
@[simp] theorem ePotI_ap {i j : Nat} : ePotI i j Γ p = (opt (isPot Γ[i]?) p).then fun _ p => (opt (p.sel j) p).then fun v p => .ok (.int v, p) := (rfl)
@[simp] theorem ePotLen_ap {i : Nat} : ePotLen i Γ p = (opt (isPot Γ[i]?) p).then fun _ p => .ok (.int p.cells.length, p) := (rfl)
@[simp] theorem ePotCell_ap {i : Nat} : ePotCell i f Γ p = (opt (isPot Γ[i]?) p).then fun _ p => (f Γ p).then fun d p => (opt (intOf d) p).then fun k p => (opt (atI p.cells k) p).then fun v p => .ok (.int v, p) := by
  refine bind_ext fun _ p => bind_ext fun d p => ?_; cases d <;> rfl
@[simp] theorem sPotSet_ap {i j : Nat} : sPotSet i j f Γ p = (opt (isPot Γ[i]?) p).then fun _ p => (f Γ p).then fun d p => (opt (intOf d) p).then fun v p => (opt (p.put v j) p).then fun q _ => .ok ((.nx, Γ), q) := by
  refine bind_ext fun _ p => bind_ext fun d p => ?_; cases d <;> rfl
@[simp] theorem sSkip_ap : sSkip Γ p = .ok ((.nx, Γ), p) := (rfl)
@[simp] theorem sSeq_ap : sSeq s t Γ p = (s Γ p).then fun r p => ifFl r.1 (t r.2 p) (.ok (r, p)) := by
  refine bind_ext fun r p => ?_; obtain ⟨a, b⟩ := r; cases a <;> rfl
@[simp] theorem sRet_ap : sRet f Γ p = (f Γ p).then fun d p => .ok ((.rt d, Γ), p) := (rfl)
@[simp] theorem sDrop_ap : sDrop f Γ p = (f Γ p).then fun d p => .ok ((.nx, Γ), p) := (rfl)
@[simp] theorem sIf_ap : sIf c s t Γ p = (c Γ p).then fun d p => ifD d (s Γ p) (t Γ p) := by
  refine bind_ext fun a p => ?_; cases a with
  | bl b => cases b <;> rfl
  | _ => rfl
@[simp] theorem sBrk_ap : sBrk Γ p = .ok ((.bk, Γ), p) := (rfl)
@[simp] theorem sCnt_ap : sCnt Γ p = .ok ((.ct, Γ), p) := (rfl)
@[simp] theorem sAsg_ap {h : D → SEnv → Option SEnv} : sAsg h f Γ p = (f Γ p).then fun d p => (opt (h d Γ) p).then fun Γ' p => .ok ((.nx, Γ'), p) := (rfl)
@[simp] theorem sAsgO_ap {i : Nat} : sAsgO i f Γ p = (f Γ p).then fun d p => .ok ((.nx, Γ.set i (.own d)), p) := (rfl)
@[simp] theorem sFrz_ap {i : Nat} : sFrz i s Γ p = (opt (ownOf Γ[i]?) p).then fun d p => s (Γ.set i (.val d)) p := (rfl)
def frzE (i : Nat) (Γ : SEnv) : SEnv := match ownOf Γ[i]? with
  | some d => Γ.set i (.val d)
  | none => Γ
@[simp] theorem sFrzq_ap {i : Nat} : sFrz? i s Γ p = s (frzE i Γ) p := by
  unfold sFrz? frzE
  cases ownOf Γ[i]? <;> rfl
@[simp] theorem sApp_ap {i : Nat} : sApp i f Γ p = (opt (ownL Γ[i]?) p).then fun l p => (f Γ p).then fun d p => (opt (lstOf (decide (l.length < sizeLine)) (l ++ [d])) p).then fun l' p => .ok ((.nx, Γ.set i (.own l')), p) := (rfl)
@[simp] theorem sSetL_ap {i : Nat} : sSetL i g f Γ p = (opt (ownL Γ[i]?) p).then fun l p => (f Γ p).then fun d p => (g Γ p).then fun k p => (opt (intOf k) p).then fun k p => (opt (ixN l.length k) p).then fun j p => .ok ((.nx, Γ.set i (.own (.lst (l.set j d)))), p) := by
  refine bind_ext fun _ p => bind_ext fun _ p => bind_ext fun d p => ?_; cases d <;> rfl
@[simp] theorem sSet2_ap {i j : Nat} {f1 f2 : SEnv → M D} : sSet2 i j f1 f2 fa fb Γ p = (opt (ownL Γ[i]?) p).then fun l1 p => (opt (ownL Γ[j]?) p).then fun l2 p => (fa Γ p).then fun d1 p => (fb Γ p).then fun d2 p => (f1 Γ p).then fun k1 p => (opt (intOf k1) p).then fun k1 p => (opt (ixN l1.length k1) p).then fun j1 p =>
    (f2 (Γ.set i (.own (.lst (l1.set j1 d1)))) p).then fun k2 p => (opt (intOf k2) p).then fun k2 p => (opt (ixN l2.length k2) p).then fun j2 p => .ok ((.nx, (Γ.set i (.own (.lst (l1.set j1 d1)))).set j (.own (.lst (l2.set j2 d2)))), p) := by
  refine bind_ext fun l1 p => bind_ext fun l2 p => bind_ext fun d1 p => bind_ext fun d2 p => bind_ext fun k1 p => ?_
  cases k1 <;> try rfl
  refine bind_ext fun j1 p => bind_ext fun k2 p => ?_
  cases k2 <;> rfl
@[simp] theorem sAug_ap {i : Nat} {h : D → D → Option D} : sAug i h f Γ p = (opt (valOf Γ[i]?) p).then fun x p => (f Γ p).then fun y p => (opt (h x y) p).then fun z p => .ok ((.nx, Γ.set i (.val z)), p) := (rfl)
@[simp] theorem sPar_ap {xs : List Pi} : sPar xs Γ p = (parL xs Γ Γ p).then fun Γ' p => .ok ((.nx, Γ'), p) := (rfl)
@[simp] theorem parL_nil {Γa : SEnv} : parL [] Γ Γa p = .ok (Γa, p) := (rfl)
@[simp] theorem parL_cons {x : Pi} {r : List Pi} {Γa : SEnv} : parL (x :: r) Γ Γa p = (x.f Γ p).then fun d p => parL r (Γ.set x.i .no) (Γa.set x.i (x.sl d)) p := (rfl)
@[simp] theorem sl_t {d : D} {i : Nat} : Pi.sl ⟨i, true, f⟩ d = .own d := (rfl)
@[simp] theorem sl_f {d : D} {i : Nat} : Pi.sl ⟨i, false, f⟩ d = .val d := (rfl)
@[simp] theorem sRaise_ap {x : Str} {ps : List Str} : sRaise x ps fs Γ p = (fs Γ p).then fun ds _ => .exc ⟨x, ps.reverse, ds.reverse⟩ := (rfl)
@[simp] theorem sFor_ap {it : SEnv → M (List D)} {h : D → SEnv → Option SEnv} {cl : List Nat} : sFor it h s cl Γ p = (it Γ p).then fun ds p => forL (turnS h s cl) ds Γ p := (rfl)
@[simp] theorem turnS_ap {h : D → SEnv → Option SEnv} {cl : List Nat} {d : D} : turnS h s cl d Γ p = (opt (h d Γ) p).then fun Γ1 p => (s Γ1 p).then fun r p => .ok ((r.1, clrs cl r.2), p) := (rfl)
@[simp] theorem eLc_ap {vs : List Nat} {it : SEnv → M (List D)} {h : D → SEnv → Option SEnv} : eLc vs it h ft fe Γ p = (it Γ p).then fun ds p => (opt (szD ds) p).then fun ds p => (lcL (stepC h ft fe (clrs vs.reverse Γ)) ds p).then fun rs p => .ok (.lst rs, p) := (rfl)
@[simp] theorem tYesD_ap : tYesD Γ p = .ok (.bl true, p) := (rfl)
def ifO (d : D) (x y : Out (Option D × Pot)) : Out (Option D × Pot) := ifD d x y
@[simp] theorem stepC_ap {h : D → SEnv → Option SEnv} {d : D} : stepC h ft fe Γ d p = (opt (h d Γ) p).then fun Γ1 p => ((ft Γ1 p).nx).then fun b p => ifD b (((fe Γ1 p).nx).then fun r p => .ok (some r, p)) (.ok (none, p)) := by
  refine bind_ext fun _ p => ?_
  refine (bind_ap).trans ?_
  rw [nox_ap]
  refine then_ext fun d p => ?_
  cases d with
  | bl b =>
    cases b
    · rfl
    · show ((M.nox _) >>= _) p = ifD (D.bl true) _ _
      rw [bind_ap, nox_ap]; rfl
  | _ => rfl
@[simp] theorem clrs_nil : clrs [] Γ = Γ := (rfl)
@[simp] theorem clrs_cons {i : Nat} {is : List Nat} : clrs (i :: is) Γ = clrs is (Γ.set i .no) := (rfl)
@[simp] theorem gN_ap {i : Nat} {d : D} : gN i d Γ = some (Γ.set i (.val d)) := (rfl)
@[simp] theorem gs0_ap : gs0 [] Γ = some Γ := (rfl)
@[simp] theorem gs1_ap {a : D → SEnv → Option SEnv} {u : List D → SEnv → Option SEnv} {d : D} {ds : List D} : gs1 a u (d :: ds) Γ = (a d Γ).bind (u ds) := (rfl)
@[simp] theorem gT_ap {u : List D → SEnv → Option SEnv} {ds : List D} : gT u (.tup ds) Γ = u ds Γ := (rfl)
@[simp] theorem valOf_val {d : D} : valOf (some (.val d)) = some d := (rfl)
@[simp] theorem anyOf_val {d : D} : anyOf (some (.val d)) = some d := (rfl)
@[simp] theorem anyOf_own {d : D} : anyOf (some (.own d)) = some d := (rfl)
@[simp] theorem ownL_own {l : List D} : ownL (some (.own (.lst l))) = some l := (rfl)
@[simp] theorem ownOf_own {d : D} : ownOf (some (.own d)) = some d := (rfl)
@[simp] theorem isPot_pot : isPot (some .pot) = some () := (rfl)
@[simp] theorem fnOfS_fn {x : Str} : fnOfS (some (.val (.fn x))) = some x := (rfl)
@[simp] theorem intOf_int {i : Int} : intOf (.int i) = some i := (rfl)
@[simp] theorem sel1 : p.sel 1 = some p.used := (rfl)
@[simp] theorem sel2 : p.sel 2 = some p.mix := (rfl)
@[simp] theorem sel3 : p.sel 3 = some p.great := (rfl)
@[simp] theorem put1 {v : Int} : p.put v 1 = some ⟨p.cells, v, p.mix, p.great⟩ := (rfl)
@[simp] theorem put2 {v : Int} : p.put v 2 = some ⟨p.cells, p.used, v, p.great⟩ := (rfl)
@[simp] theorem put3 {v : Int} : p.put v 3 = some ⟨p.cells, p.used, p.mix, v⟩ := (rfl)
@[simp] theorem itemsT_tup {l : List D} : itemsT (.tup l) = some l := (rfl)
@[simp] theorem itemsT_lst {l : List D} : itemsT (.lst l) = some l := (rfl)
@[simp] theorem lenD_tup {l : List D} : lenD [.tup l] = some (.int l.length) := (rfl)
@[simp] theorem lenD_lst {l : List D} : lenD [.lst l] = some (.int l.length) := (rfl)
@[simp] theorem tupleD_lst {l : List D} : tupleD [.lst l] = some (.tup l) := (rfl)
@[simp] theorem tupleD_tup {l : List D} : tupleD [.tup l] = some (.tup l) := (rfl)
@[simp] theorem listD_lst {l : List D} : listD [.lst l] = some (.lst l) := (rfl)
@[simp] theorem listD_tup {l : List D} : listD [.tup l] = some (.lst l) := (rfl)
@[simp] theorem intD_int {i : Int} : intD [.int i] = some (.int i) := (rfl)
@[simp] theorem absD_int {i : Int} : absD [.int i] = some (.int (if i < 0 then -i else i)) := (rfl)
@[simp] theorem isND_non {d : D} : isND d .non = some (.bl (isNonB d)) := (rfl)
@[simp] theorem notND_non {d : D} : notND d .non = some (.bl (!isNonB d)) := (rfl)
@[simp] theorem isNonB_non : isNonB .non = true := (rfl)
@[simp] theorem isNonB_int {i : Int} : isNonB (.int i) = false := (rfl)
@[simp] theorem isNonB_bl {i : Bool} : isNonB (.bl i) = false := (rfl)
@[simp] theorem isNonB_str {i : Str} : isNonB (.str i) = false := (rfl)
@[simp] theorem isNonB_tup {i : List D} : isNonB (.tup i) = false := (rfl)
@[simp] theorem isNonB_lst {i : List D} : isNonB (.lst i) = false := (rfl)
@[simp] theorem ltD_int {a b : Int} : ltD (.int a) (.int b) = some (.bl (decide (a < b))) := (rfl)
@[simp] theorem leD_int {a b : Int} : leD (.int a) (.int b) = some (.bl (decide (a ≤ b))) := (rfl)
@[simp] theorem gtD_int {a b : Int} : gtD (.int a) (.int b) = some (.bl (decide (b < a))) := (rfl)
@[simp] theorem geD_int {a b : Int} : geD (.int a) (.int b) = some (.bl (decide (b ≤ a))) := (rfl)
@[simp] theorem addA_int {a b : Int} : addA (.int a) (.int b) = some (.int (a + b)) := (rfl)
@[simp] theorem subD_int {a b : Int} : subD (.int a) (.int b) = some (.int (a - b)) := (rfl)
@[simp] theorem addX_int {a b : Int} : addX (.int a) (.int b) = some (.int (a + b)) := (rfl)
@[simp] theorem subX_int {a b : Int} : subX (.int a) (.int b) = some (.int (a - b)) := (rfl)
@[simp] theorem addX_bl {a : Bool} {b : Int} : addX (.bl a) (.int b) = some (.int (bI a + b)) := (rfl)
@[simp] theorem subX_bl {a : Bool} {b : Int} : subX (.bl a) (.int b) = some (.int (bI a - b)) := (rfl)
@[simp] theorem strX_bl {a : Bool} : strX [.bl a] = some (.str (if a then "True" else "False")) := (rfl)
@[simp] theorem negD_int {a : Int} : negD (.int a) = some (.int (-a)) := (rfl)
@[simp] theorem lrng1_ap {n : Nat} (h : n ≤ 16777216) : lrng1 (.int n) = some (.lst (rngI 0 n)) := by
  show (if -(2 ^ 62 : Int) ≤ (n : Int) ∧ (n : Int) ≤ 16777216 then some (D.lst (rngI 0 (n : Int).toNat)) else none) = _
  rw [if_pos (by omega)]; rfl
@[simp] theorem ixD_tup {l : List D} {i : Int} : ixD (.tup l) (.int i) = atI l i := (rfl)
@[simp] theorem ixD_lst {l : List D} {i : Int} : ixD (.lst l) (.int i) = atI l i := (rfl)
theorem atI_natE {α : Type} {l : List α} {i : Nat} : atI l (i : Int) = l[i]? := by
  unfold atI ixN
  rw [if_pos (by omega)]
  by_cases h : i < l.length
  · rw [if_pos (by omega)]; rfl
  · rw [if_neg (by omega), List.getElem?_eq_none (by omega)]; rfl
theorem atI_of {α : Type} {l : List α} {i : Int} (h : 0 ≤ i) : atI l i = l[i.toNat]? := by
  obtain ⟨n, rfl⟩ := Int.eq_ofNat_of_zero_le h
  exact atI_natE
@[simp] theorem atI_0 {α : Type} {a : α} {l : List α} : atI (a :: l) 0 = some a := by
  rw [atI_of (by decide)]; rfl
@[simp] theorem atI_1 {α : Type} {a b : α} {l : List α} : atI (a :: b :: l) 1 = some b := by
  rw [atI_of (by decide)]; rfl
@[simp] theorem atI_2 {α : Type} {a b c : α} {l : List α} : atI (a :: b :: c :: l) 2 = some c := by
  rw [atI_of (by decide)]; rfl
@[simp] theorem atI_3 {α : Type} {a b c d : α} {l : List α} : atI (a :: b :: c :: d :: l) 3 = some d := by
  rw [atI_of (by decide)]; rfl
theorem mkTup_ok {l : List D} (h : l.length ≤ 16777216) : mkTup l = some (.tup l) := by
  unfold mkTup; rw [if_pos (show _ ≤ sizeLine from h)]
theorem mkLst_ok {l : List D} (h : l.length ≤ 16777216) : mkLst l = some (.lst l) := by
  unfold mkLst; rw [if_pos (show _ ≤ sizeLine from h)]
@[simp] theorem mkTup_0 : mkTup [] = some (.tup []) := (rfl)
@[simp] theorem mkLst_0 : mkLst [] = some (.lst []) := (rfl)
@[simp] theorem mkTup_1 {a : D} : mkTup [a] = some (.tup [a]) := mkTup_ok (by show 1 ≤ _; decide)
@[simp] theorem mkTup_2 {a b : D} : mkTup [a, b] = some (.tup [a, b]) := mkTup_ok (by show 2 ≤ _; decide)
@[simp] theorem mkTup_3 {a b c : D} : mkTup [a, b, c] = some (.tup [a, b, c]) := mkTup_ok (by show 3 ≤ _; decide)
@[simp] theorem mkTup_4 {a b c d : D} : mkTup [a, b, c, d] = some (.tup [a, b, c, d]) := mkTup_ok (by show 4 ≤ _; decide)
@[simp] theorem forL_nil {h : D → DS} : forL h [] Γ p = .ok ((.nx, Γ), p) := (rfl)
theorem forL_cons {h : D → DS} {d : D} {l : List D} : forL h (d :: l) Γ p = (h d Γ p).then fun r p => match r.1 with
  | .nx => forL h l r.2 p
  | .ct => forL h l r.2 p
  | .bk => .ok ((.nx, r.2), p)
  | .rt x => .ok ((.rt x, r.2), p) := by
  refine bind_ext fun r p => ?_; obtain ⟨a, b⟩ := r; cases a <;> rfl
@[simp] theorem lcL_nil {h : D → M (Option D)} : lcL h [] p = .ok ([], p) := (rfl)
theorem lcL_cons {h : D → M (Option D)} {d : D} {l : List D} : lcL h (d :: l) p = (h d p).then fun r p => match r with
  | some r => (lcL h l p).then fun rs p => .ok (r :: rs, p)
  | none => lcL h l p := by
  refine bind_ext fun r p => ?_; cases r <;> rfl
/-- what a def's body tells -/
def fin (x : Out ((Fl × SEnv) × Pot)) : Out (D × Pot) := match x with
  | .ok ((.rt d, _), p) => .ok (d, p)
  | .ok ((.nx, _), p) => .ok (.non, p)
  | .exc x => .exc x
  | _ => .bad
@[simp] theorem fin_rt {d : D} : fin (.ok ((.rt d, Γ), p)) = .ok (d, p) := (rfl)
@[simp] theorem fin_nx : fin (.ok ((.nx, Γ), p)) = .ok (.non, p) := (rfl)
@[simp] theorem fin_exc {x : Exc} : fin (.exc x) = .exc x := (rfl)
@[simp] theorem fin_bad : fin (.bad) = .bad := (rfl)
theorem runP_ap {N : Nat} {ds : List D} : runP N s ds = (fin (s (ds.map Sl.val ++ List.replicate (N - ds.length) Sl.no) pot0)).dn := by
  unfold runP fin
  generalize s _ pot0 = x
  cases x with
  | ok y => obtain ⟨⟨a, b⟩, c⟩ := y; cases a <;> rfl
  | exc e => rfl
  | bad => rfl
theorem runQ_ap {N : Nat} {ds : List D} : runQ N s ds p = fin (s (Sl.pot :: (ds.map Sl.val ++ List.replicate (N - (ds.length + 1)) Sl.no)) p) := by
  unfold runQ fin
  generalize s _ p = x
  cases x with
  | ok y => obtain ⟨⟨a, b⟩, c⟩ := y; cases a <;> rfl
  | exc e => rfl
  | bad => rfl
end
end PL

set_option Elab.async false
set_option linter.all false
set_option maxRecDepth 100000
/-! PM2: loops, comprehensions, == of alike data, ranges. -/
namespace PL
open PySem L2
section
variable {p : Pot} {Γ : SEnv}
/-- a loop that goes to its end -/
theorem forL_all {step : D → DS} (I : Nat → SEnv → Pot → Prop) : ∀ (l : List D) (k : Nat), (∀ (i : Nat) (d : D), l[i]? = some d → ∀ Γ p, I (k + i) Γ p → ∃ Γ' p', step d Γ p = .ok ((.nx, Γ'), p') ∧ I (k + i + 1) Γ' p') →
    ∀ Γ p, I k Γ p → ∃ Γ' p', forL step l Γ p = .ok ((.nx, Γ'), p') ∧ I (k + l.length) Γ' p'
  | [], k, _, Γ, p, hI => ⟨Γ, p, rfl, hI⟩
  | d :: l, k, h, Γ, p, hI => by
    obtain ⟨Γ1, p1, e1, i1⟩ := h 0 d rfl Γ p hI
    obtain ⟨Γ2, p2, e2, i2⟩ := forL_all I l (k + 1) (fun i d hd Γ p hI => by
      have := h (i + 1) d (by simpa using hd) Γ p (by rw [show k + (i + 1) = k + 1 + i by omega]; exact hI)
      rw [show k + (i + 1) + 1 = k + 1 + i + 1 by omega] at this
      exact this) Γ1 p1 i1
    refine ⟨Γ2, p2, ?_, by rw [show k + (d :: l).length = k + 1 + l.length by simp; omega]; exact i2⟩
    rw [forL_cons, e1]
    exact e2
theorem forL_step {step : D → DS} {d : D} {l : List D} {Γ Γ' : SEnv} {p p' : Pot} (h : step d Γ p = .ok ((.nx, Γ'), p')) : forL step (d :: l) Γ p = forL step l Γ' p' := by
  rw [forL_cons, h]; rfl
theorem lcL_some {h : D → M (Option D)} {d r : D} {l rs : List D} {p p' p2 : Pot} (e : h d p = .ok (some r, p')) (e2 : lcL h l p' = .ok (rs, p2)) : lcL h (d :: l) p = .ok (r :: rs, p2) := by
  rw [lcL_cons, e]; show (lcL h l p').then _ = _; rw [e2]; rfl
theorem lcL_none {h : D → M (Option D)} {d : D} {l rs : List D} {p p' p2 : Pot} (e : h d p = .ok (none, p')) (e2 : lcL h l p' = .ok (rs, p2)) : lcL h (d :: l) p = .ok (rs, p2) := by
  rw [lcL_cons, e]; exact e2
theorem lcL_pure {h : D → M (Option D)} {g : D → Option D} : ∀ (l : List D), (∀ d ∈ l, ∀ p, h d p = .ok (g d, p)) → ∀ p, lcL h l p = .ok (l.filterMap g, p)
  | [], _, p => rfl
  | d :: l, hh, p => by
    rw [lcL_cons, hh d (by simp) p]
    have ih := lcL_pure l (fun d hd => hh d (by simp [hd])) p
    cases e : g d with
    | none => simp [e, ih]
    | some r => simp [e, ih]
theorem lcL_map {h : D → M (Option D)} {g : D → D} : ∀ (l : List D), (∀ d ∈ l, ∀ p, h d p = .ok (some (g d), p)) → ∀ p, lcL h l p = .ok (l.map g, p)
  | [], _, p => rfl
  | d :: l, hh, p => lcL_some (hh d (by simp) p) (lcL_map l (fun d hd => hh d (by simp [hd])) p)
theorem lcL_pot {h : D → M (Option D)} {I : Pot → Prop} {J : D → Prop} : ∀ (l : List D), (∀ d ∈ l, ∀ p, I p → ∃ r p', h d p = .ok (some r, p') ∧ J r ∧ I p') → ∀ p, I p → ∃ rs p', lcL h l p = .ok (rs, p') ∧ rs.length = l.length ∧ (∀ r ∈ rs, J r) ∧ I p'
  | [], _, p, hp => ⟨[], p, rfl, rfl, by simp, hp⟩
  | d :: l, hh, p, hp => by
    obtain ⟨r, p1, e1, j1, i1⟩ := hh d (by simp) p hp
    obtain ⟨rs, p2, e2, n2, j2, i2⟩ := lcL_pot l (fun d hd => hh d (by simp [hd])) p1 i1
    refine ⟨r :: rs, p2, ?_, by simp [n2], ?_, i2⟩
    · rw [lcL_cons, e1]; simp [e2]
    · intro x hx
      rcases List.mem_cons.mp hx with rfl | hx
      · exact j1
      · exact j2 x hx
@[simp] theorem rngI_length {lo : Int} {n : Nat} : (rngI lo n).length = n := by simp [rngI]
theorem rngI_get {lo : Int} {n i : Nat} {d : D} (h : (rngI lo n)[i]? = some d) : i < n ∧ d = .int (lo + i) := by
  unfold rngI at h
  rw [List.getElem?_map] at h
  by_cases hi : i < n
  · rw [List.getElem?_range hi] at h
    exact ⟨hi, (Option.some.inj h).symm⟩
  · rw [List.getElem?_eq_none (by simp; omega)] at h; cases h
theorem rngI_mem {lo : Int} {n : Nat} {d : D} (h : d ∈ rngI lo n) : ∃ i : Nat, i < n ∧ d = .int (lo + i) := by
  obtain ⟨i, e⟩ := List.getElem?_of_mem h
  exact ⟨i, rngI_get e⟩
theorem rng1_nat {n : Nat} (h : n ≤ 16777216) : rng1 [.int n] = some (rngI 0 n) := by
  unfold rng1
  dsimp only
  rw [if_pos (by omega), Int.toNat_natCast]
theorem szD_ok {l : List D} (h : l.length ≤ 16777216) : szD l = some l := by
  unfold szD; rw [if_pos (show _ ≤ sizeLine from h)]
theorem enumL_at : ∀ {l : List D} {k i : Nat} {d : D}, (enumL k l)[i]? = some d → ∃ x, l[i]? = some x ∧ d = .tup [.int ((k + i : Nat) : Int), x]
  | [], _, _, _, h => by simp [enumL] at h
  | x :: l, k, 0, d, h => by
    have h : some (D.tup [.int (k : Int), x]) = some d := h
    exact ⟨x, rfl, (Option.some.inj h).symm⟩
  | x :: l, k, i + 1, d, h => by
    obtain ⟨y, e1, e2⟩ := enumL_at (l := l) (k := k + 1) (i := i) (d := d) h
    exact ⟨y, e1, by rw [e2, show k + 1 + i = k + (i + 1) by omega]⟩
end
/-! ### alike data -/
mutual
def okD : Nat → D → Bool
  | _, .non => true
  | _, .bl _ => true
  | _, .int _ => true
  | _, .str x => PyData.strOk x
  | 0, .tup _ => false
  | 0, .lst _ => false
  | n + 1, .tup l => decide (l.length ≤ 16777216) && okDs n l
  | n + 1, .lst l => decide (l.length ≤ 16777216) && okDs n l
  | _, .dct _ _ => false
  | _, .ins _ _ _ => false
  | _, .fn _ => false
  | _, .ext _ _ _ _ => false
def okDs : Nat → List D → Bool
  | _, [] => true
  | n, d :: l => okD n d && okDs n l
end
mutual
theorem okD_py : ∀ (n : Nat) (d : D), okD n d = true → ∃ x, toPy d = some x ∧ x.canLay0 = true ∧ x.depth ≤ n
  | n, .non, _ => ⟨_, rfl, rfl, Nat.zero_le _⟩
  | n, .bl b, _ => ⟨_, rfl, rfl, Nat.zero_le _⟩
  | n, .int b, _ => ⟨_, rfl, rfl, Nat.zero_le _⟩
  | n, .str x, h => ⟨.str x, rfl, by unfold okD at h; unfold PyData.canLay0; exact h, Nat.zero_le _⟩
  | n + 1, .tup l, h => by
    unfold okD at h
    obtain ⟨xs, e, c, dd⟩ := okDs_py n l (Bool.and_eq_true_iff.mp h).2
    exact ⟨.tuple xs, by unfold toPy; rw [e]; rfl, by unfold PyData.canLay0; exact c, by unfold PyData.depth; omega⟩
  | n + 1, .lst l, h => by
    unfold okD at h
    obtain ⟨xs, e, c, dd⟩ := okDs_py n l (Bool.and_eq_true_iff.mp h).2
    exact ⟨.list xs, by unfold toPy; rw [e]; rfl, by unfold PyData.canLay0; exact c, by unfold PyData.depth; omega⟩
  | 0, .tup l, h => by unfold okD at h; cases h
  | 0, .lst l, h => by unfold okD at h; cases h
  | 0, .dct _ _, h => by unfold okD at h; cases h
  | 0, .ins _ _ _, h => by unfold okD at h; cases h
  | 0, .fn _, h => by unfold okD at h; cases h
  | 0, .ext _ _ _ _, h => by unfold okD at h; cases h
  | _ + 1, .dct _ _, h => by unfold okD at h; cases h
  | _ + 1, .ins _ _ _, h => by unfold okD at h; cases h
  | _ + 1, .fn _, h => by unfold okD at h; cases h
  | _ + 1, .ext _ _ _ _, h => by unfold okD at h; cases h
theorem okDs_py : ∀ (n : Nat) (l : List D), okDs n l = true → ∃ xs, toPys l = some xs ∧ PyData.canLayAll0 xs = true ∧ PyData.depthAll xs ≤ n
  | n, [], _ => ⟨[], rfl, rfl, Nat.zero_le _⟩
  | n, d :: l, h => by
    unfold okDs at h
    obtain ⟨h1, h2⟩ := Bool.and_eq_true_iff.mp h
    obtain ⟨x, e1, c1, d1⟩ := okD_py n d h1
    obtain ⟨xs, e2, c2, d2⟩ := okDs_py n l h2
    exact ⟨x :: xs, by unfold toPys; rw [e1, e2], by unfold PyData.canLayAll0; rw [c1, c2]; rfl, by unfold PyData.depthAll; omega⟩
end
mutual
theorem eqv_rfl : ∀ x : PyData, x.canLay0 = true → PyData.eqv x x = true
  | .none, _ => rfl
  | .bool b, _ => by simp [PyData.eqv]
  | .int b, _ => by simp [PyData.eqv]
  | .str b, _ => by simp [PyData.eqv]
  | .list xs, h => by unfold PyData.canLay0 at h; unfold PyData.eqv; exact eqvAll_rfl xs h
  | .tuple xs, h => by unfold PyData.canLay0 at h; unfold PyData.eqv; exact eqvAll_rfl xs h
  | .dict _, h => by unfold PyData.canLay0 at h; cases h
theorem eqvAll_rfl : ∀ x : List PyData, PyData.canLayAll0 x = true → PyData.eqvAll x x = true
  | [], _ => rfl
  | x :: xs, h => by
    unfold PyData.canLayAll0 at h
    obtain ⟨h1, h2⟩ := Bool.and_eq_true_iff.mp h
    unfold PyData.eqvAll; rw [eqv_rfl x h1, eqvAll_rfl xs h2]; rfl
end
theorem eqB_py {n m : Nat} {d e : D} (h : okD n d = true) (g : okD m e = true) (hn : n ≤ 64) (hm : m ≤ 64) : ∃ x y, toPy d = some x ∧ toPy e = some y ∧ x.canLay0 = true ∧ eqB d e = some (PyData.eqv x y) := by
  obtain ⟨x, e1, c1, d1⟩ := okD_py n d h
  obtain ⟨y, e2, c2, d2⟩ := okD_py m e g
  refine ⟨x, y, e1, e2, c1, ?_⟩
  have s1 : SeqAt.shaped x = true := by unfold SeqAt.shaped; rw [c1, decide_eq_true (by omega)]; rfl
  have s2 : SeqAt.shaped y = true := by unfold SeqAt.shaped; rw [c2, decide_eq_true (by omega)]; rfl
  unfold eqB
  split
  · cases e1; cases e2; simp only [PyData.eqv]; congr 1
  · cases e1; cases e2; simp only [PyData.eqv]; congr 1
  · rw [e1, e2]; simp [s1, s2]
theorem eqD_self {n : Nat} {d : D} (h : okD n d = true) (hn : n ≤ 64) : eqD d d = some (.bl true) := by
  obtain ⟨x, y, e1, e2, c, e⟩ := eqB_py h h hn hn
  rw [e1] at e2; cases e2
  unfold eqD; rw [e, eqv_rfl x c]; rfl
theorem neD_self {n : Nat} {d : D} (h : okD n d = true) (hn : n ≤ 64) : neD d d = some (.bl false) := by
  obtain ⟨x, y, e1, e2, c, e⟩ := eqB_py h h hn hn
  rw [e1] at e2; cases e2
  unfold neD; rw [e, eqv_rfl x c]; rfl
/-- a list against the empty one -/
theorem eqD_lnil {n : Nat} {l : List D} (h : okDs n l = true) (hl : l.length ≤ 16777216) (hn : n < 64) : eqD (.lst l) (.lst []) = some (.bl l.isEmpty) := by
  obtain ⟨x, y, e1, e2, c, e⟩ := eqB_py (n := n + 1) (m := 1) (d := .lst l) (e := .lst []) (by unfold okD; rw [h, decide_eq_true hl]; rfl) rfl (by omega) (by omega)
  unfold eqD; rw [e]
  obtain ⟨xs, e3, _, _⟩ := okDs_py n l h
  unfold toPy at e1 e2
  rw [e3] at e1; cases e1; cases e2
  cases l with
  | nil => cases e3; rfl
  | cons d l =>
    unfold toPys at e3
    split at e3
    · cases e3; rfl
    · cases e3
theorem neD_lnil {n : Nat} {l : List D} (h : okDs n l = true) (hl : l.length ≤ 16777216) (hn : n < 64) : neD (.lst l) (.lst []) = some (.bl !l.isEmpty) := by
  have := eqD_lnil h hl hn
  unfold eqD at this; unfold neD
  cases q : eqB (.lst l) (.lst []) with
  | none => rw [q] at this; cases this
  | some b => rw [q] at this; cases this; rfl
theorem okDs_iff {n : Nat} : ∀ {l : List D}, okDs n l = true ↔ ∀ d ∈ l, okD n d = true
  | [] => by simp [okDs]
  | d :: l => by unfold okDs; rw [Bool.and_eq_true_iff, okDs_iff (l := l)]; simp
theorem okD_tup0 {l : List D} : okD 0 (.tup l) = false := by unfold okD; rfl
theorem okD_lst0 {l : List D} : okD 0 (.lst l) = false := by unfold okD; rfl
theorem okD_dct {n : Nat} {l m : List D} : okD n (.dct l m) = false := by cases n <;> (unfold okD; rfl)
theorem okD_ins {n : Nat} {c : Str} {l : List Str} {m : List D} : okD n (.ins c l m) = false := by cases n <;> (unfold okD; rfl)
theorem okD_fn {n : Nat} {c : Str} : okD n (.fn c) = false := by cases n <;> (unfold okD; rfl)
theorem okD_ext {n t : Nat} {c : Str} {l : List Str} {m : List D} : okD n (.ext t c l m) = false := by cases n <;> (unfold okD; rfl)
theorem okD_non {n : Nat} : okD n .non = true := by cases n <;> (unfold okD; rfl)
theorem okD_bl {n : Nat} {b : Bool} : okD n (.bl b) = true := by cases n <;> (unfold okD; rfl)
theorem okD_int {n : Nat} {b : Int} : okD n (.int b) = true := by cases n <;> (unfold okD; rfl)
theorem okD_str {n : Nat} {b : Str} : okD n (.str b) = PyData.strOk b := by cases n <;> (unfold okD; rfl)
theorem okD_tup {n : Nat} {l : List D} : okD (n + 1) (.tup l) = true ↔ l.length ≤ 16777216 ∧ ∀ d ∈ l, okD n d = true := by
  show (decide (l.length ≤ 16777216) && okDs n l) = true ↔ _
  rw [Bool.and_eq_true_iff, okDs_iff, decide_eq_true_iff]
theorem okD_lst {n : Nat} {l : List D} : okD (n + 1) (.lst l) = true ↔ l.length ≤ 16777216 ∧ ∀ d ∈ l, okD n d = true := by
  show (decide (l.length ≤ 16777216) && okDs n l) = true ↔ _
  rw [Bool.and_eq_true_iff, okDs_iff, decide_eq_true_iff]
mutual
theorem okD_mono : ∀ (n m : Nat) (d : D), n ≤ m → okD n d = true → okD m d = true
  | n, m, .non, _, _ => by cases m <;> rfl
  | n, m, .bl b, _, _ => by cases m <;> rfl
  | n, m, .int b, _, _ => by cases m <;> rfl
  | n, m, .str x, _, h => by unfold okD at h ⊢; exact h
  | n + 1, m + 1, .tup l, hm, h => by
    unfold okD at h ⊢
    rw [Bool.and_eq_true_iff] at h ⊢
    exact ⟨h.1, okDs_mono n m l (by omega) h.2⟩
  | n + 1, m + 1, .lst l, hm, h => by
    unfold okD at h ⊢
    rw [Bool.and_eq_true_iff] at h ⊢
    exact ⟨h.1, okDs_mono n m l (by omega) h.2⟩
  | n + 1, 0, .tup l, hm, h => by omega
  | n + 1, 0, .lst l, hm, h => by omega
  | 0, _, .tup l, _, h => by unfold okD at h; cases h
  | 0, _, .lst l, _, h => by unfold okD at h; cases h
  | 0, _, .dct _ _, _, h => by unfold okD at h; cases h
  | 0, _, .ins _ _ _, _, h => by unfold okD at h; cases h
  | 0, _, .fn _, _, h => by unfold okD at h; cases h
  | 0, _, .ext _ _ _ _, _, h => by unfold okD at h; cases h
  | _ + 1, _, .dct _ _, _, h => by unfold okD at h; cases h
  | _ + 1, _, .ins _ _ _, _, h => by unfold okD at h; cases h
  | _ + 1, _, .fn _, _, h => by unfold okD at h; cases h
  | _ + 1, _, .ext _ _ _ _, _, h => by unfold okD at h; cases h
theorem okDs_mono : ∀ (n m : Nat) (l : List D), n ≤ m → okDs n l = true → okDs m l = true
  | n, m, [], _, _ => by cases m <;> rfl
  | n, m, d :: l, hm, h => by
    unfold okDs at h ⊢
    obtain ⟨h1, h2⟩ := Bool.and_eq_true_iff.mp h
    rw [okD_mono n m d hm h1, okDs_mono n m l hm h2]; rfl
end
theorem eqD_is {i : Int} {x : Str} (h : PyData.strOk x = true) : eqD (.int i) (.str x) = some (.bl false) := by
  obtain ⟨a, b, e1, e2, _, e⟩ := eqB_py (n := 0) (m := 0) (d := .int i) (e := .str x) okD_int (by rw [okD_str]; exact h) (by omega) (by omega)
  cases e1; cases e2
  unfold eqD; rw [e]; simp [PyData.eqv]
theorem eqD_ns {x : Str} (h : PyData.strOk x = true) : eqD .non (.str x) = some (.bl false) := by
  obtain ⟨a, b, e1, e2, _, e⟩ := eqB_py (n := 0) (m := 0) (d := .non) (e := .str x) okD_non (by rw [okD_str]; exact h) (by omega) (by omega)
  cases e1; cases e2
  unfold eqD; rw [e]; simp [PyData.eqv]
/-! ### lists -/
theorem setset {l : List D} {i : Nat} {d : D} (h : i < l.length) : l.take i ++ d :: l.drop (i + 1) = l.set i d := by
  rw [List.set_eq_take_append_cons_drop, if_pos h]
theorem cut_lo {l : List D} {i : Nat} (h : i ≤ l.length) : cutL l (some (i : Int)) none = l.drop i := by
  unfold cutL
  rw [HT.sIx_nat, HT.sIx_none, Nat.min_eq_left h, List.take_of_length_le (by simp)]
theorem cut_hi {l : List D} {i : Nat} (h : i ≤ l.length) : cutL l none (some (i : Int)) = l.take i := by
  unfold cutL
  rw [HT.sIx_nat, HT.sIx_none, Nat.min_eq_left h, List.drop_zero, Nat.sub_zero]
@[simp] theorem slA_tup {l : List D} {lo hi : Option Int} : slA (.tup l) lo hi = some (.tup (cutL l lo hi)) := (rfl)
@[simp] theorem slA_lst {l : List D} {lo hi : Option Int} : slA (.lst l) lo hi = some (.lst (cutL l lo hi)) := (rfl)
theorem addA_tup {a b : List D} (h : a.length + b.length ≤ 16777216) : addA (.tup a) (.tup b) = some (.tup (a ++ b)) := by
  have : addD (.tup a) (.tup b) = some (.tup (a ++ b)) := if_pos (show _ ≤ sizeLine from h)
  unfold addA; rw [this]
theorem addA_lst {a b : List D} (h : a.length + b.length ≤ 16777216) : addA (.lst a) (.lst b) = some (.lst (a ++ b)) := by
  have : addL (.lst a) (.lst b) = some (.lst (a ++ b)) := if_pos (show _ ≤ sizeLine from h)
  show addL (.lst a) (.lst b) = _
  exact this
theorem addX_tup {a b : List D} (h : a.length + b.length ≤ 16777216) : addX (.tup a) (.tup b) = some (.tup (a ++ b)) := addA_tup h
theorem addX_lst {a b : List D} (h : a.length + b.length ≤ 16777216) : addX (.lst a) (.lst b) = some (.lst (a ++ b)) := addA_lst h
theorem mulB_tup {l : List D} {k : Int} (h0 : 0 ≤ k) (h : k ≤ 1000) (hl : l.length ≤ 1000) : mulB (.tup l) (.int k) = some (.tup (List.replicate k.toNat l).flatten) := by
  have : mulT (.tup l) (.int k) = some (.tup (List.replicate k.toNat l).flatten) := by
    show (if -(2 ^ 63 : Int) ≤ k ∧ k < 2 ^ 63 then _ else _) = _
    rw [if_pos (by omega)]
    split
    · rename_i h1
      rcases h1 with h1 | rfl
      · rw [List.isEmpty_iff.mp h1]; simp
      · simp
    · split
      · rename_i h2
        have : k = 0 := by omega
        subst this; simp
      · rw [if_pos ⟨h, hl⟩]
  unfold mulB; rw [this]
theorem allBl_map {α : Type} (f : α → Bool) : ∀ l : List α, allBl (l.map fun x => D.bl (f x)) = some (l.map f)
  | [] => rfl
  | x :: l => by simp [allBl, allBl_map f l]
theorem allD_map {α : Type} (f : α → Bool) (l : List α) : allD [.lst (l.map fun x => D.bl (f x))] = some (.bl (l.all f)) := by
  show (allBl _).map _ = _
  rw [allBl_map]; simp
end PL

set_option Elab.async false
set_option linter.all false
set_option maxRecDepth 100000
set_option maxHeartbeats 4000000
namespace G
open PySem L2 PL
variable [TabL]
def qL : Str := ("law" : Str) ++ ".<locals>." ++ "<lambda>"
def csL : List Str := [Str.ofString "BadProgram", Str.ofString "BadText", Str.ofString "BadNumber", Str.ofString "NoColour", Str.ofString "NoStanding", Str.ofString "NoVisit", Str.ofString "NoOrder", Str.ofString "NoWord", Str.ofString "NoFit", Str.ofString "TooMany"]
def topS (i : Nat) : Stmt := PySem.Challenge.pw_lampfolk_k00_errors_alone.main.body.getD i (.Pass ⟨0, 0, 0, 0⟩)
def clsL : List Str := []
def xcL : List Str := [Str.ofString "BadProgram", Str.ofString "BadText", Str.ofString "BadNumber", Str.ofString "NoColour", Str.ofString "NoStanding", Str.ofString "NoVisit", Str.ofString "NoOrder", Str.ofString "NoWord", Str.ofString "NoFit", Str.ofString "TooMany", Str.ofString "LampError"]
def tb_BadProgram : List (Str × Bool) := [(Str.ofString "BadProgram", true), (Str.ofString "BadText", false), (Str.ofString "BadNumber", false), (Str.ofString "NoColour", false), (Str.ofString "NoStanding", false), (Str.ofString "NoVisit", false), (Str.ofString "NoOrder", false), (Str.ofString "NoWord", false), (Str.ofString "NoFit", false), (Str.ofString "TooMany", false), (Str.ofString "LampError", false)]
def tb_BadText : List (Str × Bool) := [(Str.ofString "BadProgram", false), (Str.ofString "BadText", true), (Str.ofString "BadNumber", false), (Str.ofString "NoColour", false), (Str.ofString "NoStanding", false), (Str.ofString "NoVisit", false), (Str.ofString "NoOrder", false), (Str.ofString "NoWord", false), (Str.ofString "NoFit", false), (Str.ofString "TooMany", false), (Str.ofString "LampError", false)]
def tb_BadNumber : List (Str × Bool) := [(Str.ofString "BadProgram", false), (Str.ofString "BadText", false), (Str.ofString "BadNumber", true), (Str.ofString "NoColour", false), (Str.ofString "NoStanding", false), (Str.ofString "NoVisit", false), (Str.ofString "NoOrder", false), (Str.ofString "NoWord", false), (Str.ofString "NoFit", false), (Str.ofString "TooMany", false), (Str.ofString "LampError", false)]
def tb_NoColour : List (Str × Bool) := [(Str.ofString "BadProgram", false), (Str.ofString "BadText", false), (Str.ofString "BadNumber", false), (Str.ofString "NoColour", true), (Str.ofString "NoStanding", false), (Str.ofString "NoVisit", false), (Str.ofString "NoOrder", false), (Str.ofString "NoWord", false), (Str.ofString "NoFit", false), (Str.ofString "TooMany", false), (Str.ofString "LampError", false)]
def tb_NoStanding : List (Str × Bool) := [(Str.ofString "BadProgram", false), (Str.ofString "BadText", false), (Str.ofString "BadNumber", false), (Str.ofString "NoColour", false), (Str.ofString "NoStanding", true), (Str.ofString "NoVisit", false), (Str.ofString "NoOrder", false), (Str.ofString "NoWord", false), (Str.ofString "NoFit", false), (Str.ofString "TooMany", false), (Str.ofString "LampError", false)]
def tb_NoVisit : List (Str × Bool) := [(Str.ofString "BadProgram", false), (Str.ofString "BadText", false), (Str.ofString "BadNumber", false), (Str.ofString "NoColour", false), (Str.ofString "NoStanding", false), (Str.ofString "NoVisit", true), (Str.ofString "NoOrder", false), (Str.ofString "NoWord", false), (Str.ofString "NoFit", false), (Str.ofString "TooMany", false), (Str.ofString "LampError", false)]
def tb_NoOrder : List (Str × Bool) := [(Str.ofString "BadProgram", false), (Str.ofString "BadText", false), (Str.ofString "BadNumber", false), (Str.ofString "NoColour", false), (Str.ofString "NoStanding", false), (Str.ofString "NoVisit", false), (Str.ofString "NoOrder", true), (Str.ofString "NoWord", false), (Str.ofString "NoFit", false), (Str.ofString "TooMany", false), (Str.ofString "LampError", false)]
def tb_NoWord : List (Str × Bool) := [(Str.ofString "BadProgram", false), (Str.ofString "BadText", false), (Str.ofString "BadNumber", false), (Str.ofString "NoColour", false), (Str.ofString "NoStanding", false), (Str.ofString "NoVisit", false), (Str.ofString "NoOrder", false), (Str.ofString "NoWord", true), (Str.ofString "NoFit", false), (Str.ofString "TooMany", false), (Str.ofString "LampError", false)]
def tb_NoFit : List (Str × Bool) := [(Str.ofString "BadProgram", false), (Str.ofString "BadText", false), (Str.ofString "BadNumber", false), (Str.ofString "NoColour", false), (Str.ofString "NoStanding", false), (Str.ofString "NoVisit", false), (Str.ofString "NoOrder", false), (Str.ofString "NoWord", false), (Str.ofString "NoFit", true), (Str.ofString "TooMany", false), (Str.ofString "LampError", false)]
def tb_TooMany : List (Str × Bool) := [(Str.ofString "BadProgram", false), (Str.ofString "BadText", false), (Str.ofString "BadNumber", false), (Str.ofString "NoColour", false), (Str.ofString "NoStanding", false), (Str.ofString "NoVisit", false), (Str.ofString "NoOrder", false), (Str.ofString "NoWord", false), (Str.ofString "NoFit", false), (Str.ofString "TooMany", true), (Str.ofString "LampError", false)]
def tb_LampError : List (Str × Bool) := [(Str.ofString "BadProgram", true), (Str.ofString "BadText", true), (Str.ofString "BadNumber", true), (Str.ofString "NoColour", true), (Str.ofString "NoStanding", true), (Str.ofString "NoVisit", true), (Str.ofString "NoOrder", true), (Str.ofString "NoWord", true), (Str.ofString "NoFit", true), (Str.ofString "TooMany", true), (Str.ofString "LampError", true)]
def tb_ValueError : List (Str × Bool) := [(Str.ofString "BadProgram", true), (Str.ofString "BadText", true), (Str.ofString "BadNumber", true), (Str.ofString "NoColour", true), (Str.ofString "NoStanding", true), (Str.ofString "NoVisit", true), (Str.ofString "NoOrder", true), (Str.ofString "NoWord", true), (Str.ofString "NoFit", true), (Str.ofString "TooMany", true), (Str.ofString "LampError", true)]

abbrev s_BadProgram_init : Stmt := inClass (topS 2) 0
theorem xk_BadProgram {P : Program} {w : World} {K : PySem.W.Frag} {mg : Str → Option Value} {base : Heap} {C fI cc cda : Addr} {fd : FuncData} (XF : XcF P K mg "BadProgram" s_BadProgram_init [Str.ofString "what"] C fI cc cda fd) (hno0 : PySem.W.findIn K (.ref C) "what" = some none) : Xc ⟨P, w, K, mg⟩ base 1 "BadProgram" [Str.ofString "what"] :=
  ⟨_, _, _, _, _, _, XF, ok_x1 XF (NdefX.nscope_by (N := [Str.ofString "self", Str.ofString "what", Str.ofString "__class__"]) (by decide +kernel)) rfl rfl rfl rfl (fun env => ⟨_, rfl⟩) hno0 (by decide) (by decide)⟩

abbrev s_BadText_init : Stmt := inClass (topS 3) 0
theorem xk_BadText {P : Program} {w : World} {K : PySem.W.Frag} {mg : Str → Option Value} {base : Heap} {C fI cc cda : Addr} {fd : FuncData} (XF : XcF P K mg "BadText" s_BadText_init [Str.ofString "line", Str.ofString "what"] C fI cc cda fd) (hno0 : PySem.W.findIn K (.ref C) "line" = some none) (hno1 : PySem.W.findIn K (.ref C) "what" = some none) : Xc ⟨P, w, K, mg⟩ base 1 "BadText" [Str.ofString "line", Str.ofString "what"] :=
  ⟨_, _, _, _, _, _, XF, ok_x2 XF (NdefX.nscope_by (N := [Str.ofString "self", Str.ofString "line", Str.ofString "what", Str.ofString "__class__"]) (by decide +kernel)) rfl rfl rfl rfl (fun env => ⟨_, rfl⟩) hno0 hno1 (by decide) (by decide) (by decide) (by decide)⟩

abbrev s_BadNumber_init : Stmt := inClass (topS 4) 0
theorem xk_BadNumber {P : Program} {w : World} {K : PySem.W.Frag} {mg : Str → Option Value} {base : Heap} {C fI cc cda : Addr} {fd : FuncData} (XF : XcF P K mg "BadNumber" s_BadNumber_init [Str.ofString "value"] C fI cc cda fd) (hno0 : PySem.W.findIn K (.ref C) "value" = some none) : Xc ⟨P, w, K, mg⟩ base 1 "BadNumber" [Str.ofString "value"] :=
  ⟨_, _, _, _, _, _, XF, ok_x1 XF (NdefX.nscope_by (N := [Str.ofString "self", Str.ofString "value", Str.ofString "__class__"]) (by decide +kernel)) rfl rfl rfl rfl (fun env => ⟨_, rfl⟩) hno0 (by decide) (by decide)⟩

abbrev s_NoColour_init : Stmt := inClass (topS 5) 0
theorem xk_NoColour {P : Program} {w : World} {K : PySem.W.Frag} {mg : Str → Option Value} {base : Heap} {C fI cc cda : Addr} {fd : FuncData} (XF : XcF P K mg "NoColour" s_NoColour_init [] C fI cc cda fd) : Xc ⟨P, w, K, mg⟩ base 1 "NoColour" [] :=
  ⟨_, _, _, _, _, _, XF, ok_x0 XF (NdefX.nscope_by (N := [Str.ofString "self", Str.ofString "__class__"]) (by decide +kernel)) rfl rfl rfl rfl (fun env => ⟨_, rfl⟩)⟩

abbrev s_NoStanding_init : Stmt := inClass (topS 6) 0
theorem xk_NoStanding {P : Program} {w : World} {K : PySem.W.Frag} {mg : Str → Option Value} {base : Heap} {C fI cc cda : Addr} {fd : FuncData} (XF : XcF P K mg "NoStanding" s_NoStanding_init [] C fI cc cda fd) : Xc ⟨P, w, K, mg⟩ base 1 "NoStanding" [] :=
  ⟨_, _, _, _, _, _, XF, ok_x0 XF (NdefX.nscope_by (N := [Str.ofString "self", Str.ofString "__class__"]) (by decide +kernel)) rfl rfl rfl rfl (fun env => ⟨_, rfl⟩)⟩

abbrev s_NoVisit_init : Stmt := inClass (topS 7) 0
theorem xk_NoVisit {P : Program} {w : World} {K : PySem.W.Frag} {mg : Str → Option Value} {base : Heap} {C fI cc cda : Addr} {fd : FuncData} (XF : XcF P K mg "NoVisit" s_NoVisit_init [] C fI cc cda fd) : Xc ⟨P, w, K, mg⟩ base 1 "NoVisit" [] :=
  ⟨_, _, _, _, _, _, XF, ok_x0 XF (NdefX.nscope_by (N := [Str.ofString "self", Str.ofString "__class__"]) (by decide +kernel)) rfl rfl rfl rfl (fun env => ⟨_, rfl⟩)⟩

abbrev s_NoOrder_init : Stmt := inClass (topS 8) 0
theorem xk_NoOrder {P : Program} {w : World} {K : PySem.W.Frag} {mg : Str → Option Value} {base : Heap} {C fI cc cda : Addr} {fd : FuncData} (XF : XcF P K mg "NoOrder" s_NoOrder_init [Str.ofString "at"] C fI cc cda fd) (hno0 : PySem.W.findIn K (.ref C) "at" = some none) : Xc ⟨P, w, K, mg⟩ base 1 "NoOrder" [Str.ofString "at"] :=
  ⟨_, _, _, _, _, _, XF, ok_x1 XF (NdefX.nscope_by (N := [Str.ofString "self", Str.ofString "at", Str.ofString "__class__"]) (by decide +kernel)) rfl rfl rfl rfl (fun env => ⟨_, rfl⟩) hno0 (by decide) (by decide)⟩

abbrev s_NoWord_init : Stmt := inClass (topS 9) 0
theorem xk_NoWord {P : Program} {w : World} {K : PySem.W.Frag} {mg : Str → Option Value} {base : Heap} {C fI cc cda : Addr} {fd : FuncData} (XF : XcF P K mg "NoWord" s_NoWord_init [] C fI cc cda fd) : Xc ⟨P, w, K, mg⟩ base 1 "NoWord" [] :=
  ⟨_, _, _, _, _, _, XF, ok_x0 XF (NdefX.nscope_by (N := [Str.ofString "self", Str.ofString "__class__"]) (by decide +kernel)) rfl rfl rfl rfl (fun env => ⟨_, rfl⟩)⟩

abbrev s_NoFit_init : Stmt := inClass (topS 10) 0
theorem xk_NoFit {P : Program} {w : World} {K : PySem.W.Frag} {mg : Str → Option Value} {base : Heap} {C fI cc cda : Addr} {fd : FuncData} (XF : XcF P K mg "NoFit" s_NoFit_init [] C fI cc cda fd) : Xc ⟨P, w, K, mg⟩ base 1 "NoFit" [] :=
  ⟨_, _, _, _, _, _, XF, ok_x0 XF (NdefX.nscope_by (N := [Str.ofString "self", Str.ofString "__class__"]) (by decide +kernel)) rfl rfl rfl rfl (fun env => ⟨_, rfl⟩)⟩

abbrev s_TooMany_init : Stmt := inClass (topS 11) 0
theorem xk_TooMany {P : Program} {w : World} {K : PySem.W.Frag} {mg : Str → Option Value} {base : Heap} {C fI cc cda : Addr} {fd : FuncData} (XF : XcF P K mg "TooMany" s_TooMany_init [Str.ofString "most"] C fI cc cda fd) (hno0 : PySem.W.findIn K (.ref C) "most" = some none) : Xc ⟨P, w, K, mg⟩ base 1 "TooMany" [Str.ofString "most"] :=
  ⟨_, _, _, _, _, _, XF, ok_x1 XF (NdefX.nscope_by (N := [Str.ofString "self", Str.ofString "most", Str.ofString "__class__"]) (by decide +kernel)) rfl rfl rfl rfl (fun env => ⟨_, rfl⟩) hno0 (by decide) (by decide)⟩

abbrev s__law_pot : Stmt := topS 13
theorem sc__law_pot : FnScope [Str.ofString "script", Str.ofString "cell"] [Str.ofString "script"] (defScope s__law_pot) := ⟨rfl, rfl, rfl, by decide +kernel, rfl, by decide +kernel, by decide +kernel⟩
noncomputable def c__law_pot_1 : SEnv → M D :=
  eCall absD (eCons (eVarB 1) (eNil))
noncomputable def d__law_pot : DS :=
  sRet (eLst (eCons (eLc [1] (eItems itemsT (eScrSl 0 63)) (gN 1) (tYesD) (c__law_pot_1)) (eCons (eC (.int 0)) (eCons (eC (.int 20011)) (eCons (eC (.int 0)) (eNil))))))
noncomputable def m__law_pot : List Int → Out D := runS 2 d__law_pot
theorem ok__law_pot {P : Program} {w : World} {K : PySem.W.Frag} {mg : Str → Option Value} {base : Heap} (D : DefE K mg "_law_pot" s__law_pot [Str.ofString "script"]) (U_abs : mg "abs" = none) : Okd ⟨P, w, K, mg⟩ base 1 "_law_pot" [Str.ofString "script"] (spS ⟨P, w, K, mg⟩ m__law_pot) :=
  okd_defS D sc__law_pot fun f cdv A outer s H E S0 o =>
  es_one (es_ret (EVN.v (ev_lst (ea_v (EVN.v (ev_lc (own := [("cell", 1)]) o (ei_seqB o (EV.b (EVN.v (ev_scrSl 0 o)))) (blkOk_by (by kernel_rfl)) (fun _ _ _ _ _ o' => egx_name (i := 1) (by decide) o'.nd) (fun _ _ _ _ _ o' => ets_nil) (fun _ _ _ _ _ o' => ev_abs o' U_abs rfl (ea_b (ev_varB 1) (ea_nil))))) (ea_v (ev_int) (ea_v (ev_int) (ea_v (ev_int) (ea_nil))))))))

abbrev s__law_draw : Stmt := topS 14
theorem sc__law_draw : FnScope [Str.ofString "pot", Str.ofString "many", Str.ofString "found", Str.ofString "cell"] [Str.ofString "pot", Str.ofString "many"] (defScope s__law_draw) := ⟨rfl, rfl, rfl, by decide +kernel, rfl, by decide +kernel, by decide +kernel⟩
noncomputable def d__law_draw : DS :=
  sSeq (sIf (eOp ltD (eVarB 1) (eC (.int 2)))
  (sRet (eC (.int 0)))
  (sSkip))
  (sSeq (sIf (eOp gtD (ePotI 0 3) (eC (.int 0)))
  (sSeq (sAsg (gN 2) (eOp modD (eCall intD (eCons (ePotI 0 3) (eNil))) (eVarB 1)))
  (sSeq (sPotSet 0 3 (eOp fdivD (ePotI 0 3) (eVarB 1)))
  (sRet (eVar 2))))
  (sSkip))
  (sSeq (sAsg (gN 3) (eC (.int 0)))
  (sSeq (sIf (eOp ltD (ePotI 0 1) (ePotLen 0))
  (sSeq (sAsg (gN 3) (ePotCell 0 (ePotI 0 1)))
  (sSeq (sPotSet 0 1 (eOp addX (ePotI 0 1) (eC (.int 1))))
  (sIf (eOp geD (eVarB 3) (eOp powD (eC (.int 10)) (eC (.int 18))))
  (sSeq (sPotSet 0 3 (eOp fdivD (eVarB 3) (eVarB 1)))
  (sRet (eOp modD (eCall intD (eCons (eVarB 3) (eNil))) (eVarB 1))))
  (sSkip))))
  (sSkip))
  (sSeq (sPotSet 0 2 (eOp modD (eCall intD (eCons (eOp addX (eOp addX (eOp mulB (ePotI 0 2) (eC (.int 48271))) (eVarB 3)) (eC (.int 12345))) (eNil))) (eC (.int 2147483647))))
  (sRet (eOp modD (eCall intD (eCons (eOp addX (eOp fdivD (eOp mulB (ePotI 0 2) (ePotI 0 2)) (eC (.int 64))) (eOp fdivD (ePotI 0 2) (eC (.int 7)))) (eNil))) (eVarB 1)))))))
noncomputable def m__law_draw : List D → M D := runQ 4 d__law_draw
theorem ok__law_draw {P : Program} {w : World} {K : PySem.W.Frag} {mg : Str → Option Value} {base : Heap} (D : DefE K mg "_law_draw" s__law_draw [Str.ofString "pot", Str.ofString "many"]) (U_int : mg "int" = none) (U_len : mg "len" = none) : Okd ⟨P, w, K, mg⟩ base 1 "_law_draw" [Str.ofString "pot", Str.ofString "many"] (spQ ⟨P, w, K, mg⟩ 1 m__law_draw) :=
  okd_defQ D sc__law_draw fun f cdv A outer s H E S0 pa ca o =>
  es_cons (es_if (et_lt (ev_varB 1) (EV.b (ev_int)))
  (es_one (es_ret (ev_int)))
  (es_nil))
  (es_cons (es_if (et_gt (EV.b (ev_potIO (i := 0) o 3 (by decide))) (EV.b (ev_int)))
  (es_cons (es_asg (ev_mod (EV.b (ev_int1 o U_int rfl (ea_b (EV.b (ev_potIO (i := 0) o 3 (by decide))) (ea_nil)))) (ev_varB 1)) (eg_name (i := 2) o.nd))
  (es_cons (es_potSet (i := 0) 3 (ev_fdiv (EV.b (ev_potIO (i := 0) o 3 (by decide))) (ev_varB 1)))
  (es_one (es_ret (ev_var 2)))))
  (es_nil))
  (es_cons (es_asg (ev_int) (eg_name (i := 3) o.nd))
  (es_cons (es_if (et_lt (EV.b (ev_potIO (i := 0) o 1 (by decide))) (EV.b (ev_potLen (i := 0) o U_len rfl)))
  (es_cons (es_asg (ev_potCell (i := 0) (EV.b (ev_potIO (i := 0) o 1 (by decide)))) (eg_name (i := 3) o.nd))
  (es_cons (es_potSet (i := 0) 1 (ev_addX o (EV.b (ev_potIO (i := 0) o 1 (by decide))) (EV.b (ev_int))))
  (es_one (es_if (et_ge (ev_varB 3) (EV.b (ev_pow (EV.b (ev_int)) (EV.b (ev_int)))))
  (es_cons (es_potSet (i := 0) 3 (ev_fdiv (ev_varB 3) (ev_varB 1)))
  (es_one (es_ret (ev_mod (EV.b (ev_int1 o U_int rfl (ea_b (ev_varB 3) (ea_nil)))) (ev_varB 1)))))
  (es_nil)))))
  (es_nil))
  (es_cons (es_potSet (i := 0) 2 (ev_mod (EV.b (ev_int1 o U_int rfl (ea_b (EV.b (ev_addX o (EV.b (ev_addX o (EV.b (ev_mulB o (EV.b (ev_potIO (i := 0) o 2 (by decide))) (EV.b (ev_int)))) (ev_varB 3))) (EV.b (ev_int)))) (ea_nil)))) (EV.b (ev_int))))
  (es_one (es_ret (ev_mod (EV.b (ev_int1 o U_int rfl (ea_b (EV.b (ev_addX o (EV.b (ev_fdiv (EV.b (ev_mulB o (EV.b (ev_potIO (i := 0) o 2 (by decide))) (EV.b (ev_potIO (i := 0) o 2 (by decide))))) (EV.b (ev_int)))) (EV.b (ev_fdiv (EV.b (ev_potIO (i := 0) o 2 (by decide))) (EV.b (ev_int)))))) (ea_nil)))) (ev_varB 1))))))))

abbrev s__law_pick : Stmt := topS 15
theorem sc__law_pick : FnScope [Str.ofString "pot", Str.ofString "row"] [Str.ofString "pot", Str.ofString "row"] (defScope s__law_pick) := ⟨rfl, rfl, rfl, by decide +kernel, rfl, by decide +kernel, by decide +kernel⟩
noncomputable def d__law_pick : DS :=
  sRet (eOp ixD (eVarB 1) (eCallQ 0 m__law_draw (eCons (eCall lenD (eCons (eVarB 1) (eNil))) (eNil))))
noncomputable def m__law_pick : List D → M D := runQ 2 d__law_pick
theorem ok__law_pick {P : Program} {w : World} {K : PySem.W.Frag} {mg : Str → Option Value} {base : Heap} (D : DefE K mg "_law_pick" s__law_pick [Str.ofString "pot", Str.ofString "row"]) (H__law_draw : Okd ⟨P, w, K, mg⟩ base 1 "_law_draw" [Str.ofString "pot", Str.ofString "many"] (spQ ⟨P, w, K, mg⟩ 1 m__law_draw)) (U_len : mg "len" = none) : Okd ⟨P, w, K, mg⟩ base 2 "_law_pick" [Str.ofString "pot", Str.ofString "row"] (spQ ⟨P, w, K, mg⟩ 1 m__law_pick) :=
  okd_defQ D sc__law_pick fun f cdv A outer s H E S0 pa ca o =>
  es_one (es_ret (ev_ix o (ev_varB 1) (EV.b (ev_callDQ 0 o H__law_draw (by decide) rfl (ea_v (ev_len o U_len rfl (ea_b (ev_varB 1) (ea_nil))) (ea_nil)) (len_cons (len_nil))))))

abbrev s__law_thing : Stmt := topS 16
theorem sc__law_thing : FnScope [Str.ofString "pot"] [Str.ofString "pot"] (defScope s__law_thing) := ⟨rfl, rfl, rfl, by decide +kernel, rfl, by decide +kernel, by decide +kernel⟩
noncomputable def d__law_thing : DS :=
  sRet (eCallQ 0 m__law_pick (eCons (eLst (eCons (eC .non) (eCons (eC (.bl true)) (eCons (eC (.int 0)) (eCons (eUn negD (eC (.int 3))) (eCons (eOp powD (eC (.int 10)) (eC (.int 39))) (eCons (eC (.str "")) (eCons (eC (.str "all")) (eCons (eC (.str "a b")) (eCons (eTup (eNil)) (eCons (eTup (eCons (eC (.int 1)) (eCons (eC (.str "x")) (eNil)))) (eCons (eLst (eNil)) (eCons (eLst (eCons (eC .non) (eNil))) (eCons (eDnew) (eCons (eDispS (eC (.str "a")) (eTup (eCons (eC (.int 0)) (eNil)))) (eNil)))))))))))))))) (eNil)))
noncomputable def m__law_thing : List D → M D := runQ 1 d__law_thing
theorem ok__law_thing {P : Program} {w : World} {K : PySem.W.Frag} {mg : Str → Option Value} {base : Heap} (D : DefE K mg "_law_thing" s__law_thing [Str.ofString "pot"]) (H__law_pick : Okd ⟨P, w, K, mg⟩ base 2 "_law_pick" [Str.ofString "pot", Str.ofString "row"] (spQ ⟨P, w, K, mg⟩ 1 m__law_pick)) : Okd ⟨P, w, K, mg⟩ base 3 "_law_thing" [Str.ofString "pot"] (spQ ⟨P, w, K, mg⟩ 0 m__law_thing) :=
  okd_defQ D sc__law_thing fun f cdv A outer s H E S0 pa ca o =>
  es_one (es_ret (ev_callDQ 0 o H__law_pick (by decide) rfl (ea_v (EVN.v (ev_lst (ea_v (ev_non) (ea_v (ev_bl) (ea_v (ev_int) (ea_v (ev_neg (EV.b (ev_int))) (ea_v (ev_pow (EV.b (ev_int)) (EV.b (ev_int))) (ea_v (ev_str) (ea_v (ev_str) (ea_v (ev_str) (ea_v (ev_tup (ea_nil)) (ea_v (ev_tup (ea_v (ev_int) (ea_v (ev_str) (ea_nil)))) (ea_v (EVN.v (ev_lst (ea_nil))) (ea_v (EVN.v (ev_lst (ea_v (ev_non) (ea_nil)))) (ea_v (EVN.v (ev_dnew)) (ea_v (EVN.v (ev_dispS (ev_str) (ev_tup (ea_v (ev_int) (ea_nil))))) (ea_nil))))))))))))))))) (ea_nil)) (len_cons (len_nil))))

abbrev s__law_kinds : Stmt := topS 17
theorem sc__law_kinds : FnScope [Str.ofString "error", Str.ofString "found"] [Str.ofString "error"] (defScope s__law_kinds) := ⟨rfl, rfl, rfl, by decide +kernel, rfl, by decide +kernel, by decide +kernel⟩
noncomputable def d__law_kinds : DS :=
  sSeq (sAsg (gN 1) (eLst (eCons (eUn (isiE tb_BadNumber) (eVarB 0)) (eCons (eUn (isiE tb_BadProgram) (eVarB 0)) (eCons (eUn (isiE tb_BadText) (eVarB 0)) (eNil))))))
  (sSeq (sAsg (gN 1) (eOp addX (eVarB 1) (eLst (eCons (eUn (isiE tb_NoColour) (eVarB 0)) (eCons (eUn (isiE tb_NoFit) (eVarB 0)) (eCons (eUn (isiE tb_NoOrder) (eVarB 0)) (eNil)))))))
  (sSeq (sAsg (gN 1) (eOp addX (eVarB 1) (eLst (eCons (eUn (isiE tb_NoStanding) (eVarB 0)) (eCons (eUn (isiE tb_NoVisit) (eVarB 0)) (eCons (eUn (isiE tb_NoWord) (eVarB 0)) (eNil)))))))
  (sRet (eOp addX (eVarB 1) (eLst (eCons (eUn (isiE tb_TooMany) (eVarB 0)) (eNil)))))))
noncomputable def m__law_kinds : List D → Out D := runP 2 d__law_kinds
theorem ok__law_kinds {P : Program} {w : World} {K : PySem.W.Frag} {mg : Str → Option Value} {base : Heap} (D : DefE K mg "_law_kinds" s__law_kinds [Str.ofString "error"]) (XK : ExcAll K mg xcL) (U_isinstance : mg "isinstance" = none) (KT_BadNumber : ∃ C, mg "BadNumber" = some (.ref C) ∧ KitE K mg (.ref C) tb_BadNumber) (KT_BadProgram : ∃ C, mg "BadProgram" = some (.ref C) ∧ KitE K mg (.ref C) tb_BadProgram) (KT_BadText : ∃ C, mg "BadText" = some (.ref C) ∧ KitE K mg (.ref C) tb_BadText) (KT_NoColour : ∃ C, mg "NoColour" = some (.ref C) ∧ KitE K mg (.ref C) tb_NoColour) (KT_NoFit : ∃ C, mg "NoFit" = some (.ref C) ∧ KitE K mg (.ref C) tb_NoFit) (KT_NoOrder : ∃ C, mg "NoOrder" = some (.ref C) ∧ KitE K mg (.ref C) tb_NoOrder) (KT_NoStanding : ∃ C, mg "NoStanding" = some (.ref C) ∧ KitE K mg (.ref C) tb_NoStanding) (KT_NoVisit : ∃ C, mg "NoVisit" = some (.ref C) ∧ KitE K mg (.ref C) tb_NoVisit) (KT_NoWord : ∃ C, mg "NoWord" = some (.ref C) ∧ KitE K mg (.ref C) tb_NoWord) (KT_TooMany : ∃ C, mg "TooMany" = some (.ref C) ∧ KitE K mg (.ref C) tb_TooMany) : Okd ⟨P, w, K, mg⟩ base 1 "_law_kinds" [Str.ofString "error"] (spP ⟨P, w, K, mg⟩ 1 m__law_kinds) :=
  okd_def D sc__law_kinds fun f cdv A outer s H E S0 o =>
  es_cons (es_asg (EVN.v (ev_lst (ea_v (ev_isiE (tb := tb_BadNumber) (t := "BadNumber") o KT_BadNumber (exc_tb (cs := xcL) rfl XK) U_isinstance rfl rfl (ev_varB 0)) (ea_v (ev_isiE (tb := tb_BadProgram) (t := "BadProgram") o KT_BadProgram (exc_tb (cs := xcL) rfl XK) U_isinstance rfl rfl (ev_varB 0)) (ea_v (ev_isiE (tb := tb_BadText) (t := "BadText") o KT_BadText (exc_tb (cs := xcL) rfl XK) U_isinstance rfl rfl (ev_varB 0)) (ea_nil)))))) (eg_name (i := 1) o.nd))
  (es_cons (es_asg (ev_addX o (ev_varB 1) (EV.b (EVN.v (ev_lst (ea_v (ev_isiE (tb := tb_NoColour) (t := "NoColour") o KT_NoColour (exc_tb (cs := xcL) rfl XK) U_isinstance rfl rfl (ev_varB 0)) (ea_v (ev_isiE (tb := tb_NoFit) (t := "NoFit") o KT_NoFit (exc_tb (cs := xcL) rfl XK) U_isinstance rfl rfl (ev_varB 0)) (ea_v (ev_isiE (tb := tb_NoOrder) (t := "NoOrder") o KT_NoOrder (exc_tb (cs := xcL) rfl XK) U_isinstance rfl rfl (ev_varB 0)) (ea_nil)))))))) (eg_name (i := 1) o.nd))
  (es_cons (es_asg (ev_addX o (ev_varB 1) (EV.b (EVN.v (ev_lst (ea_v (ev_isiE (tb := tb_NoStanding) (t := "NoStanding") o KT_NoStanding (exc_tb (cs := xcL) rfl XK) U_isinstance rfl rfl (ev_varB 0)) (ea_v (ev_isiE (tb := tb_NoVisit) (t := "NoVisit") o KT_NoVisit (exc_tb (cs := xcL) rfl XK) U_isinstance rfl rfl (ev_varB 0)) (ea_v (ev_isiE (tb := tb_NoWord) (t := "NoWord") o KT_NoWord (exc_tb (cs := xcL) rfl XK) U_isinstance rfl rfl (ev_varB 0)) (ea_nil)))))))) (eg_name (i := 1) o.nd))
  (es_one (es_ret (ev_addX o (ev_varB 1) (EV.b (EVN.v (ev_lst (ea_v (ev_isiE (tb := tb_TooMany) (t := "TooMany") o KT_TooMany (exc_tb (cs := xcL) rfl XK) U_isinstance rfl rfl (ev_varB 0)) (ea_nil))))))))))

abbrev s__law_rows : Stmt := topS 18
theorem sc__law_rows : FnScope [Str.ofString "a", Str.ofString "b", Str.ofString "rows"] [Str.ofString "a", Str.ofString "b"] (defScope s__law_rows) := ⟨rfl, rfl, rfl, by decide +kernel, rfl, by decide +kernel, by decide +kernel⟩
noncomputable def d__law_rows : DS :=
  sSeq (sAsg (gN 2) (eLst (eCons (eTup (eCons (eMkX "BadNumber" ["value"] (eCons (eVar 0) (eNil))) (eCons (eC (.str "value")) (eNil)))) (eCons (eTup (eCons (eMkX "BadProgram" ["what"] (eCons (eVar 0) (eNil))) (eCons (eC (.str "what")) (eNil)))) (eCons (eTup (eCons (eMkX "BadText" ["line", "what"] (eCons (eVar 0) (eCons (eVar 1) (eNil)))) (eCons (eC (.str "line what")) (eNil)))) (eCons (eTup (eCons (eMkX "NoColour" [] eNil) (eCons (eC (.str "")) (eNil)))) (eCons (eTup (eCons (eMkX "NoFit" [] eNil) (eCons (eC (.str "")) (eNil)))) (eNil))))))))
  (sRet (eOp addX (eVarB 2) (eLst (eCons (eTup (eCons (eMkX "NoOrder" ["at"] (eCons (eVar 0) (eNil))) (eCons (eC (.str "at")) (eNil)))) (eCons (eTup (eCons (eMkX "NoStanding" [] eNil) (eCons (eC (.str "")) (eNil)))) (eCons (eTup (eCons (eMkX "NoVisit" [] eNil) (eCons (eC (.str "")) (eNil)))) (eCons (eTup (eCons (eMkX "NoWord" [] eNil) (eCons (eC (.str "")) (eNil)))) (eCons (eTup (eCons (eMkX "TooMany" ["most"] (eCons (eVar 0) (eNil))) (eCons (eC (.str "most")) (eNil)))) (eNil)))))))))
noncomputable def m__law_rows : List D → Out D := runP 3 d__law_rows
theorem ok__law_rows {P : Program} {w : World} {K : PySem.W.Frag} {mg : Str → Option Value} {base : Heap} (D : DefE K mg "_law_rows" s__law_rows [Str.ofString "a", Str.ofString "b"]) (XC_BadNumber : Xc ⟨P, w, K, mg⟩ base 1 "BadNumber" [Str.ofString "value"]) (XC_BadProgram : Xc ⟨P, w, K, mg⟩ base 1 "BadProgram" [Str.ofString "what"]) (XC_BadText : Xc ⟨P, w, K, mg⟩ base 1 "BadText" [Str.ofString "line", Str.ofString "what"]) (XC_NoColour : Xc ⟨P, w, K, mg⟩ base 1 "NoColour" []) (XC_NoFit : Xc ⟨P, w, K, mg⟩ base 1 "NoFit" []) (XC_NoOrder : Xc ⟨P, w, K, mg⟩ base 1 "NoOrder" [Str.ofString "at"]) (XC_NoStanding : Xc ⟨P, w, K, mg⟩ base 1 "NoStanding" []) (XC_NoVisit : Xc ⟨P, w, K, mg⟩ base 1 "NoVisit" []) (XC_NoWord : Xc ⟨P, w, K, mg⟩ base 1 "NoWord" []) (XC_TooMany : Xc ⟨P, w, K, mg⟩ base 1 "TooMany" [Str.ofString "most"]) : Okd ⟨P, w, K, mg⟩ base 3 "_law_rows" [Str.ofString "a", Str.ofString "b"] (spP ⟨P, w, K, mg⟩ 2 m__law_rows) :=
  okd_def D sc__law_rows fun f cdv A outer s H E S0 o =>
  es_cons (es_asg (EVN.v (ev_lst (ea_v (ev_tup (ea_v (ev_mkX o XC_BadNumber (by decide) (by decide) rfl (ea_v (ev_var 0) (ea_nil)) (len_cons (len_nil))) (ea_v (ev_str) (ea_nil)))) (ea_v (ev_tup (ea_v (ev_mkX o XC_BadProgram (by decide) (by decide) rfl (ea_v (ev_var 0) (ea_nil)) (len_cons (len_nil))) (ea_v (ev_str) (ea_nil)))) (ea_v (ev_tup (ea_v (ev_mkX o XC_BadText (by decide) (by decide) rfl (ea_v (ev_var 0) (ea_v (ev_var 1) (ea_nil))) (len_cons (len_cons (len_nil)))) (ea_v (ev_str) (ea_nil)))) (ea_v (ev_tup (ea_v (ev_mkX0 o XC_NoColour (by decide) rfl) (ea_v (ev_str) (ea_nil)))) (ea_v (ev_tup (ea_v (ev_mkX0 o XC_NoFit (by decide) rfl) (ea_v (ev_str) (ea_nil)))) (ea_nil)))))))) (eg_name (i := 2) o.nd))
  (es_one (es_ret (ev_addX o (ev_varB 2) (EV.b (EVN.v (ev_lst (ea_v (ev_tup (ea_v (ev_mkX o XC_NoOrder (by decide) (by decide) rfl (ea_v (ev_var 0) (ea_nil)) (len_cons (len_nil))) (ea_v (ev_str) (ea_nil)))) (ea_v (ev_tup (ea_v (ev_mkX0 o XC_NoStanding (by decide) rfl) (ea_v (ev_str) (ea_nil)))) (ea_v (ev_tup (ea_v (ev_mkX0 o XC_NoVisit (by decide) rfl) (ea_v (ev_str) (ea_nil)))) (ea_v (ev_tup (ea_v (ev_mkX0 o XC_NoWord (by decide) rfl) (ea_v (ev_str) (ea_nil)))) (ea_v (ev_tup (ea_v (ev_mkX o XC_TooMany (by decide) (by decide) rfl (ea_v (ev_var 0) (ea_nil)) (len_cons (len_nil))) (ea_v (ev_str) (ea_nil)))) (ea_nil))))))))))))

abbrev s__law_told_of : Stmt := topS 19
theorem sc__law_told_of : FnScope [Str.ofString "error", Str.ofString "words", Str.ofString "found", Str.ofString "word"] [Str.ofString "error", Str.ofString "words"] (defScope s__law_told_of) := ⟨rfl, rfl, rfl, by decide +kernel, rfl, by decide +kernel, by decide +kernel⟩
noncomputable def b__law_told_of_1 : DS :=
  sIf (eOp eqD (eVarB 3) (eC (.str "value")))
  (sApp 2 (eUn (xatD [Str.ofString "BadNumber"] "value") (eVarB 0)))
  (sIf (eOp eqD (eVarB 3) (eC (.str "what")))
  (sApp 2 (eUn (xatD [Str.ofString "BadProgram", Str.ofString "BadText"] "what") (eVarB 0)))
  (sIf (eOp eqD (eVarB 3) (eC (.str "line")))
  (sApp 2 (eUn (xatD [Str.ofString "BadText"] "line") (eVarB 0)))
  (sIf (eOp eqD (eVarB 3) (eC (.str "at")))
  (sApp 2 (eUn (xatD [Str.ofString "NoOrder"] "at") (eVarB 0)))
  (sIf (eOp eqD (eVarB 3) (eC (.str "most")))
  (sApp 2 (eUn (xatD [Str.ofString "TooMany"] "most") (eVarB 0)))
  (sSkip)))))
noncomputable def d__law_told_of : DS :=
  sSeq (sAsgO 2 (eLst (eNil)))
  (sSeq (sFor (eItems itemsT (eBi splitD (eVar 1) (eC (.str " ")))) (gN 3)
  (b__law_told_of_1) [3])
  (sFrz? 2 (sRet (eVar 2))))
noncomputable def m__law_told_of : List D → Out D := runP 4 d__law_told_of
theorem ok__law_told_of {P : Program} {w : World} {K : PySem.W.Frag} {mg : Str → Option Value} {base : Heap} (D : DefE K mg "_law_told_of" s__law_told_of [Str.ofString "error", Str.ofString "words"]) (XF_BadNumber_value : XfE K mg "BadNumber" "value") (XF_BadProgram_what : XfE K mg "BadProgram" "what") (XF_BadText_line : XfE K mg "BadText" "line") (XF_BadText_what : XfE K mg "BadText" "what") (XF_NoOrder_at : XfE K mg "NoOrder" "at") (XF_TooMany_most : XfE K mg "TooMany" "most") : Okd ⟨P, w, K, mg⟩ base 1 "_law_told_of" [Str.ofString "error", Str.ofString "words"] (spP ⟨P, w, K, mg⟩ 2 m__law_told_of) :=
  okd_def D sc__law_told_of fun f cdv A outer s H E S0 o =>
  es_cons (es_asgO (i := 2) (ev_lst (ea_nil)) o.nd)
  (es_cons (es_for o (passes_of rfl) [3] (ei_seq o (EVN.v (ev_split (ev_var 1) (ev_str)))) (eg_name (i := 3) o.nd)
  (es_one (es_if (et_eq o (ev_varB 3) (EV.b (ev_str)))
  (es_one (es_app (i := 2) (ev_xat (cs := [Str.ofString "BadNumber"]) (n := "value") o (fun c hc => by simp only [List.mem_cons, List.not_mem_nil, or_false] at hc; rcases hc with rfl <;> first | exact XF_BadNumber_value) (ev_varB 0))))
  (es_one (es_if (et_eq o (ev_varB 3) (EV.b (ev_str)))
  (es_one (es_app (i := 2) (ev_xat (cs := [Str.ofString "BadProgram", Str.ofString "BadText"]) (n := "what") o (fun c hc => by simp only [List.mem_cons, List.not_mem_nil, or_false] at hc; rcases hc with rfl | rfl <;> first | exact XF_BadProgram_what | exact XF_BadText_what) (ev_varB 0))))
  (es_one (es_if (et_eq o (ev_varB 3) (EV.b (ev_str)))
  (es_one (es_app (i := 2) (ev_xat (cs := [Str.ofString "BadText"]) (n := "line") o (fun c hc => by simp only [List.mem_cons, List.not_mem_nil, or_false] at hc; rcases hc with rfl <;> first | exact XF_BadText_line) (ev_varB 0))))
  (es_one (es_if (et_eq o (ev_varB 3) (EV.b (ev_str)))
  (es_one (es_app (i := 2) (ev_xat (cs := [Str.ofString "NoOrder"]) (n := "at") o (fun c hc => by simp only [List.mem_cons, List.not_mem_nil, or_false] at hc; rcases hc with rfl <;> first | exact XF_NoOrder_at) (ev_varB 0))))
  (es_one (es_if (et_eq o (ev_varB 3) (EV.b (ev_str)))
  (es_one (es_app (i := 2) (ev_xat (cs := [Str.ofString "TooMany"]) (n := "most") o (fun c hc => by simp only [List.mem_cons, List.not_mem_nil, or_false] at hc; rcases hc with rfl <;> first | exact XF_TooMany_most) (ev_varB 0))))
  (es_nil))))))))))))
  (es_one (es_frz? (i := 2) (es_ret (ev_var 2)))))

abbrev s_law : Stmt := topS 20
theorem sc_law : FnScope [Str.ofString "script", Str.ofString "pot", Str.ofString "a", Str.ofString "b", Str.ofString "c", Str.ofString "rows", Str.ofString "later", Str.ofString "at", Str.ofString "row", Str.ofString "error", Str.ofString "words", Str.ofString "due", Str.ofString "k", Str.ofString "alone"] [Str.ofString "script"] (defScope s_law) := ⟨rfl, rfl, rfl, by decide +kernel, rfl, by decide +kernel, by decide +kernel⟩
noncomputable def c_law_1 : SEnv → M D :=
  eOp eqD (eVarB 12) (eVarB 7)
noncomputable def b_law_2 : DS :=
  sSeq (sAsg (gT (gs1 (gN 9) (gs1 (gN 10) (gs0)))) (eVar 8))
  (sSeq (sAsg (gN 11) (eIf (eOp neD (eVarB 10) (eC (.str ""))) (eSl slA (eLst (eCons (eVar 2) (eCons (eVar 3) (eNil)))) (ePart0) (ePart (eCall lenD (eCons (eBi splitD (eVar 10) (eC (.str " "))) (eNil))))) (eLst (eNil))))
  (sSeq (sIf (eOr (eNot (eUn (isiE tb_LampError) (eVarB 9))) (eNot (eUn (isiE tb_ValueError) (eVarB 9))))
  (sRet (eC (.bl false)))
  (sSkip))
  (sSeq (sIf (eOp neD (eCallP m__law_kinds (eCons (eVar 9) (eNil))) (eLc [12] (eRng rng1 (eCons (eCall lenD (eCons (eVarB 5) (eNil))) (eNil))) (gN 12) (tYesD) (c_law_1)))
  (sRet (eC (.bl false)))
  (sSkip))
  (sSeq (sIf (eOp neD (eCall reprL (eCons (eCallP m__law_told_of (eCons (eVar 9) (eCons (eVar 10) (eNil)))) (eNil))) (eCall reprL (eCons (eVarB 11) (eNil))))
  (sRet (eC (.bl false)))
  (sSkip))
  (sIf (eOp neD (eCall reprL (eCons (eCallP m__law_told_of (eCons (eOp ixD (eOp ixD (eVarB 6) (eVarB 7)) (eC (.int 0))) (eCons (eVar 10) (eNil)))) (eNil))) (eCall reprL (eCons (eSl slA (eLst (eCons (eVar 4) (eCons (eVar 2) (eNil)))) (ePart0) (ePart (eCall lenD (eCons (eVarB 11) (eNil))))) (eNil))))
  (sRet (eC (.bl false)))
  (sSkip))))))
noncomputable def d_law : DS :=
  sSeq (sPar [⟨2, false, eCallQ 1 m__law_thing (eNil)⟩, ⟨3, false, eCallQ 1 m__law_thing (eNil)⟩, ⟨4, false, eCallQ 1 m__law_thing (eNil)⟩])
  (sSeq (sPar [⟨5, false, eCallP m__law_rows (eCons (eVar 2) (eCons (eVar 3) (eNil)))⟩, ⟨6, false, eCallP m__law_rows (eCons (eVar 4) (eCons (eVar 2) (eNil)))⟩])
  (sSeq (sFor (eItems enumA (eVar 5)) (gT (gs1 (gN 7) (gs1 (gN 8) (gs0))))
  (b_law_2) [7, 8, 9, 10, 11])
  (sSeq (sAsg (gN 13) (eMkB "LampError" (eC (.str "x"))))
  (sRet (eAnd (eUn (isiE tb_ValueError) (eVarB 13)) (eOp notInD (eC (.bl true)) (eCallP m__law_kinds (eCons (eVar 13) (eNil)))))))))
theorem ok_law {P : Program} {w : World} {K : PySem.W.Frag} {mg : Str → Option Value} {base : Heap} {f ct Pt : Addr} {dV kV doc pm cv ctv oc : Value} {an od : Option Addr} {osl : Array (Option Value)} (lk : K.lookup f = some ⟨oc, od, .func (PySem.W.fnOf "law" "law" (defArgs s_law) (defBody s_law) (defScope s_law) dV kV doc pm an cv ctv), osl⟩) (hcd : PySem.W.codeIn K cv "law" = true) (H__law_pot : Okd ⟨P, w, K, mg⟩ base 1 "_law_pot" [Str.ofString "script"] (spS ⟨P, w, K, mg⟩ m__law_pot)) (H__law_kinds : Okd ⟨P, w, K, mg⟩ base 1 "_law_kinds" [Str.ofString "error"] (spP ⟨P, w, K, mg⟩ 1 m__law_kinds)) (H__law_rows : Okd ⟨P, w, K, mg⟩ base 3 "_law_rows" [Str.ofString "a", Str.ofString "b"] (spP ⟨P, w, K, mg⟩ 2 m__law_rows)) (H__law_thing : Okd ⟨P, w, K, mg⟩ base 3 "_law_thing" [Str.ofString "pot"] (spQ ⟨P, w, K, mg⟩ 0 m__law_thing)) (H__law_told_of : Okd ⟨P, w, K, mg⟩ base 1 "_law_told_of" [Str.ofString "error", Str.ofString "words"] (spP ⟨P, w, K, mg⟩ 2 m__law_told_of)) (U_ValueError : mg "ValueError" = none) (XK : ExcAll K mg xcL) (U_enumerate : mg "enumerate" = none) (U_isinstance : mg "isinstance" = none) (KT_LampError : ∃ C, mg "LampError" = some (.ref C) ∧ KitE K mg (.ref C) tb_LampError) (KV_ValueError : KitE K mg (.type "ValueError") tb_ValueError) (U_len : mg "len" = none) (U_range : mg "range" = none) (U_repr : mg "repr" = none) (XV_LampError : XcV K mg "LampError")
  (hpot : ∀ ns : List Int, m__law_pot ns = .ok (potD ⟨(ns.take 63).map fun z => if z < 0 then -z else z, 0, 20011, 0⟩))
  (hlaw : ∀ ns : List Int, ns.length ≤ 63 → (∀ z ∈ ns, Builtin.Int.intBits z ≤ 1048576) → ∃ Γ p, d_law (lawEnv 14 1) ⟨(ns.take 63).map fun z => if z < 0 then -z else z, 0, 20011, 0⟩ = .ok ((.rt (.bl true), Γ), p)) :
  PL.FnOk P w K mg base (L2.CX P w) 4 f (PySem.W.fnOf "law" "law" (defArgs s_law) (defBody s_law) (defScope s_law) dV kV doc pm an cv ctv) ["script"] (spLaw K) :=
  fn_law (N := [Str.ofString "script", Str.ofString "pot", Str.ofString "a", Str.ofString "b", Str.ofString "c", Str.ofString "rows", Str.ofString "later", Str.ofString "at", Str.ofString "row", Str.ofString "error", Str.ofString "words", Str.ofString "due", Str.ofString "k", Str.ofString "alone"]) lk hcd sc_law rfl H__law_pot (by decide) rfl (.inl rfl) rfl (.inl rfl) (fun A outer s H E H0 pa ca ht o =>
  es_cons (es_par3 o (.val (ev_callDQ 1 o H__law_thing (by decide) rfl (ea_nil) (len_nil)) (.val (ev_callDQ 1 o H__law_thing (by decide) rfl (ea_nil) (len_nil)) (.val (ev_callDQ 1 o H__law_thing (by decide) rfl (ea_nil) (len_nil)) (.nil)))))
  (es_cons (es_par2 o (.val (ev_callD o H__law_rows (by decide) rfl (ea_v (ev_var 2) (ea_v (ev_var 3) (ea_nil))) (len_cons (len_cons (len_nil)))) (.val (ev_callD o H__law_rows (by decide) rfl (ea_v (ev_var 4) (ea_v (ev_var 2) (ea_nil))) (len_cons (len_cons (len_nil)))) (.nil))))
  (es_cons (es_for o (passes_of rfl) [7, 8, 9, 10, 11] (ei_enumA o U_enumerate rfl (ev_var 5)) (eg_tup (n := 2) o (egs_cons (eg_name (i := 7) o.nd) (egs_cons (eg_name (i := 8) o.nd) (egs_nil))) (gl_cons (gl_cons (gl_nil))))
  (es_cons (es_asg (ev_var 8) (eg_tup (n := 2) o (egs_cons (eg_name (i := 9) o.nd) (egs_cons (eg_name (i := 10) o.nd) (egs_nil))) (gl_cons (gl_cons (gl_nil)))))
  (es_cons (es_asg (ev_if (R := RV) (.inl rfl) (et_ne o (ev_varB 10) (EV.b (ev_str))) (ev_slA o (EV.b (EVN.v (ev_lst (ea_v (ev_var 2) (ea_v (ev_var 3) (ea_nil)))))) (eo_none) (eo_some (EV.b (ev_len o U_len rfl (ea_b (EV.b (EVN.v (ev_split (ev_var 10) (ev_str)))) (ea_nil)))))) (EVN.v (ev_lst (ea_nil)))) (eg_name (i := 11) o.nd))
  (es_cons (es_if (ew_t (ew_or (et_not (et_val (EV.b (ev_isiE (tb := tb_LampError) (t := "LampError") o KT_LampError (exc_tb (cs := xcL) rfl XK) U_isinstance rfl rfl (ev_varB 9))))) (ew_or1 (et_not (et_val (EV.b (ev_isiB (tb := tb_ValueError) (x := "ValueError") (T := "ValueError") o KV_ValueError (exc_tb (cs := xcL) rfl XK) U_isinstance U_ValueError rfl rfl (by decide +kernel) (ev_varB 9))))))))
  (es_one (es_ret (ev_bl)))
  (es_nil))
  (es_cons (es_if (et_ne o (EV.b (ev_callD o H__law_kinds (by decide) rfl (ea_v (ev_var 9) (ea_nil)) (len_cons (len_nil)))) (EV.b (EVN.v (ev_lc (own := [("k", 12)]) o (ei_range1 o rfl U_range (ea_b (EV.b (ev_len o U_len rfl (ea_b (ev_varB 5) (ea_nil)))) (ea_nil))) (blkOk_by (by kernel_rfl)) (fun _ _ _ _ _ o' => egx_name (i := 12) (by decide) o'.nd) (fun _ _ _ _ _ o' => ets_nil) (fun _ _ _ _ _ o' => ev_eq o' (ev_varB 12) (ev_varB 7))))))
  (es_one (es_ret (ev_bl)))
  (es_nil))
  (es_cons (es_if (et_ne o (EV.b (ev_reprL o U_repr rfl (ea_b (EV.b (ev_callD o H__law_told_of (by decide) rfl (ea_v (ev_var 9) (ea_v (ev_var 10) (ea_nil))) (len_cons (len_cons (len_nil))))) (ea_nil)))) (EV.b (ev_reprL o U_repr rfl (ea_b (ev_varB 11) (ea_nil)))))
  (es_one (es_ret (ev_bl)))
  (es_nil))
  (es_one (es_if (et_ne o (EV.b (ev_reprL o U_repr rfl (ea_b (EV.b (ev_callD o H__law_told_of (by decide) rfl (ea_v (ev_ix o (EV.b (ev_ix o (ev_varB 6) (ev_varB 7))) (EV.b (ev_int))) (ea_v (ev_var 10) (ea_nil))) (len_cons (len_cons (len_nil))))) (ea_nil)))) (EV.b (ev_reprL o U_repr rfl (ea_b (EV.b (ev_slA o (EV.b (EVN.v (ev_lst (ea_v (ev_var 4) (ea_v (ev_var 2) (ea_nil)))))) (eo_none) (eo_some (EV.b (ev_len o U_len rfl (ea_b (ev_varB 11) (ea_nil))))))) (ea_nil)))))
  (es_one (es_ret (ev_bl)))
  (es_nil)))))))))
  (es_cons (es_asg (ev_mkB o XV_LampError rfl (ev_str)) (eg_name (i := 13) o.nd))
  (es_one (es_ret (ev_and (ev_isiB (tb := tb_ValueError) (x := "ValueError") (T := "ValueError") o KV_ValueError (exc_tb (cs := xcL) rfl XK) U_isinstance U_ValueError rfl rfl (by decide +kernel) (ev_varB 13)) (ev_one (ev_notIn o (EV.b (ev_bl)) (EV.b (ev_callD o H__law_kinds (by decide) rfl (ea_v (ev_var 13) (ea_nil)) (len_cons (len_nil))))))))))))) hpot hlaw

end G

set_option Elab.async false
set_option linter.all false
set_option maxRecDepth 100000
/-! the plain law of k00 (1): draws, things, rows, kinds, what is told. -/
namespace G
open PySem L2 PL
structure PV (p : Pot) : Prop where
  c : ∀ z ∈ p.cells, 0 ≤ z
  u : 0 ≤ p.used
  m0 : 0 ≤ p.mix
  m1 : p.mix < 2147483647
  g : 0 ≤ p.great
theorem modD_pos {a b : Int} (h : 0 < b) : modD (.int a) (.int b) = some (.int (a % b)) := if_pos h
theorem fdivD_pos {a b : Int} (h : 0 < b) (h2 : b < 1073741824) : fdivD (.int a) (.int b) = some (.int (a / b)) := if_pos ⟨h, h2⟩
theorem mulB_int {a b : Int} (h : -(2 ^ 64) < b) (h2 : b < 2 ^ 64) : mulB (.int a) (.int b) = some (.int (a * b)) := by
  have : mulD (.int a) (.int b) = some (.int (a * b)) := if_pos ⟨h, h2⟩
  show mulA (.int a) (.int b) = _
  unfold mulA; rw [this]
theorem pow18 : powD (.int 10) (.int 18) = some (.int 1000000000000000000) := by
  unfold powD; dsimp only; rw [if_pos (by decide)]; rfl
theorem draw_ok {n : Int} (h1 : 1 ≤ n) (h2 : n < 1073741824) {p : Pot} (hp : PV p) : ∃ r p', m__law_draw [.int n] p = .ok (.int r, p') ∧ 0 ≤ r ∧ r < n ∧ PV p' := by
  obtain ⟨cells, used, mix, great⟩ := p
  obtain ⟨hc, hu, hm0, hm1, hg⟩ := hp
  dsimp only at hc hu hm0 hm1 hg
  by_cases hn : n < 2
  · refine ⟨0, ⟨cells, used, mix, great⟩, ?_, by omega, by omega, ⟨hc, hu, hm0, hm1, hg⟩⟩
    simp [m__law_draw, d__law_draw, runQ_ap, hn]
  · have n0 : 0 < n := by omega
    by_cases hg0 : 0 < great
    · refine ⟨great % n, ⟨cells, used, mix, great / n⟩, ?_, Int.emod_nonneg _ (by omega), Int.emod_lt_of_pos _ n0, ⟨hc, hu, hm0, hm1, Int.ediv_nonneg hg (by omega)⟩⟩
      simp [m__law_draw, d__law_draw, runQ_ap, hn, hg0, modD_pos n0, fdivD_pos n0 h2]
    · have fin : ∀ (cell : Int) (u : Int), 0 ≤ cell → 0 ≤ u → ∃ r p', (Out.ok ((Fl.nx, [Sl.pot, .val (.int n), .no, .val (.int cell)]), (⟨cells, u, mix, great⟩ : Pot))).then (fun r p => ifFl r.1 (sSeq (sPotSet 0 2 (eOp modD (eCall intD (eCons (eOp addX (eOp addX (eOp mulB (ePotI 0 2) (eC (.int 48271))) (eVarB 3)) (eC (.int 12345))) (eNil))) (eC (.int 2147483647))))
  (sRet (eOp modD (eCall intD (eCons (eOp addX (eOp fdivD (eOp mulB (ePotI 0 2) (ePotI 0 2)) (eC (.int 64))) (eOp fdivD (ePotI 0 2) (eC (.int 7)))) (eNil))) (eVarB 1))) r.2 p) (.ok (r, p))) = .ok ((.rt (.int r), [Sl.pot, .val (.int n), .no, .val (.int cell)]), p') ∧ 0 ≤ r ∧ r < n ∧ PV p' := by
        intro cell u hc0 hu0
        have hk : 0 ≤ (mix * 48271 + cell + 12345) % 2147483647 := Int.emod_nonneg _ (by omega)
        have hk2 : (mix * 48271 + cell + 12345) % 2147483647 < 2147483647 := Int.emod_lt_of_pos _ (by omega)
        have e1 : mulB (.int mix) (.int 48271) = some (.int (mix * 48271)) := mulB_int (by omega) (by omega)
        generalize hz : (mix * 48271 + cell + 12345) % 2147483647 = z at hk hk2
        have e2 : mulB (.int z) (.int z) = some (.int (z * z)) := mulB_int (by omega) (by omega)
        refine ⟨(z * z / 64 + z / 7) % n, ⟨cells, u, z, great⟩, ?_, Int.emod_nonneg _ (by omega), Int.emod_lt_of_pos _ n0, ⟨hc, hu0, hk, hk2, hg⟩⟩
        simp [e1, modD_pos, fdivD_pos, hz, e2, n0]
      by_cases hl : used < cells.length
      · obtain ⟨k, rfl⟩ := Int.eq_ofNat_of_zero_le hu
        have hk : k < cells.length := by omega
        have ha : atI cells (k : Int) = some cells[k] := by rw [atI_natE, List.getElem?_eq_getElem hk]
        have hcell : 0 ≤ cells[k] := hc _ (List.getElem_mem hk)
        by_cases hb : 1000000000000000000 ≤ cells[k]
        · refine ⟨cells[k] % n, ⟨cells, (k : Int) + 1, mix, cells[k] / n⟩, ?_, Int.emod_nonneg _ (by omega), Int.emod_lt_of_pos _ n0, ⟨hc, by show (0:Int) ≤ (k:Int) + 1; omega, hm0, hm1, Int.ediv_nonneg hcell (by omega)⟩⟩
          simp [m__law_draw, d__law_draw, runQ_ap, hn, hg0, hl, hk, ha, pow18, hb, modD_pos n0, fdivD_pos n0 h2]
        · obtain ⟨r, p', e, b1, b2, b3⟩ := fin cells[k] ((k : Int) + 1) hcell (by omega)
          refine ⟨r, p', ?_, b1, b2, b3⟩
          rw [m__law_draw, d__law_draw, runQ_ap]
          simp only [then_ok, ifFl_nx] at e
          simp [hn, hg0, hl, hk, ha, pow18, hb]
          simp at e
          rw [e]
          rfl
      · obtain ⟨r, p', e, b1, b2, b3⟩ := fin 0 used (by omega) hu
        refine ⟨r, p', ?_, b1, b2, b3⟩
        rw [m__law_draw, d__law_draw, runQ_ap]
        simp only [then_ok, ifFl_nx] at e
        simp [hn, hg0, hl]
        simp at e
        rw [e]
        rfl
theorem pick_ok {l : List D} (h0 : l ≠ []) (hl : l.length < 1073741824) {p : Pot} (hp : PV p) : ∃ d p', m__law_pick [.lst l] p = .ok (d, p') ∧ d ∈ l ∧ PV p' := by
  have : 1 ≤ (l.length : Int) := by
    have := List.length_pos_iff.mpr h0
    omega
  obtain ⟨r, p', e, b1, b2, b3⟩ := draw_ok this (by omega) hp
  obtain ⟨k, rfl⟩ := Int.eq_ofNat_of_zero_le b1
  have hk : k < l.length := by omega
  have ha : atI l (k : Int) = some l[k] := by rw [atI_natE, List.getElem?_eq_getElem hk]
  refine ⟨l[k], p', ?_, List.getElem_mem hk, b3⟩
  simp [m__law_pick, d__law_pick, runQ_ap, e, ha]
theorem rows_ok (a b : D) : m__law_rows [a, b] = .ok (.lst [.tup [.ext 0 "BadNumber" ["value"] [a], .str "value"], .tup [.ext 0 "BadProgram" ["what"] [a], .str "what"], .tup [.ext 0 "BadText" ["what", "line"] [b, a], .str "line what"], .tup [.ext 0 "NoColour" [] [], .str ""], .tup [.ext 0 "NoFit" [] [], .str ""],
   .tup [.ext 0 "NoOrder" ["at"] [a], .str "at"], .tup [.ext 0 "NoStanding" [] [], .str ""], .tup [.ext 0 "NoVisit" [] [], .str ""], .tup [.ext 0 "NoWord" [] [], .str ""], .tup [.ext 0 "TooMany" ["most"] [a], .str "most"]]) := by kernel_rfl
theorem told_1 (a : D) : m__law_told_of [.ext 0 "BadNumber" ["value"] [a], .str "value"] = .ok (.lst [a]) := by kernel_rfl
theorem told_3 (a b : D) : m__law_told_of [.ext 0 "BadText" ["what", "line"] [b, a], .str "line what"] = .ok (.lst [a, b]) := by kernel_rfl
theorem kinds_1 (ns : List Str) (ds : List D) : m__law_kinds [.ext 0 "BadNumber" ns ds] = .ok (.lst ([true, false, false, false, false, false, false, false, false, false].map D.bl)) := by kernel_rfl
noncomputable def things : List D := [.non, .bl true, .int 0, .int (-3), .int (10 ^ 39), .str "", .str "all", .str "a b", .tup [], .tup [.int 1, .str "x"], .lst [], .lst [.non], .dct [] [], .dct [.str "a"] [.tup [.int 0]]]
def rOk (l : List D) : Bool := match reprL [.lst l] with
  | some (.str x) => PyData.strOk x
  | _ => false
theorem rok_0 : rOk [] = true := by kernel_rfl
theorem rok_1 : things.all (fun a => rOk [a]) = true := by kernel_rfl
theorem rok_2 : things.all (fun a => things.all fun b => rOk [a, b]) = true := by kernel_rfl
end G

set_option Elab.async false
set_option linter.all false
set_option maxRecDepth 100000
/-! the plain law of k00 (2): the law itself. -/
namespace G
open PySem L2 PL

def rowsD (a b : D) : List D := [.tup [.ext 0 "BadNumber" ["value"] [a], .str "value"],
  .tup [.ext 0 "BadProgram" ["what"] [a], .str "what"],
  .tup [.ext 0 "BadText" ["what", "line"] [b, a], .str "line what"],
  .tup [.ext 0 "NoColour" [] [], .str ""],
  .tup [.ext 0 "NoFit" [] [], .str ""],
  .tup [.ext 0 "NoOrder" ["at"] [a], .str "at"],
  .tup [.ext 0 "NoStanding" [] [], .str ""],
  .tup [.ext 0 "NoVisit" [] [], .str ""],
  .tup [.ext 0 "NoWord" [] [], .str ""],
  .tup [.ext 0 "TooMany" ["most"] [a], .str "most"]]
abbrev enL (a b c x7 x8 x9 x10 x11 : Sl) (d e f : D) : SEnv := [.no, .pot, a, b, c, .val (.lst (rowsD d e)), .val (.lst (rowsD f d)), x7, x8, x9, x10, x11, .no, .no]
abbrev en0 (a b c : D) : SEnv := enL (.val a) (.val b) (.val c) .no .no .no .no .no a b c
theorem body_ok {s1 s2 : DS} {c3 c4 c5 c6 : SEnv → M D} {f3 f4 f5 f6 : SEnv → M D} {Γ0 Γ1 Γ2 : SEnv} {p : Pot} (h1 : s1 Γ0 p = .ok ((.nx, Γ1), p)) (h2 : s2 Γ1 p = .ok ((.nx, Γ2), p)) (h3 : c3 Γ2 p = .ok (.bl false, p)) (h4 : c4 Γ2 p = .ok (.bl false, p)) (h5 : c5 Γ2 p = .ok (.bl false, p)) (h6 : c6 Γ2 p = .ok (.bl false, p)) :
    sSeq s1 (sSeq s2 (sSeq (sIf c3 (sRet f3) sSkip) (sSeq (sIf c4 (sRet f4) sSkip) (sSeq (sIf c5 (sRet f5) sSkip) (sIf c6 (sRet f6) sSkip))))) Γ0 p = .ok ((.nx, Γ2), p) := by
  simp [h1, h2, h3, h4, h5, h6]
theorem rep_ok {x : Out (D × Pot)} {l : List D} {p : Pot} (h : rOk l = true) (e : x = (opt (reprL [.lst l]) p).then fun x p => (opt (reprL [.lst l]) p).then fun y p => opt (neD x y) p) : x = .ok (.bl false, p) := by
  subst e
  unfold rOk at h
  split at h
  · rename_i x e
    rw [e]
    simp [neD_self (n := 0) (d := .str x) (by rw [okD_str]; exact h) (by omega)]
  · cases h

theorem turn_0 {a b c : D} {p : Pot} (h : rOk [a] = true) (h2 : rOk [c] = true) : turnS (gT (gs1 (gN 7) (gs1 (gN 8) (gs0)))) b_law_2 [7, 8, 9, 10, 11] (.tup [.int 0, .tup [.ext 0 "BadNumber" ["value"] [a], .str "value"]]) (en0 a b c) p = .ok ((.nx, en0 a b c), p) := by
  refine turnS_ap.trans ?_
  have e : b_law_2 (enL (.val a) (.val b) (.val c) (.val (.int 0)) (.val (.tup [.ext 0 "BadNumber" ["value"] [a], .str "value"])) .no .no .no a b c) p = .ok ((.nx, enL (.val a) (.val b) (.val c) (.val (.int 0)) (.val (.tup [.ext 0 "BadNumber" ["value"] [a], .str "value"])) (.val (.ext 0 "BadNumber" ["value"] [a])) (.val (.str "value")) (.val (.lst [a])) a b c), p) :=
    body_ok (Γ1 := enL (.val a) (.val b) (.val c) (.val (.int 0)) (.val (.tup [.ext 0 "BadNumber" ["value"] [a], .str "value"])) (.val (.ext 0 "BadNumber" ["value"] [a])) (.val (.str "value")) .no a b c) (by kernel_rfl) (by kernel_rfl) (by kernel_rfl) (by kernel_rfl) (rep_ok (l := [a]) h (by kernel_rfl)) (rep_ok (l := [c]) h2 (by kernel_rfl))
  have g : gT (gs1 (gN 7) (gs1 (gN 8) (gs0))) (.tup [.int 0, .tup [.ext 0 "BadNumber" ["value"] [a], .str "value"]]) (en0 a b c) = some (enL (.val a) (.val b) (.val c) (.val (.int 0)) (.val (.tup [.ext 0 "BadNumber" ["value"] [a], .str "value"])) .no .no .no a b c) := by kernel_rfl
  rw [g, opt_some, then_ok, e]
  rfl
theorem turn_1 {a b c : D} {p : Pot} (h : rOk [a] = true) (h2 : rOk [c] = true) : turnS (gT (gs1 (gN 7) (gs1 (gN 8) (gs0)))) b_law_2 [7, 8, 9, 10, 11] (.tup [.int 1, .tup [.ext 0 "BadProgram" ["what"] [a], .str "what"]]) (en0 a b c) p = .ok ((.nx, en0 a b c), p) := by
  refine turnS_ap.trans ?_
  have e : b_law_2 (enL (.val a) (.val b) (.val c) (.val (.int 1)) (.val (.tup [.ext 0 "BadProgram" ["what"] [a], .str "what"])) .no .no .no a b c) p = .ok ((.nx, enL (.val a) (.val b) (.val c) (.val (.int 1)) (.val (.tup [.ext 0 "BadProgram" ["what"] [a], .str "what"])) (.val (.ext 0 "BadProgram" ["what"] [a])) (.val (.str "what")) (.val (.lst [a])) a b c), p) :=
    body_ok (Γ1 := enL (.val a) (.val b) (.val c) (.val (.int 1)) (.val (.tup [.ext 0 "BadProgram" ["what"] [a], .str "what"])) (.val (.ext 0 "BadProgram" ["what"] [a])) (.val (.str "what")) .no a b c) (by kernel_rfl) (by kernel_rfl) (by kernel_rfl) (by kernel_rfl) (rep_ok (l := [a]) h (by kernel_rfl)) (rep_ok (l := [c]) h2 (by kernel_rfl))
  have g : gT (gs1 (gN 7) (gs1 (gN 8) (gs0))) (.tup [.int 1, .tup [.ext 0 "BadProgram" ["what"] [a], .str "what"]]) (en0 a b c) = some (enL (.val a) (.val b) (.val c) (.val (.int 1)) (.val (.tup [.ext 0 "BadProgram" ["what"] [a], .str "what"])) .no .no .no a b c) := by kernel_rfl
  rw [g, opt_some, then_ok, e]
  rfl
theorem turn_2 {a b c : D} {p : Pot} (h : rOk [a, b] = true) (h2 : rOk [c, a] = true) : turnS (gT (gs1 (gN 7) (gs1 (gN 8) (gs0)))) b_law_2 [7, 8, 9, 10, 11] (.tup [.int 2, .tup [.ext 0 "BadText" ["what", "line"] [b, a], .str "line what"]]) (en0 a b c) p = .ok ((.nx, en0 a b c), p) := by
  refine turnS_ap.trans ?_
  have e : b_law_2 (enL (.val a) (.val b) (.val c) (.val (.int 2)) (.val (.tup [.ext 0 "BadText" ["what", "line"] [b, a], .str "line what"])) .no .no .no a b c) p = .ok ((.nx, enL (.val a) (.val b) (.val c) (.val (.int 2)) (.val (.tup [.ext 0 "BadText" ["what", "line"] [b, a], .str "line what"])) (.val (.ext 0 "BadText" ["what", "line"] [b, a])) (.val (.str "line what")) (.val (.lst [a, b])) a b c), p) :=
    body_ok (Γ1 := enL (.val a) (.val b) (.val c) (.val (.int 2)) (.val (.tup [.ext 0 "BadText" ["what", "line"] [b, a], .str "line what"])) (.val (.ext 0 "BadText" ["what", "line"] [b, a])) (.val (.str "line what")) .no a b c) (by kernel_rfl) (by kernel_rfl) (by kernel_rfl) (by kernel_rfl) (rep_ok (l := [a, b]) h (by kernel_rfl)) (rep_ok (l := [c, a]) h2 (by kernel_rfl))
  have g : gT (gs1 (gN 7) (gs1 (gN 8) (gs0))) (.tup [.int 2, .tup [.ext 0 "BadText" ["what", "line"] [b, a], .str "line what"]]) (en0 a b c) = some (enL (.val a) (.val b) (.val c) (.val (.int 2)) (.val (.tup [.ext 0 "BadText" ["what", "line"] [b, a], .str "line what"])) .no .no .no a b c) := by kernel_rfl
  rw [g, opt_some, then_ok, e]
  rfl
theorem turn_3 {a b c : D} {p : Pot} (h : rOk [] = true) (h2 : rOk [] = true) : turnS (gT (gs1 (gN 7) (gs1 (gN 8) (gs0)))) b_law_2 [7, 8, 9, 10, 11] (.tup [.int 3, .tup [.ext 0 "NoColour" [] [], .str ""]]) (en0 a b c) p = .ok ((.nx, en0 a b c), p) := by
  refine turnS_ap.trans ?_
  have e : b_law_2 (enL (.val a) (.val b) (.val c) (.val (.int 3)) (.val (.tup [.ext 0 "NoColour" [] [], .str ""])) .no .no .no a b c) p = .ok ((.nx, enL (.val a) (.val b) (.val c) (.val (.int 3)) (.val (.tup [.ext 0 "NoColour" [] [], .str ""])) (.val (.ext 0 "NoColour" [] [])) (.val (.str "")) (.val (.lst [])) a b c), p) :=
    body_ok (Γ1 := enL (.val a) (.val b) (.val c) (.val (.int 3)) (.val (.tup [.ext 0 "NoColour" [] [], .str ""])) (.val (.ext 0 "NoColour" [] [])) (.val (.str "")) .no a b c) (by kernel_rfl) (by kernel_rfl) (by kernel_rfl) (by kernel_rfl) (rep_ok (l := []) h (by kernel_rfl)) (rep_ok (l := []) h2 (by kernel_rfl))
  have g : gT (gs1 (gN 7) (gs1 (gN 8) (gs0))) (.tup [.int 3, .tup [.ext 0 "NoColour" [] [], .str ""]]) (en0 a b c) = some (enL (.val a) (.val b) (.val c) (.val (.int 3)) (.val (.tup [.ext 0 "NoColour" [] [], .str ""])) .no .no .no a b c) := by kernel_rfl
  rw [g, opt_some, then_ok, e]
  rfl
theorem turn_4 {a b c : D} {p : Pot} (h : rOk [] = true) (h2 : rOk [] = true) : turnS (gT (gs1 (gN 7) (gs1 (gN 8) (gs0)))) b_law_2 [7, 8, 9, 10, 11] (.tup [.int 4, .tup [.ext 0 "NoFit" [] [], .str ""]]) (en0 a b c) p = .ok ((.nx, en0 a b c), p) := by
  refine turnS_ap.trans ?_
  have e : b_law_2 (enL (.val a) (.val b) (.val c) (.val (.int 4)) (.val (.tup [.ext 0 "NoFit" [] [], .str ""])) .no .no .no a b c) p = .ok ((.nx, enL (.val a) (.val b) (.val c) (.val (.int 4)) (.val (.tup [.ext 0 "NoFit" [] [], .str ""])) (.val (.ext 0 "NoFit" [] [])) (.val (.str "")) (.val (.lst [])) a b c), p) :=
    body_ok (Γ1 := enL (.val a) (.val b) (.val c) (.val (.int 4)) (.val (.tup [.ext 0 "NoFit" [] [], .str ""])) (.val (.ext 0 "NoFit" [] [])) (.val (.str "")) .no a b c) (by kernel_rfl) (by kernel_rfl) (by kernel_rfl) (by kernel_rfl) (rep_ok (l := []) h (by kernel_rfl)) (rep_ok (l := []) h2 (by kernel_rfl))
  have g : gT (gs1 (gN 7) (gs1 (gN 8) (gs0))) (.tup [.int 4, .tup [.ext 0 "NoFit" [] [], .str ""]]) (en0 a b c) = some (enL (.val a) (.val b) (.val c) (.val (.int 4)) (.val (.tup [.ext 0 "NoFit" [] [], .str ""])) .no .no .no a b c) := by kernel_rfl
  rw [g, opt_some, then_ok, e]
  rfl
theorem turn_5 {a b c : D} {p : Pot} (h : rOk [a] = true) (h2 : rOk [c] = true) : turnS (gT (gs1 (gN 7) (gs1 (gN 8) (gs0)))) b_law_2 [7, 8, 9, 10, 11] (.tup [.int 5, .tup [.ext 0 "NoOrder" ["at"] [a], .str "at"]]) (en0 a b c) p = .ok ((.nx, en0 a b c), p) := by
  refine turnS_ap.trans ?_
  have e : b_law_2 (enL (.val a) (.val b) (.val c) (.val (.int 5)) (.val (.tup [.ext 0 "NoOrder" ["at"] [a], .str "at"])) .no .no .no a b c) p = .ok ((.nx, enL (.val a) (.val b) (.val c) (.val (.int 5)) (.val (.tup [.ext 0 "NoOrder" ["at"] [a], .str "at"])) (.val (.ext 0 "NoOrder" ["at"] [a])) (.val (.str "at")) (.val (.lst [a])) a b c), p) :=
    body_ok (Γ1 := enL (.val a) (.val b) (.val c) (.val (.int 5)) (.val (.tup [.ext 0 "NoOrder" ["at"] [a], .str "at"])) (.val (.ext 0 "NoOrder" ["at"] [a])) (.val (.str "at")) .no a b c) (by kernel_rfl) (by kernel_rfl) (by kernel_rfl) (by kernel_rfl) (rep_ok (l := [a]) h (by kernel_rfl)) (rep_ok (l := [c]) h2 (by kernel_rfl))
  have g : gT (gs1 (gN 7) (gs1 (gN 8) (gs0))) (.tup [.int 5, .tup [.ext 0 "NoOrder" ["at"] [a], .str "at"]]) (en0 a b c) = some (enL (.val a) (.val b) (.val c) (.val (.int 5)) (.val (.tup [.ext 0 "NoOrder" ["at"] [a], .str "at"])) .no .no .no a b c) := by kernel_rfl
  rw [g, opt_some, then_ok, e]
  rfl
theorem turn_6 {a b c : D} {p : Pot} (h : rOk [] = true) (h2 : rOk [] = true) : turnS (gT (gs1 (gN 7) (gs1 (gN 8) (gs0)))) b_law_2 [7, 8, 9, 10, 11] (.tup [.int 6, .tup [.ext 0 "NoStanding" [] [], .str ""]]) (en0 a b c) p = .ok ((.nx, en0 a b c), p) := by
  refine turnS_ap.trans ?_
  have e : b_law_2 (enL (.val a) (.val b) (.val c) (.val (.int 6)) (.val (.tup [.ext 0 "NoStanding" [] [], .str ""])) .no .no .no a b c) p = .ok ((.nx, enL (.val a) (.val b) (.val c) (.val (.int 6)) (.val (.tup [.ext 0 "NoStanding" [] [], .str ""])) (.val (.ext 0 "NoStanding" [] [])) (.val (.str "")) (.val (.lst [])) a b c), p) :=
    body_ok (Γ1 := enL (.val a) (.val b) (.val c) (.val (.int 6)) (.val (.tup [.ext 0 "NoStanding" [] [], .str ""])) (.val (.ext 0 "NoStanding" [] [])) (.val (.str "")) .no a b c) (by kernel_rfl) (by kernel_rfl) (by kernel_rfl) (by kernel_rfl) (rep_ok (l := []) h (by kernel_rfl)) (rep_ok (l := []) h2 (by kernel_rfl))
  have g : gT (gs1 (gN 7) (gs1 (gN 8) (gs0))) (.tup [.int 6, .tup [.ext 0 "NoStanding" [] [], .str ""]]) (en0 a b c) = some (enL (.val a) (.val b) (.val c) (.val (.int 6)) (.val (.tup [.ext 0 "NoStanding" [] [], .str ""])) .no .no .no a b c) := by kernel_rfl
  rw [g, opt_some, then_ok, e]
  rfl
theorem turn_7 {a b c : D} {p : Pot} (h : rOk [] = true) (h2 : rOk [] = true) : turnS (gT (gs1 (gN 7) (gs1 (gN 8) (gs0)))) b_law_2 [7, 8, 9, 10, 11] (.tup [.int 7, .tup [.ext 0 "NoVisit" [] [], .str ""]]) (en0 a b c) p = .ok ((.nx, en0 a b c), p) := by
  refine turnS_ap.trans ?_
  have e : b_law_2 (enL (.val a) (.val b) (.val c) (.val (.int 7)) (.val (.tup [.ext 0 "NoVisit" [] [], .str ""])) .no .no .no a b c) p = .ok ((.nx, enL (.val a) (.val b) (.val c) (.val (.int 7)) (.val (.tup [.ext 0 "NoVisit" [] [], .str ""])) (.val (.ext 0 "NoVisit" [] [])) (.val (.str "")) (.val (.lst [])) a b c), p) :=
    body_ok (Γ1 := enL (.val a) (.val b) (.val c) (.val (.int 7)) (.val (.tup [.ext 0 "NoVisit" [] [], .str ""])) (.val (.ext 0 "NoVisit" [] [])) (.val (.str "")) .no a b c) (by kernel_rfl) (by kernel_rfl) (by kernel_rfl) (by kernel_rfl) (rep_ok (l := []) h (by kernel_rfl)) (rep_ok (l := []) h2 (by kernel_rfl))
  have g : gT (gs1 (gN 7) (gs1 (gN 8) (gs0))) (.tup [.int 7, .tup [.ext 0 "NoVisit" [] [], .str ""]]) (en0 a b c) = some (enL (.val a) (.val b) (.val c) (.val (.int 7)) (.val (.tup [.ext 0 "NoVisit" [] [], .str ""])) .no .no .no a b c) := by kernel_rfl
  rw [g, opt_some, then_ok, e]
  rfl
theorem turn_8 {a b c : D} {p : Pot} (h : rOk [] = true) (h2 : rOk [] = true) : turnS (gT (gs1 (gN 7) (gs1 (gN 8) (gs0)))) b_law_2 [7, 8, 9, 10, 11] (.tup [.int 8, .tup [.ext 0 "NoWord" [] [], .str ""]]) (en0 a b c) p = .ok ((.nx, en0 a b c), p) := by
  refine turnS_ap.trans ?_
  have e : b_law_2 (enL (.val a) (.val b) (.val c) (.val (.int 8)) (.val (.tup [.ext 0 "NoWord" [] [], .str ""])) .no .no .no a b c) p = .ok ((.nx, enL (.val a) (.val b) (.val c) (.val (.int 8)) (.val (.tup [.ext 0 "NoWord" [] [], .str ""])) (.val (.ext 0 "NoWord" [] [])) (.val (.str "")) (.val (.lst [])) a b c), p) :=
    body_ok (Γ1 := enL (.val a) (.val b) (.val c) (.val (.int 8)) (.val (.tup [.ext 0 "NoWord" [] [], .str ""])) (.val (.ext 0 "NoWord" [] [])) (.val (.str "")) .no a b c) (by kernel_rfl) (by kernel_rfl) (by kernel_rfl) (by kernel_rfl) (rep_ok (l := []) h (by kernel_rfl)) (rep_ok (l := []) h2 (by kernel_rfl))
  have g : gT (gs1 (gN 7) (gs1 (gN 8) (gs0))) (.tup [.int 8, .tup [.ext 0 "NoWord" [] [], .str ""]]) (en0 a b c) = some (enL (.val a) (.val b) (.val c) (.val (.int 8)) (.val (.tup [.ext 0 "NoWord" [] [], .str ""])) .no .no .no a b c) := by kernel_rfl
  rw [g, opt_some, then_ok, e]
  rfl
theorem turn_9 {a b c : D} {p : Pot} (h : rOk [a] = true) (h2 : rOk [c] = true) : turnS (gT (gs1 (gN 7) (gs1 (gN 8) (gs0)))) b_law_2 [7, 8, 9, 10, 11] (.tup [.int 9, .tup [.ext 0 "TooMany" ["most"] [a], .str "most"]]) (en0 a b c) p = .ok ((.nx, en0 a b c), p) := by
  refine turnS_ap.trans ?_
  have e : b_law_2 (enL (.val a) (.val b) (.val c) (.val (.int 9)) (.val (.tup [.ext 0 "TooMany" ["most"] [a], .str "most"])) .no .no .no a b c) p = .ok ((.nx, enL (.val a) (.val b) (.val c) (.val (.int 9)) (.val (.tup [.ext 0 "TooMany" ["most"] [a], .str "most"])) (.val (.ext 0 "TooMany" ["most"] [a])) (.val (.str "most")) (.val (.lst [a])) a b c), p) :=
    body_ok (Γ1 := enL (.val a) (.val b) (.val c) (.val (.int 9)) (.val (.tup [.ext 0 "TooMany" ["most"] [a], .str "most"])) (.val (.ext 0 "TooMany" ["most"] [a])) (.val (.str "most")) .no a b c) (by kernel_rfl) (by kernel_rfl) (by kernel_rfl) (by kernel_rfl) (rep_ok (l := [a]) h (by kernel_rfl)) (rep_ok (l := [c]) h2 (by kernel_rfl))
  have g : gT (gs1 (gN 7) (gs1 (gN 8) (gs0))) (.tup [.int 9, .tup [.ext 0 "TooMany" ["most"] [a], .str "most"]]) (en0 a b c) = some (enL (.val a) (.val b) (.val c) (.val (.int 9)) (.val (.tup [.ext 0 "TooMany" ["most"] [a], .str "most"])) .no .no .no a b c) := by kernel_rfl
  rw [g, opt_some, then_ok, e]
  rfl
theorem thing_gen {f : SEnv → M D} {d : D} {p p' : Pot} (h : f [.pot] p = .ok (.lst things, p)) (e : m__law_pick [.lst things] p = .ok (d, p')) : runQ 1 (sRet (eCallQ 0 m__law_pick (eCons f eNil))) [] p = .ok (d, p') := by
  rw [runQ_ap]
  simp [h, e]
theorem thing_ok {p : Pot} (hp : PV p) : ∃ d p', m__law_thing [] p = .ok (d, p') ∧ d ∈ things ∧ PV p' := by
  obtain ⟨d, p', e, h, v⟩ := pick_ok (l := things) (by simp [things]) (by simp [things]) hp
  refine ⟨d, p', ?_, h, v⟩
  have e0 : (eLst (eCons (eC .non) (eCons (eC (.bl true)) (eCons (eC (.int 0)) (eCons (eUn negD (eC (.int 3))) (eCons (eOp powD (eC (.int 10)) (eC (.int 39))) (eCons (eC (.str "")) (eCons (eC (.str "all")) (eCons (eC (.str "a b")) (eCons (eTup (eNil)) (eCons (eTup (eCons (eC (.int 1)) (eCons (eC (.str "x")) (eNil)))) (eCons (eLst (eNil)) (eCons (eLst (eCons (eC .non) (eNil))) (eCons (eDnew) (eCons (eDispS (eC (.str "a")) (eTup (eCons (eC (.int 0)) (eNil)))) (eNil)))))))))))))))) [.pot] p = .ok (.lst things, p) := by kernel_rfl
  exact thing_gen e0 e
theorem take63 {l : List D} : cutL l none (some 63) = l.take 63 := by
  unfold cutL
  have : HT.sIx l.length l.length (some 63) = min 63 l.length := HT.sIx_nat l.length l.length 63
  rw [this, HT.sIx_none, List.drop_zero, Nat.sub_zero]
  by_cases h : 63 ≤ l.length
  · rw [Nat.min_eq_left h]
  · rw [Nat.min_eq_right (by omega), List.take_of_length_le (Nat.le_refl _), List.take_of_length_le (by omega)]
theorem runS_ap {N : Nat} {f : DS} {ns : List Int} {d : D} {Γ : SEnv} {p : Pot} (h : f (.scr ns :: List.replicate (N - 1) .no) pot0 = .ok ((.rt d, Γ), p)) : runS N f ns = .ok d := by
  unfold runS; rw [h]
@[simp] theorem eScrSl_ap {i : Nat} {n : Int} {Γ : SEnv} {p : Pot} : eScrSl i n Γ p = (opt (scrOf Γ[i]?) p).then fun ns p => .ok (.lst (cutL (ns.map .int) none (some n)), p) := (rfl)
@[simp] theorem scrOf_scr {ns : List Int} : scrOf (some (.scr ns)) = some ns := (rfl)
theorem hpot (ns : List Int) : m__law_pot ns = .ok (potD ⟨(ns.take 63).map fun z => if z < 0 then -z else z, 0, 20011, 0⟩) := by
  have lc : ∀ (l : List Int) p, lcL (stepC (gN 1) tYesD c__law_pot_1 [.scr ns, .no]) (l.map .int) p = .ok (l.map fun z => .int (if z < 0 then -z else z), p) := by
    intro l p
    induction l with
    | nil => rfl
    | cons z l ih => exact lcL_some (by simp [c__law_pot_1]) ih
  have sz := szD_ok (l := (ns.take 63).map D.int) (by simp; omega)
  refine runS_ap (Γ := [.scr ns, .no]) (p := pot0) ?_
  have t : cutL (ns.map D.int) none (some 63) = (ns.take 63).map D.int := by rw [take63, List.map_take]
  unfold d__law_pot
  rw [sRet_ap]
  have e := lc (ns.take 63) pot0
  generalize hL : (ns.take 63).map D.int = L at sz t e
  simp only [List.replicate] 
  simp [t, sz, e, mkLst_ok, potD]
  rfl
theorem rok (a b : D) (ha : a ∈ things) (hb : b ∈ things) : rOk [] = true ∧ rOk [a] = true ∧ rOk [a, b] = true :=
  ⟨rok_0, List.all_eq_true.mp rok_1 a ha, List.all_eq_true.mp (List.all_eq_true.mp rok_2 a ha) b hb⟩
theorem loop_ok {a b c : D} (ha : a ∈ things) (hb : b ∈ things) (hc : c ∈ things) (p : Pot) : sFor (eItems enumA (eVar 5)) (gT (gs1 (gN 7) (gs1 (gN 8) (gs0)))) (b_law_2) [7, 8, 9, 10, 11] (en0 a b c) p = .ok ((.nx, en0 a b c), p) := by
  obtain ⟨h0, h1, h2⟩ := rok a b ha hb
  obtain ⟨_, g1, g2⟩ := rok c a hc ha
  rw [sFor_ap]
  have e : eItems enumA (eVar 5) (en0 a b c) p = .ok (enumL 0 (rowsD a b), p) := by kernel_rfl
  rw [e, then_ok]
  refine (forL_step (turn_0 h1 g1)).trans ?_
  refine (forL_step (turn_1 h1 g1)).trans ?_
  refine (forL_step (turn_2 h2 g2)).trans ?_
  refine (forL_step (turn_3 h0 h0)).trans ?_
  refine (forL_step (turn_4 h0 h0)).trans ?_
  refine (forL_step (turn_5 h1 g1)).trans ?_
  refine (forL_step (turn_6 h0 h0)).trans ?_
  refine (forL_step (turn_7 h0 h0)).trans ?_
  refine (forL_step (turn_8 h0 h0)).trans ?_
  exact (forL_step (turn_9 h1 g1)).trans rfl
theorem law_gen {s3 s4 : DS} {a b c : D} {p p1 p2 p3 : Pot} (e1 : m__law_thing [] p = .ok (a, p1)) (e2 : m__law_thing [] p1 = .ok (b, p2)) (e3 : m__law_thing [] p2 = .ok (c, p3)) (l : s3 (en0 a b c) p3 = .ok ((.nx, en0 a b c), p3))
    (k : s4 (en0 a b c) p3 = .ok ((.rt (.bl true), [.no, .pot, .val a, .val b, .val c, .val (.lst (rowsD a b)), .val (.lst (rowsD c a)), .no, .no, .no, .no, .no, .no, .val (.ext 0 "LampError" [] [])]), p3)) :
    (sSeq (sPar [⟨2, false, eCallQ 1 m__law_thing (eNil)⟩, ⟨3, false, eCallQ 1 m__law_thing (eNil)⟩, ⟨4, false, eCallQ 1 m__law_thing (eNil)⟩])
  (sSeq (sPar [⟨5, false, eCallP m__law_rows (eCons (eVar 2) (eCons (eVar 3) (eNil)))⟩, ⟨6, false, eCallP m__law_rows (eCons (eVar 4) (eCons (eVar 2) (eNil)))⟩])
  (sSeq s3 s4))) (lawEnv 14 1) p = .ok ((.rt (.bl true), [.no, .pot, .val a, .val b, .val c, .val (.lst (rowsD a b)), .val (.lst (rowsD c a)), .no, .no, .no, .no, .no, .no, .val (.ext 0 "LampError" [] [])]), p3) := by
  have r1 := rows_ok a b
  have r2 := rows_ok c a
  rw [show lawEnv 14 1 = [.no, .pot, .no, .no, .no, .no, .no, .no, .no, .no, .no, .no, .no, .no] from rfl]
  change m__law_rows [a, b] = .ok (.lst (rowsD a b)) at r1
  change m__law_rows [c, a] = .ok (.lst (rowsD c a)) at r2
  simp [e1, e2, e3, r1, r2]
  rw [l]
  simp [k]
theorem hlaw (ns : List Int) : ∃ Γ p, d_law (lawEnv 14 1) ⟨(ns.take 63).map fun z => if z < 0 then -z else z, 0, 20011, 0⟩ = .ok ((.rt (.bl true), Γ), p) := by
  have hp : PV ⟨(ns.take 63).map fun z => if z < 0 then -z else z, 0, 20011, 0⟩ := ⟨by
      intro z hz
      obtain ⟨y, _, rfl⟩ := List.mem_map.mp hz
      split <;> omega, by show (0 : Int) ≤ 0; omega, by show (0 : Int) ≤ 20011; omega, by show (20011 : Int) < 2147483647; omega, by show (0 : Int) ≤ 0; omega⟩
  obtain ⟨a, p1, e1, ha, v1⟩ := thing_ok hp
  obtain ⟨b, p2, e2, hb, v2⟩ := thing_ok v1
  obtain ⟨c, p3, e3, hc, v3⟩ := thing_ok v2
  exact ⟨_, _, law_gen e1 e2 e3 (loop_ok ha hb hc p3) (by kernel_rfl)⟩
end G

set_option Elab.async false
set_option linter.all false
open PySem PySem.W PyProof.Rows PL G in
set_option maxRecDepth 100000 in
set_option maxHeartbeats 0 in
set_option pp.maxSteps 300 in
set_option pp.deepTerms false in
theorem PySem.Challenge.cw_lampfolk_k00_errors_alone_holds : PySem.Challenge.rw_lampfolk_k00_errors_alone.Holds := by
  w_on; o_law; k_head; (case hw => w_witness2)
  k_fill
  refine PL.walkG (l := PySem.Challenge.rw_lampfolk_k00_errors_alone) (n := 63) (k := 4) (x := "script") (CX := fun w => L2.CX PySem.Challenge.rw_lampfolk_k00_errors_alone.prog w) rfl (by decide) rfl ⟨rfl, by decide, by decide⟩ (fun w h Y => PySem.W.kIn_of Y) ?F ?I
  case I => exact fun w H s e s1 hx => PL.cx_false hx
  case F =>
    letI : PL.TabL := ⟨[]⟩
    intro w mg fa h Y KX G hmg
    refine' PL.step (defE_mk (mg := mg) (x := "_law_pot") (st := s__law_pot) (ps := [Str.ofString "script"]) KX G ?a0 ?l0 ?c0 ?k0 ?b0) ?n0
    (case a0 => k_is)
    (case l0 => k_is)
    (case c0 => k_is)
    (case k0 => k_is)
    (case b0 => exact fun _ _ _ _ _ _ us hl => match us, hl with | [_], _ => rfl)
    intro D__law_pot
    refine' PL.step (defE_mk (mg := mg) (x := "_law_draw") (st := s__law_draw) (ps := [Str.ofString "pot", Str.ofString "many"]) KX G ?a1 ?l1 ?c1 ?k1 ?b1) ?n1
    (case a1 => k_is)
    (case l1 => k_is)
    (case c1 => k_is)
    (case k1 => k_is)
    (case b1 => exact fun _ _ _ _ _ _ us hl => match us, hl with | [_, _], _ => rfl)
    intro D__law_draw
    refine' PL.step (defE_mk (mg := mg) (x := "_law_pick") (st := s__law_pick) (ps := [Str.ofString "pot", Str.ofString "row"]) KX G ?a2 ?l2 ?c2 ?k2 ?b2) ?n2
    (case a2 => k_is)
    (case l2 => k_is)
    (case c2 => k_is)
    (case k2 => k_is)
    (case b2 => exact fun _ _ _ _ _ _ us hl => match us, hl with | [_, _], _ => rfl)
    intro D__law_pick
    refine' PL.step (defE_mk (mg := mg) (x := "_law_thing") (st := s__law_thing) (ps := [Str.ofString "pot"]) KX G ?a3 ?l3 ?c3 ?k3 ?b3) ?n3
    (case a3 => k_is)
    (case l3 => k_is)
    (case c3 => k_is)
    (case k3 => k_is)
    (case b3 => exact fun _ _ _ _ _ _ us hl => match us, hl with | [_], _ => rfl)
    intro D__law_thing
    refine' PL.step (defE_mk (mg := mg) (x := "_law_kinds") (st := s__law_kinds) (ps := [Str.ofString "error"]) KX G ?a4 ?l4 ?c4 ?k4 ?b4) ?n4
    (case a4 => k_is)
    (case l4 => k_is)
    (case c4 => k_is)
    (case k4 => k_is)
    (case b4 => exact fun _ _ _ _ _ _ us hl => match us, hl with | [_], _ => rfl)
    intro D__law_kinds
    refine' PL.step (defE_mk (mg := mg) (x := "_law_rows") (st := s__law_rows) (ps := [Str.ofString "a", Str.ofString "b"]) KX G ?a5 ?l5 ?c5 ?k5 ?b5) ?n5
    (case a5 => k_is)
    (case l5 => k_is)
    (case c5 => k_is)
    (case k5 => k_is)
    (case b5 => exact fun _ _ _ _ _ _ us hl => match us, hl with | [_, _], _ => rfl)
    intro D__law_rows
    refine' PL.step (defE_mk (mg := mg) (x := "_law_told_of") (st := s__law_told_of) (ps := [Str.ofString "error", Str.ofString "words"]) KX G ?a6 ?l6 ?c6 ?k6 ?b6) ?n6
    (case a6 => k_is)
    (case l6 => k_is)
    (case c6 => k_is)
    (case k6 => k_is)
    (case b6 => exact fun _ _ _ _ _ _ us hl => match us, hl with | [_, _], _ => rfl)
    intro D__law_told_of
    refine' PL.step (defE_mk (mg := mg) (x := "law") (st := s_law) (ps := [Str.ofString "script"]) KX G ?a7 ?l7 ?c7 ?k7 ?b7) ?n7
    (case a7 => k_is)
    (case l7 => k_is)
    (case c7 => k_is)
    (case k7 => k_is)
    (case b7 => exact fun _ _ _ _ _ _ us hl => match us, hl with | [_], _ => rfl)
    intro D_law
    refine' PL.step (PL.none_mk (mg := mg) (x := "ValueError") KX G ?a1001) ?n1001
    (case a1001 => k_is)
    intro U_ValueError
    refine' PL.step (PL.none_mk (mg := mg) (x := "abs") KX G ?a1002) ?n1002
    (case a1002 => k_is)
    intro U_abs
    refine' PL.step (PL.none_mk (mg := mg) (x := "enumerate") KX G ?a1003) ?n1003
    (case a1003 => k_is)
    intro U_enumerate
    refine' PL.step (PL.none_mk (mg := mg) (x := "int") KX G ?a1004) ?n1004
    (case a1004 => k_is)
    intro U_int
    refine' PL.step (PL.none_mk (mg := mg) (x := "isinstance") KX G ?a1005) ?n1005
    (case a1005 => k_is)
    intro U_isinstance
    refine' PL.step (PL.none_mk (mg := mg) (x := "len") KX G ?a1006) ?n1006
    (case a1006 => k_is)
    intro U_len
    refine' PL.step (PL.none_mk (mg := mg) (x := "range") KX G ?a1007) ?n1007
    (case a1007 => k_is)
    intro U_range
    refine' PL.step (PL.none_mk (mg := mg) (x := "repr") KX G ?a1008) ?n1008
    (case a1008 => k_is)
    intro U_repr
    refine' PL.step (PL.xfE_mk (mg := mg) (c := "BadNumber") (n := "value") KX G ?a1009 ⟨?ga1009, ?gg1009, ?ex1009, ?hd1009⟩ ?fi1009) ?n1009
    (case a1009 => k_is)
    (case ga1009 => k_is)
    (case gg1009 => k_is)
    (case ex1009 => k_is)
    (case hd1009 => k_is)
    (case fi1009 => k_is)
    intro XF_BadNumber_value
    refine' PL.step (PL.xfE_mk (mg := mg) (c := "BadProgram") (n := "what") KX G ?a1010 ⟨?ga1010, ?gg1010, ?ex1010, ?hd1010⟩ ?fi1010) ?n1010
    (case a1010 => k_is)
    (case ga1010 => k_is)
    (case gg1010 => k_is)
    (case ex1010 => k_is)
    (case hd1010 => k_is)
    (case fi1010 => k_is)
    intro XF_BadProgram_what
    refine' PL.step (PL.xfE_mk (mg := mg) (c := "BadText") (n := "line") KX G ?a1011 ⟨?ga1011, ?gg1011, ?ex1011, ?hd1011⟩ ?fi1011) ?n1011
    (case a1011 => k_is)
    (case ga1011 => k_is)
    (case gg1011 => k_is)
    (case ex1011 => k_is)
    (case hd1011 => k_is)
    (case fi1011 => k_is)
    intro XF_BadText_line
    refine' PL.step (PL.xfE_mk (mg := mg) (c := "BadText") (n := "what") KX G ?a1012 ⟨?ga1012, ?gg1012, ?ex1012, ?hd1012⟩ ?fi1012) ?n1012
    (case a1012 => k_is)
    (case ga1012 => k_is)
    (case gg1012 => k_is)
    (case ex1012 => k_is)
    (case hd1012 => k_is)
    (case fi1012 => k_is)
    intro XF_BadText_what
    refine' PL.step (PL.xfE_mk (mg := mg) (c := "NoOrder") (n := "at") KX G ?a1013 ⟨?ga1013, ?gg1013, ?ex1013, ?hd1013⟩ ?fi1013) ?n1013
    (case a1013 => k_is)
    (case ga1013 => k_is)
    (case gg1013 => k_is)
    (case ex1013 => k_is)
    (case hd1013 => k_is)
    (case fi1013 => k_is)
    intro XF_NoOrder_at
    refine' PL.step (PL.xfE_mk (mg := mg) (c := "TooMany") (n := "most") KX G ?a1014 ⟨?ga1014, ?gg1014, ?ex1014, ?hd1014⟩ ?fi1014) ?n1014
    (case a1014 => k_is)
    (case ga1014 => k_is)
    (case gg1014 => k_is)
    (case ex1014 => k_is)
    (case hd1014 => k_is)
    (case fi1014 => k_is)
    intro XF_TooMany_most
    refine' PL.step (PL.xcF_mk (P := PySem.Challenge.pw_lampfolk_k00_errors_alone) (mg := mg) (x := "BadProgram") (qual := "BadProgram.__init__") (st := s_BadProgram_init) (ps := [Str.ofString "what"]) KX G ?a1015 ?su1015 ?co1015 ?rf1015 ?sa1015 ?ex1015 ?ty1015 ?kc1015 ?i1015 ?ti1015 ?l1015 ?cd1015 ?lc1015 ?hv1015 ?hf1015 ?ce1015 ?al1015 ?sv1015 ?op1015 ?b1015 ?ht1015) ?n1015
    (case a1015 => k_is)
    (case su1015 => k_is)
    (case co1015 => k_is)
    (case rf1015 => decide +kernel)
    (case sa1015 => k_is)
    (case ex1015 => k_is)
    (case ty1015 => k_is)
    (case kc1015 => k_is)
    (case i1015 => k_is)
    (case ti1015 => k_is)
    (case l1015 => k_is)
    (case cd1015 => k_is)
    (case lc1015 => k_is)
    (case hv1015 => rfl)
    (case hf1015 => decide +kernel)
    (case ce1015 => k_is)
    (case al1015 => kernel_rfl)
    (case sv1015 => k_is)
    (case op1015 => k_is)
    (case b1015 => exact fun us hl => match us, hl with | [_, _], _ => rfl)
    (case ht1015 => decide +kernel)
    intro XF_BadProgram
    refine' PL.step (PL.xcF_mk (P := PySem.Challenge.pw_lampfolk_k00_errors_alone) (mg := mg) (x := "BadText") (qual := "BadText.__init__") (st := s_BadText_init) (ps := [Str.ofString "line", Str.ofString "what"]) KX G ?a1016 ?su1016 ?co1016 ?rf1016 ?sa1016 ?ex1016 ?ty1016 ?kc1016 ?i1016 ?ti1016 ?l1016 ?cd1016 ?lc1016 ?hv1016 ?hf1016 ?ce1016 ?al1016 ?sv1016 ?op1016 ?b1016 ?ht1016) ?n1016
    (case a1016 => k_is)
    (case su1016 => k_is)
    (case co1016 => k_is)
    (case rf1016 => decide +kernel)
    (case sa1016 => k_is)
    (case ex1016 => k_is)
    (case ty1016 => k_is)
    (case kc1016 => k_is)
    (case i1016 => k_is)
    (case ti1016 => k_is)
    (case l1016 => k_is)
    (case cd1016 => k_is)
    (case lc1016 => k_is)
    (case hv1016 => rfl)
    (case hf1016 => decide +kernel)
    (case ce1016 => k_is)
    (case al1016 => kernel_rfl)
    (case sv1016 => k_is)
    (case op1016 => k_is)
    (case b1016 => exact fun us hl => match us, hl with | [_, _, _], _ => rfl)
    (case ht1016 => decide +kernel)
    intro XF_BadText
    refine' PL.step (PL.xcF_mk (P := PySem.Challenge.pw_lampfolk_k00_errors_alone) (mg := mg) (x := "BadNumber") (qual := "BadNumber.__init__") (st := s_BadNumber_init) (ps := [Str.ofString "value"]) KX G ?a1017 ?su1017 ?co1017 ?rf1017 ?sa1017 ?ex1017 ?ty1017 ?kc1017 ?i1017 ?ti1017 ?l1017 ?cd1017 ?lc1017 ?hv1017 ?hf1017 ?ce1017 ?al1017 ?sv1017 ?op1017 ?b1017 ?ht1017) ?n1017
    (case a1017 => k_is)
    (case su1017 => k_is)
    (case co1017 => k_is)
    (case rf1017 => decide +kernel)
    (case sa1017 => k_is)
    (case ex1017 => k_is)
    (case ty1017 => k_is)
    (case kc1017 => k_is)
    (case i1017 => k_is)
    (case ti1017 => k_is)
    (case l1017 => k_is)
    (case cd1017 => k_is)
    (case lc1017 => k_is)
    (case hv1017 => rfl)
    (case hf1017 => decide +kernel)
    (case ce1017 => k_is)
    (case al1017 => kernel_rfl)
    (case sv1017 => k_is)
    (case op1017 => k_is)
    (case b1017 => exact fun us hl => match us, hl with | [_, _], _ => rfl)
    (case ht1017 => decide +kernel)
    intro XF_BadNumber
    refine' PL.step (PL.xcF_mk (P := PySem.Challenge.pw_lampfolk_k00_errors_alone) (mg := mg) (x := "NoColour") (qual := "NoColour.__init__") (st := s_NoColour_init) (ps := []) KX G ?a1018 ?su1018 ?co1018 ?rf1018 ?sa1018 ?ex1018 ?ty1018 ?kc1018 ?i1018 ?ti1018 ?l1018 ?cd1018 ?lc1018 ?hv1018 ?hf1018 ?ce1018 ?al1018 ?sv1018 ?op1018 ?b1018 ?ht1018) ?n1018
    (case a1018 => k_is)
    (case su1018 => k_is)
    (case co1018 => k_is)
    (case rf1018 => decide +kernel)
    (case sa1018 => k_is)
    (case ex1018 => k_is)
    (case ty1018 => k_is)
    (case kc1018 => k_is)
    (case i1018 => k_is)
    (case ti1018 => k_is)
    (case l1018 => k_is)
    (case cd1018 => k_is)
    (case lc1018 => k_is)
    (case hv1018 => rfl)
    (case hf1018 => decide +kernel)
    (case ce1018 => k_is)
    (case al1018 => kernel_rfl)
    (case sv1018 => k_is)
    (case op1018 => k_is)
    (case b1018 => exact fun us hl => match us, hl with | [_], _ => rfl)
    (case ht1018 => decide +kernel)
    intro XF_NoColour
    refine' PL.step (PL.xcF_mk (P := PySem.Challenge.pw_lampfolk_k00_errors_alone) (mg := mg) (x := "NoStanding") (qual := "NoStanding.__init__") (st := s_NoStanding_init) (ps := []) KX G ?a1019 ?su1019 ?co1019 ?rf1019 ?sa1019 ?ex1019 ?ty1019 ?kc1019 ?i1019 ?ti1019 ?l1019 ?cd1019 ?lc1019 ?hv1019 ?hf1019 ?ce1019 ?al1019 ?sv1019 ?op1019 ?b1019 ?ht1019) ?n1019
    (case a1019 => k_is)
    (case su1019 => k_is)
    (case co1019 => k_is)
    (case rf1019 => decide +kernel)
    (case sa1019 => k_is)
    (case ex1019 => k_is)
    (case ty1019 => k_is)
    (case kc1019 => k_is)
    (case i1019 => k_is)
    (case ti1019 => k_is)
    (case l1019 => k_is)
    (case cd1019 => k_is)
    (case lc1019 => k_is)
    (case hv1019 => rfl)
    (case hf1019 => decide +kernel)
    (case ce1019 => k_is)
    (case al1019 => kernel_rfl)
    (case sv1019 => k_is)
    (case op1019 => k_is)
    (case b1019 => exact fun us hl => match us, hl with | [_], _ => rfl)
    (case ht1019 => decide +kernel)
    intro XF_NoStanding
    refine' PL.step (PL.xcF_mk (P := PySem.Challenge.pw_lampfolk_k00_errors_alone) (mg := mg) (x := "NoVisit") (qual := "NoVisit.__init__") (st := s_NoVisit_init) (ps := []) KX G ?a1020 ?su1020 ?co1020 ?rf1020 ?sa1020 ?ex1020 ?ty1020 ?kc1020 ?i1020 ?ti1020 ?l1020 ?cd1020 ?lc1020 ?hv1020 ?hf1020 ?ce1020 ?al1020 ?sv1020 ?op1020 ?b1020 ?ht1020) ?n1020
    (case a1020 => k_is)
    (case su1020 => k_is)
    (case co1020 => k_is)
    (case rf1020 => decide +kernel)
    (case sa1020 => k_is)
    (case ex1020 => k_is)
    (case ty1020 => k_is)
    (case kc1020 => k_is)
    (case i1020 => k_is)
    (case ti1020 => k_is)
    (case l1020 => k_is)
    (case cd1020 => k_is)
    (case lc1020 => k_is)
    (case hv1020 => rfl)
    (case hf1020 => decide +kernel)
    (case ce1020 => k_is)
    (case al1020 => kernel_rfl)
    (case sv1020 => k_is)
    (case op1020 => k_is)
    (case b1020 => exact fun us hl => match us, hl with | [_], _ => rfl)
    (case ht1020 => decide +kernel)
    intro XF_NoVisit
    refine' PL.step (PL.xcF_mk (P := PySem.Challenge.pw_lampfolk_k00_errors_alone) (mg := mg) (x := "NoOrder") (qual := "NoOrder.__init__") (st := s_NoOrder_init) (ps := [Str.ofString "at"]) KX G ?a1021 ?su1021 ?co1021 ?rf1021 ?sa1021 ?ex1021 ?ty1021 ?kc1021 ?i1021 ?ti1021 ?l1021 ?cd1021 ?lc1021 ?hv1021 ?hf1021 ?ce1021 ?al1021 ?sv1021 ?op1021 ?b1021 ?ht1021) ?n1021
    (case a1021 => k_is)
    (case su1021 => k_is)
    (case co1021 => k_is)
    (case rf1021 => decide +kernel)
    (case sa1021 => k_is)
    (case ex1021 => k_is)
    (case ty1021 => k_is)
    (case kc1021 => k_is)
    (case i1021 => k_is)
    (case ti1021 => k_is)
    (case l1021 => k_is)
    (case cd1021 => k_is)
    (case lc1021 => k_is)
    (case hv1021 => rfl)
    (case hf1021 => decide +kernel)
    (case ce1021 => k_is)
    (case al1021 => kernel_rfl)
    (case sv1021 => k_is)
    (case op1021 => k_is)
    (case b1021 => exact fun us hl => match us, hl with | [_, _], _ => rfl)
    (case ht1021 => decide +kernel)
    intro XF_NoOrder
    refine' PL.step (PL.xcF_mk (P := PySem.Challenge.pw_lampfolk_k00_errors_alone) (mg := mg) (x := "NoWord") (qual := "NoWord.__init__") (st := s_NoWord_init) (ps := []) KX G ?a1022 ?su1022 ?co1022 ?rf1022 ?sa1022 ?ex1022 ?ty1022 ?kc1022 ?i1022 ?ti1022 ?l1022 ?cd1022 ?lc1022 ?hv1022 ?hf1022 ?ce1022 ?al1022 ?sv1022 ?op1022 ?b1022 ?ht1022) ?n1022
    (case a1022 => k_is)
    (case su1022 => k_is)
    (case co1022 => k_is)
    (case rf1022 => decide +kernel)
    (case sa1022 => k_is)
    (case ex1022 => k_is)
    (case ty1022 => k_is)
    (case kc1022 => k_is)
    (case i1022 => k_is)
    (case ti1022 => k_is)
    (case l1022 => k_is)
    (case cd1022 => k_is)
    (case lc1022 => k_is)
    (case hv1022 => rfl)
    (case hf1022 => decide +kernel)
    (case ce1022 => k_is)
    (case al1022 => kernel_rfl)
    (case sv1022 => k_is)
    (case op1022 => k_is)
    (case b1022 => exact fun us hl => match us, hl with | [_], _ => rfl)
    (case ht1022 => decide +kernel)
    intro XF_NoWord
    refine' PL.step (PL.xcF_mk (P := PySem.Challenge.pw_lampfolk_k00_errors_alone) (mg := mg) (x := "NoFit") (qual := "NoFit.__init__") (st := s_NoFit_init) (ps := []) KX G ?a1023 ?su1023 ?co1023 ?rf1023 ?sa1023 ?ex1023 ?ty1023 ?kc1023 ?i1023 ?ti1023 ?l1023 ?cd1023 ?lc1023 ?hv1023 ?hf1023 ?ce1023 ?al1023 ?sv1023 ?op1023 ?b1023 ?ht1023) ?n1023
    (case a1023 => k_is)
    (case su1023 => k_is)
    (case co1023 => k_is)
    (case rf1023 => decide +kernel)
    (case sa1023 => k_is)
    (case ex1023 => k_is)
    (case ty1023 => k_is)
    (case kc1023 => k_is)
    (case i1023 => k_is)
    (case ti1023 => k_is)
    (case l1023 => k_is)
    (case cd1023 => k_is)
    (case lc1023 => k_is)
    (case hv1023 => rfl)
    (case hf1023 => decide +kernel)
    (case ce1023 => k_is)
    (case al1023 => kernel_rfl)
    (case sv1023 => k_is)
    (case op1023 => k_is)
    (case b1023 => exact fun us hl => match us, hl with | [_], _ => rfl)
    (case ht1023 => decide +kernel)
    intro XF_NoFit
    refine' PL.step (PL.xcF_mk (P := PySem.Challenge.pw_lampfolk_k00_errors_alone) (mg := mg) (x := "TooMany") (qual := "TooMany.__init__") (st := s_TooMany_init) (ps := [Str.ofString "most"]) KX G ?a1024 ?su1024 ?co1024 ?rf1024 ?sa1024 ?ex1024 ?ty1024 ?kc1024 ?i1024 ?ti1024 ?l1024 ?cd1024 ?lc1024 ?hv1024 ?hf1024 ?ce1024 ?al1024 ?sv1024 ?op1024 ?b1024 ?ht1024) ?n1024
    (case a1024 => k_is)
    (case su1024 => k_is)
    (case co1024 => k_is)
    (case rf1024 => decide +kernel)
    (case sa1024 => k_is)
    (case ex1024 => k_is)
    (case ty1024 => k_is)
    (case kc1024 => k_is)
    (case i1024 => k_is)
    (case ti1024 => k_is)
    (case l1024 => k_is)
    (case cd1024 => k_is)
    (case lc1024 => k_is)
    (case hv1024 => rfl)
    (case hf1024 => decide +kernel)
    (case ce1024 => k_is)
    (case al1024 => kernel_rfl)
    (case sv1024 => k_is)
    (case op1024 => k_is)
    (case b1024 => exact fun us hl => match us, hl with | [_, _], _ => rfl)
    (case ht1024 => decide +kernel)
    intro XF_TooMany
    refine' PL.step (PL.excAll_cons (mg := mg) (c := Str.ofString "LampError") KX G ?a1025 (PL.excK_mk ?cl1025 ?ga1025 ?gg1025 ?ex1025 ?ha1025 ?hn1025 ?htk1025 ?hm1025) PL.excAll_nil) ?n1025
    (case a1025 => k_is)
    (case cl1025 => first | k_is | kernel_rfl)
    (case ga1025 => k_is)
    (case gg1025 => k_is)
    (case ex1025 => k_is)
    (case ha1025 => k_is)
    (case hn1025 => k_is)
    (case htk1025 => k_is)
    (case hm1025 => first | k_is | kernel_rfl)
    intro XK10
    refine' PL.step (PL.excAll_cons (mg := mg) (c := Str.ofString "TooMany") KX G ?a1026 (PL.excK_mk ?cl1026 ?ga1026 ?gg1026 ?ex1026 ?ha1026 ?hn1026 ?htk1026 ?hm1026) XK10) ?n1026
    (case a1026 => k_is)
    (case cl1026 => first | k_is | kernel_rfl)
    (case ga1026 => k_is)
    (case gg1026 => k_is)
    (case ex1026 => k_is)
    (case ha1026 => k_is)
    (case hn1026 => k_is)
    (case htk1026 => k_is)
    (case hm1026 => first | k_is | kernel_rfl)
    intro XK9
    refine' PL.step (PL.excAll_cons (mg := mg) (c := Str.ofString "NoFit") KX G ?a1027 (PL.excK_mk ?cl1027 ?ga1027 ?gg1027 ?ex1027 ?ha1027 ?hn1027 ?htk1027 ?hm1027) XK9) ?n1027
    (case a1027 => k_is)
    (case cl1027 => first | k_is | kernel_rfl)
    (case ga1027 => k_is)
    (case gg1027 => k_is)
    (case ex1027 => k_is)
    (case ha1027 => k_is)
    (case hn1027 => k_is)
    (case htk1027 => k_is)
    (case hm1027 => first | k_is | kernel_rfl)
    intro XK8
    refine' PL.step (PL.excAll_cons (mg := mg) (c := Str.ofString "NoWord") KX G ?a1028 (PL.excK_mk ?cl1028 ?ga1028 ?gg1028 ?ex1028 ?ha1028 ?hn1028 ?htk1028 ?hm1028) XK8) ?n1028
    (case a1028 => k_is)
    (case cl1028 => first | k_is | kernel_rfl)
    (case ga1028 => k_is)
    (case gg1028 => k_is)
    (case ex1028 => k_is)
    (case ha1028 => k_is)
    (case hn1028 => k_is)
    (case htk1028 => k_is)
    (case hm1028 => first | k_is | kernel_rfl)
    intro XK7
    refine' PL.step (PL.excAll_cons (mg := mg) (c := Str.ofString "NoOrder") KX G ?a1029 (PL.excK_mk ?cl1029 ?ga1029 ?gg1029 ?ex1029 ?ha1029 ?hn1029 ?htk1029 ?hm1029) XK7) ?n1029
    (case a1029 => k_is)
    (case cl1029 => first | k_is | kernel_rfl)
    (case ga1029 => k_is)
    (case gg1029 => k_is)
    (case ex1029 => k_is)
    (case ha1029 => k_is)
    (case hn1029 => k_is)
    (case htk1029 => k_is)
    (case hm1029 => first | k_is | kernel_rfl)
    intro XK6
    refine' PL.step (PL.excAll_cons (mg := mg) (c := Str.ofString "NoVisit") KX G ?a1030 (PL.excK_mk ?cl1030 ?ga1030 ?gg1030 ?ex1030 ?ha1030 ?hn1030 ?htk1030 ?hm1030) XK6) ?n1030
    (case a1030 => k_is)
    (case cl1030 => first | k_is | kernel_rfl)
    (case ga1030 => k_is)
    (case gg1030 => k_is)
    (case ex1030 => k_is)
    (case ha1030 => k_is)
    (case hn1030 => k_is)
    (case htk1030 => k_is)
    (case hm1030 => first | k_is | kernel_rfl)
    intro XK5
    refine' PL.step (PL.excAll_cons (mg := mg) (c := Str.ofString "NoStanding") KX G ?a1031 (PL.excK_mk ?cl1031 ?ga1031 ?gg1031 ?ex1031 ?ha1031 ?hn1031 ?htk1031 ?hm1031) XK5) ?n1031
    (case a1031 => k_is)
    (case cl1031 => first | k_is | kernel_rfl)
    (case ga1031 => k_is)
    (case gg1031 => k_is)
    (case ex1031 => k_is)
    (case ha1031 => k_is)
    (case hn1031 => k_is)
    (case htk1031 => k_is)
    (case hm1031 => first | k_is | kernel_rfl)
    intro XK4
    refine' PL.step (PL.excAll_cons (mg := mg) (c := Str.ofString "NoColour") KX G ?a1032 (PL.excK_mk ?cl1032 ?ga1032 ?gg1032 ?ex1032 ?ha1032 ?hn1032 ?htk1032 ?hm1032) XK4) ?n1032
    (case a1032 => k_is)
    (case cl1032 => first | k_is | kernel_rfl)
    (case ga1032 => k_is)
    (case gg1032 => k_is)
    (case ex1032 => k_is)
    (case ha1032 => k_is)
    (case hn1032 => k_is)
    (case htk1032 => k_is)
    (case hm1032 => first | k_is | kernel_rfl)
    intro XK3
    refine' PL.step (PL.excAll_cons (mg := mg) (c := Str.ofString "BadNumber") KX G ?a1033 (PL.excK_mk ?cl1033 ?ga1033 ?gg1033 ?ex1033 ?ha1033 ?hn1033 ?htk1033 ?hm1033) XK3) ?n1033
    (case a1033 => k_is)
    (case cl1033 => first | k_is | kernel_rfl)
    (case ga1033 => k_is)
    (case gg1033 => k_is)
    (case ex1033 => k_is)
    (case ha1033 => k_is)
    (case hn1033 => k_is)
    (case htk1033 => k_is)
    (case hm1033 => first | k_is | kernel_rfl)
    intro XK2
    refine' PL.step (PL.excAll_cons (mg := mg) (c := Str.ofString "BadText") KX G ?a1034 (PL.excK_mk ?cl1034 ?ga1034 ?gg1034 ?ex1034 ?ha1034 ?hn1034 ?htk1034 ?hm1034) XK2) ?n1034
    (case a1034 => k_is)
    (case cl1034 => first | k_is | kernel_rfl)
    (case ga1034 => k_is)
    (case gg1034 => k_is)
    (case ex1034 => k_is)
    (case ha1034 => k_is)
    (case hn1034 => k_is)
    (case htk1034 => k_is)
    (case hm1034 => first | k_is | kernel_rfl)
    intro XK1
    refine' PL.step (PL.excAll_cons (mg := mg) (c := Str.ofString "BadProgram") KX G ?a1035 (PL.excK_mk ?cl1035 ?ga1035 ?gg1035 ?ex1035 ?ha1035 ?hn1035 ?htk1035 ?hm1035) XK1) ?n1035
    (case a1035 => k_is)
    (case cl1035 => first | k_is | kernel_rfl)
    (case ga1035 => k_is)
    (case gg1035 => k_is)
    (case ex1035 => k_is)
    (case ha1035 => k_is)
    (case hn1035 => k_is)
    (case htk1035 => k_is)
    (case hm1035 => first | k_is | kernel_rfl)
    intro XK
    refine' PL.step (PL.kitR_mk (mg := mg) (t := Str.ofString "BadProgram") (tb := tb_BadProgram) KX G ?b1036 (PL.kitE_cons (mg := mg) (c := Str.ofString "BadProgram") (b := true) KX G ?a0z1036 ?e0z1036 (PL.kitE_cons (mg := mg) (c := Str.ofString "BadText") (b := false) KX G ?a1z1036 ?e1z1036 (PL.kitE_cons (mg := mg) (c := Str.ofString "BadNumber") (b := false) KX G ?a2z1036 ?e2z1036 (PL.kitE_cons (mg := mg) (c := Str.ofString "NoColour") (b := false) KX G ?a3z1036 ?e3z1036 (PL.kitE_cons (mg := mg) (c := Str.ofString "NoStanding") (b := false) KX G ?a4z1036 ?e4z1036 (PL.kitE_cons (mg := mg) (c := Str.ofString "NoVisit") (b := false) KX G ?a5z1036 ?e5z1036 (PL.kitE_cons (mg := mg) (c := Str.ofString "NoOrder") (b := false) KX G ?a6z1036 ?e6z1036 (PL.kitE_cons (mg := mg) (c := Str.ofString "NoWord") (b := false) KX G ?a7z1036 ?e7z1036 (PL.kitE_cons (mg := mg) (c := Str.ofString "NoFit") (b := false) KX G ?a8z1036 ?e8z1036 (PL.kitE_cons (mg := mg) (c := Str.ofString "TooMany") (b := false) KX G ?a9z1036 ?e9z1036 (PL.kitE_cons (mg := mg) (c := Str.ofString "LampError") (b := false) KX G ?a10z1036 ?e10z1036 (PL.kitE_nil))))))))))))) ?n1036
    (case b1036 => k_is)
    (case a0z1036 => k_is)
    (case e0z1036 => kernel_rfl)
    (case a1z1036 => k_is)
    (case e1z1036 => kernel_rfl)
    (case a2z1036 => k_is)
    (case e2z1036 => kernel_rfl)
    (case a3z1036 => k_is)
    (case e3z1036 => kernel_rfl)
    (case a4z1036 => k_is)
    (case e4z1036 => kernel_rfl)
    (case a5z1036 => k_is)
    (case e5z1036 => kernel_rfl)
    (case a6z1036 => k_is)
    (case e6z1036 => kernel_rfl)
    (case a7z1036 => k_is)
    (case e7z1036 => kernel_rfl)
    (case a8z1036 => k_is)
    (case e8z1036 => kernel_rfl)
    (case a9z1036 => k_is)
    (case e9z1036 => kernel_rfl)
    (case a10z1036 => k_is)
    (case e10z1036 => kernel_rfl)
    intro KT_BadProgram
    refine' PL.step (PL.kitR_mk (mg := mg) (t := Str.ofString "BadText") (tb := tb_BadText) KX G ?b1037 (PL.kitE_cons (mg := mg) (c := Str.ofString "BadProgram") (b := false) KX G ?a0z1037 ?e0z1037 (PL.kitE_cons (mg := mg) (c := Str.ofString "BadText") (b := true) KX G ?a1z1037 ?e1z1037 (PL.kitE_cons (mg := mg) (c := Str.ofString "BadNumber") (b := false) KX G ?a2z1037 ?e2z1037 (PL.kitE_cons (mg := mg) (c := Str.ofString "NoColour") (b := false) KX G ?a3z1037 ?e3z1037 (PL.kitE_cons (mg := mg) (c := Str.ofString "NoStanding") (b := false) KX G ?a4z1037 ?e4z1037 (PL.kitE_cons (mg := mg) (c := Str.ofString "NoVisit") (b := false) KX G ?a5z1037 ?e5z1037 (PL.kitE_cons (mg := mg) (c := Str.ofString "NoOrder") (b := false) KX G ?a6z1037 ?e6z1037 (PL.kitE_cons (mg := mg) (c := Str.ofString "NoWord") (b := false) KX G ?a7z1037 ?e7z1037 (PL.kitE_cons (mg := mg) (c := Str.ofString "NoFit") (b := false) KX G ?a8z1037 ?e8z1037 (PL.kitE_cons (mg := mg) (c := Str.ofString "TooMany") (b := false) KX G ?a9z1037 ?e9z1037 (PL.kitE_cons (mg := mg) (c := Str.ofString "LampError") (b := false) KX G ?a10z1037 ?e10z1037 (PL.kitE_nil))))))))))))) ?n1037
    (case b1037 => k_is)
    (case a0z1037 => k_is)
    (case e0z1037 => kernel_rfl)
    (case a1z1037 => k_is)
    (case e1z1037 => kernel_rfl)
    (case a2z1037 => k_is)
    (case e2z1037 => kernel_rfl)
    (case a3z1037 => k_is)
    (case e3z1037 => kernel_rfl)
    (case a4z1037 => k_is)
    (case e4z1037 => kernel_rfl)
    (case a5z1037 => k_is)
    (case e5z1037 => kernel_rfl)
    (case a6z1037 => k_is)
    (case e6z1037 => kernel_rfl)
    (case a7z1037 => k_is)
    (case e7z1037 => kernel_rfl)
    (case a8z1037 => k_is)
    (case e8z1037 => kernel_rfl)
    (case a9z1037 => k_is)
    (case e9z1037 => kernel_rfl)
    (case a10z1037 => k_is)
    (case e10z1037 => kernel_rfl)
    intro KT_BadText
    refine' PL.step (PL.kitR_mk (mg := mg) (t := Str.ofString "BadNumber") (tb := tb_BadNumber) KX G ?b1038 (PL.kitE_cons (mg := mg) (c := Str.ofString "BadProgram") (b := false) KX G ?a0z1038 ?e0z1038 (PL.kitE_cons (mg := mg) (c := Str.ofString "BadText") (b := false) KX G ?a1z1038 ?e1z1038 (PL.kitE_cons (mg := mg) (c := Str.ofString "BadNumber") (b := true) KX G ?a2z1038 ?e2z1038 (PL.kitE_cons (mg := mg) (c := Str.ofString "NoColour") (b := false) KX G ?a3z1038 ?e3z1038 (PL.kitE_cons (mg := mg) (c := Str.ofString "NoStanding") (b := false) KX G ?a4z1038 ?e4z1038 (PL.kitE_cons (mg := mg) (c := Str.ofString "NoVisit") (b := false) KX G ?a5z1038 ?e5z1038 (PL.kitE_cons (mg := mg) (c := Str.ofString "NoOrder") (b := false) KX G ?a6z1038 ?e6z1038 (PL.kitE_cons (mg := mg) (c := Str.ofString "NoWord") (b := false) KX G ?a7z1038 ?e7z1038 (PL.kitE_cons (mg := mg) (c := Str.ofString "NoFit") (b := false) KX G ?a8z1038 ?e8z1038 (PL.kitE_cons (mg := mg) (c := Str.ofString "TooMany") (b := false) KX G ?a9z1038 ?e9z1038 (PL.kitE_cons (mg := mg) (c := Str.ofString "LampError") (b := false) KX G ?a10z1038 ?e10z1038 (PL.kitE_nil))))))))))))) ?n1038
    (case b1038 => k_is)
    (case a0z1038 => k_is)
    (case e0z1038 => kernel_rfl)
    (case a1z1038 => k_is)
    (case e1z1038 => kernel_rfl)
    (case a2z1038 => k_is)
    (case e2z1038 => kernel_rfl)
    (case a3z1038 => k_is)
    (case e3z1038 => kernel_rfl)
    (case a4z1038 => k_is)
    (case e4z1038 => kernel_rfl)
    (case a5z1038 => k_is)
    (case e5z1038 => kernel_rfl)
    (case a6z1038 => k_is)
    (case e6z1038 => kernel_rfl)
    (case a7z1038 => k_is)
    (case e7z1038 => kernel_rfl)
    (case a8z1038 => k_is)
    (case e8z1038 => kernel_rfl)
    (case a9z1038 => k_is)
    (case e9z1038 => kernel_rfl)
    (case a10z1038 => k_is)
    (case e10z1038 => kernel_rfl)
    intro KT_BadNumber
    refine' PL.step (PL.kitR_mk (mg := mg) (t := Str.ofString "NoColour") (tb := tb_NoColour) KX G ?b1039 (PL.kitE_cons (mg := mg) (c := Str.ofString "BadProgram") (b := false) KX G ?a0z1039 ?e0z1039 (PL.kitE_cons (mg := mg) (c := Str.ofString "BadText") (b := false) KX G ?a1z1039 ?e1z1039 (PL.kitE_cons (mg := mg) (c := Str.ofString "BadNumber") (b := false) KX G ?a2z1039 ?e2z1039 (PL.kitE_cons (mg := mg) (c := Str.ofString "NoColour") (b := true) KX G ?a3z1039 ?e3z1039 (PL.kitE_cons (mg := mg) (c := Str.ofString "NoStanding") (b := false) KX G ?a4z1039 ?e4z1039 (PL.kitE_cons (mg := mg) (c := Str.ofString "NoVisit") (b := false) KX G ?a5z1039 ?e5z1039 (PL.kitE_cons (mg := mg) (c := Str.ofString "NoOrder") (b := false) KX G ?a6z1039 ?e6z1039 (PL.kitE_cons (mg := mg) (c := Str.ofString "NoWord") (b := false) KX G ?a7z1039 ?e7z1039 (PL.kitE_cons (mg := mg) (c := Str.ofString "NoFit") (b := false) KX G ?a8z1039 ?e8z1039 (PL.kitE_cons (mg := mg) (c := Str.ofString "TooMany") (b := false) KX G ?a9z1039 ?e9z1039 (PL.kitE_cons (mg := mg) (c := Str.ofString "LampError") (b := false) KX G ?a10z1039 ?e10z1039 (PL.kitE_nil))))))))))))) ?n1039
    (case b1039 => k_is)
    (case a0z1039 => k_is)
    (case e0z1039 => kernel_rfl)
    (case a1z1039 => k_is)
    (case e1z1039 => kernel_rfl)
    (case a2z1039 => k_is)
    (case e2z1039 => kernel_rfl)
    (case a3z1039 => k_is)
    (case e3z1039 => kernel_rfl)
    (case a4z1039 => k_is)
    (case e4z1039 => kernel_rfl)
    (case a5z1039 => k_is)
    (case e5z1039 => kernel_rfl)
    (case a6z1039 => k_is)
    (case e6z1039 => kernel_rfl)
    (case a7z1039 => k_is)
    (case e7z1039 => kernel_rfl)
    (case a8z1039 => k_is)
    (case e8z1039 => kernel_rfl)
    (case a9z1039 => k_is)
    (case e9z1039 => kernel_rfl)
    (case a10z1039 => k_is)
    (case e10z1039 => kernel_rfl)
    intro KT_NoColour
    refine' PL.step (PL.kitR_mk (mg := mg) (t := Str.ofString "NoStanding") (tb := tb_NoStanding) KX G ?b1040 (PL.kitE_cons (mg := mg) (c := Str.ofString "BadProgram") (b := false) KX G ?a0z1040 ?e0z1040 (PL.kitE_cons (mg := mg) (c := Str.ofString "BadText") (b := false) KX G ?a1z1040 ?e1z1040 (PL.kitE_cons (mg := mg) (c := Str.ofString "BadNumber") (b := false) KX G ?a2z1040 ?e2z1040 (PL.kitE_cons (mg := mg) (c := Str.ofString "NoColour") (b := false) KX G ?a3z1040 ?e3z1040 (PL.kitE_cons (mg := mg) (c := Str.ofString "NoStanding") (b := true) KX G ?a4z1040 ?e4z1040 (PL.kitE_cons (mg := mg) (c := Str.ofString "NoVisit") (b := false) KX G ?a5z1040 ?e5z1040 (PL.kitE_cons (mg := mg) (c := Str.ofString "NoOrder") (b := false) KX G ?a6z1040 ?e6z1040 (PL.kitE_cons (mg := mg) (c := Str.ofString "NoWord") (b := false) KX G ?a7z1040 ?e7z1040 (PL.kitE_cons (mg := mg) (c := Str.ofString "NoFit") (b := false) KX G ?a8z1040 ?e8z1040 (PL.kitE_cons (mg := mg) (c := Str.ofString "TooMany") (b := false) KX G ?a9z1040 ?e9z1040 (PL.kitE_cons (mg := mg) (c := Str.ofString "LampError") (b := false) KX G ?a10z1040 ?e10z1040 (PL.kitE_nil))))))))))))) ?n1040
    (case b1040 => k_is)
    (case a0z1040 => k_is)
    (case e0z1040 => kernel_rfl)
    (case a1z1040 => k_is)
    (case e1z1040 => kernel_rfl)
    (case a2z1040 => k_is)
    (case e2z1040 => kernel_rfl)
    (case a3z1040 => k_is)
    (case e3z1040 => kernel_rfl)
    (case a4z1040 => k_is)
    (case e4z1040 => kernel_rfl)
    (case a5z1040 => k_is)
    (case e5z1040 => kernel_rfl)
    (case a6z1040 => k_is)
    (case e6z1040 => kernel_rfl)
    (case a7z1040 => k_is)
    (case e7z1040 => kernel_rfl)
    (case a8z1040 => k_is)
    (case e8z1040 => kernel_rfl)
    (case a9z1040 => k_is)
    (case e9z1040 => kernel_rfl)
    (case a10z1040 => k_is)
    (case e10z1040 => kernel_rfl)
    intro KT_NoStanding
    refine' PL.step (PL.kitR_mk (mg := mg) (t := Str.ofString "NoVisit") (tb := tb_NoVisit) KX G ?b1041 (PL.kitE_cons (mg := mg) (c := Str.ofString "BadProgram") (b := false) KX G ?a0z1041 ?e0z1041 (PL.kitE_cons (mg := mg) (c := Str.ofString "BadText") (b := false) KX G ?a1z1041 ?e1z1041 (PL.kitE_cons (mg := mg) (c := Str.ofString "BadNumber") (b := false) KX G ?a2z1041 ?e2z1041 (PL.kitE_cons (mg := mg) (c := Str.ofString "NoColour") (b := false) KX G ?a3z1041 ?e3z1041 (PL.kitE_cons (mg := mg) (c := Str.ofString "NoStanding") (b := false) KX G ?a4z1041 ?e4z1041 (PL.kitE_cons (mg := mg) (c := Str.ofString "NoVisit") (b := true) KX G ?a5z1041 ?e5z1041 (PL.kitE_cons (mg := mg) (c := Str.ofString "NoOrder") (b := false) KX G ?a6z1041 ?e6z1041 (PL.kitE_cons (mg := mg) (c := Str.ofString "NoWord") (b := false) KX G ?a7z1041 ?e7z1041 (PL.kitE_cons (mg := mg) (c := Str.ofString "NoFit") (b := false) KX G ?a8z1041 ?e8z1041 (PL.kitE_cons (mg := mg) (c := Str.ofString "TooMany") (b := false) KX G ?a9z1041 ?e9z1041 (PL.kitE_cons (mg := mg) (c := Str.ofString "LampError") (b := false) KX G ?a10z1041 ?e10z1041 (PL.kitE_nil))))))))))))) ?n1041
    (case b1041 => k_is)
    (case a0z1041 => k_is)
    (case e0z1041 => kernel_rfl)
    (case a1z1041 => k_is)
    (case e1z1041 => kernel_rfl)
    (case a2z1041 => k_is)
    (case e2z1041 => kernel_rfl)
    (case a3z1041 => k_is)
    (case e3z1041 => kernel_rfl)
    (case a4z1041 => k_is)
    (case e4z1041 => kernel_rfl)
    (case a5z1041 => k_is)
    (case e5z1041 => kernel_rfl)
    (case a6z1041 => k_is)
    (case e6z1041 => kernel_rfl)
    (case a7z1041 => k_is)
    (case e7z1041 => kernel_rfl)
    (case a8z1041 => k_is)
    (case e8z1041 => kernel_rfl)
    (case a9z1041 => k_is)
    (case e9z1041 => kernel_rfl)
    (case a10z1041 => k_is)
    (case e10z1041 => kernel_rfl)
    intro KT_NoVisit
    refine' PL.step (PL.kitR_mk (mg := mg) (t := Str.ofString "NoOrder") (tb := tb_NoOrder) KX G ?b1042 (PL.kitE_cons (mg := mg) (c := Str.ofString "BadProgram") (b := false) KX G ?a0z1042 ?e0z1042 (PL.kitE_cons (mg := mg) (c := Str.ofString "BadText") (b := false) KX G ?a1z1042 ?e1z1042 (PL.kitE_cons (mg := mg) (c := Str.ofString "BadNumber") (b := false) KX G ?a2z1042 ?e2z1042 (PL.kitE_cons (mg := mg) (c := Str.ofString "NoColour") (b := false) KX G ?a3z1042 ?e3z1042 (PL.kitE_cons (mg := mg) (c := Str.ofString "NoStanding") (b := false) KX G ?a4z1042 ?e4z1042 (PL.kitE_cons (mg := mg) (c := Str.ofString "NoVisit") (b := false) KX G ?a5z1042 ?e5z1042 (PL.kitE_cons (mg := mg) (c := Str.ofString "NoOrder") (b := true) KX G ?a6z1042 ?e6z1042 (PL.kitE_cons (mg := mg) (c := Str.ofString "NoWord") (b := false) KX G ?a7z1042 ?e7z1042 (PL.kitE_cons (mg := mg) (c := Str.ofString "NoFit") (b := false) KX G ?a8z1042 ?e8z1042 (PL.kitE_cons (mg := mg) (c := Str.ofString "TooMany") (b := false) KX G ?a9z1042 ?e9z1042 (PL.kitE_cons (mg := mg) (c := Str.ofString "LampError") (b := false) KX G ?a10z1042 ?e10z1042 (PL.kitE_nil))))))))))))) ?n1042
    (case b1042 => k_is)
    (case a0z1042 => k_is)
    (case e0z1042 => kernel_rfl)
    (case a1z1042 => k_is)
    (case e1z1042 => kernel_rfl)
    (case a2z1042 => k_is)
    (case e2z1042 => kernel_rfl)
    (case a3z1042 => k_is)
    (case e3z1042 => kernel_rfl)
    (case a4z1042 => k_is)
    (case e4z1042 => kernel_rfl)
    (case a5z1042 => k_is)
    (case e5z1042 => kernel_rfl)
    (case a6z1042 => k_is)
    (case e6z1042 => kernel_rfl)
    (case a7z1042 => k_is)
    (case e7z1042 => kernel_rfl)
    (case a8z1042 => k_is)
    (case e8z1042 => kernel_rfl)
    (case a9z1042 => k_is)
    (case e9z1042 => kernel_rfl)
    (case a10z1042 => k_is)
    (case e10z1042 => kernel_rfl)
    intro KT_NoOrder
    refine' PL.step (PL.kitR_mk (mg := mg) (t := Str.ofString "NoWord") (tb := tb_NoWord) KX G ?b1043 (PL.kitE_cons (mg := mg) (c := Str.ofString "BadProgram") (b := false) KX G ?a0z1043 ?e0z1043 (PL.kitE_cons (mg := mg) (c := Str.ofString "BadText") (b := false) KX G ?a1z1043 ?e1z1043 (PL.kitE_cons (mg := mg) (c := Str.ofString "BadNumber") (b := false) KX G ?a2z1043 ?e2z1043 (PL.kitE_cons (mg := mg) (c := Str.ofString "NoColour") (b := false) KX G ?a3z1043 ?e3z1043 (PL.kitE_cons (mg := mg) (c := Str.ofString "NoStanding") (b := false) KX G ?a4z1043 ?e4z1043 (PL.kitE_cons (mg := mg) (c := Str.ofString "NoVisit") (b := false) KX G ?a5z1043 ?e5z1043 (PL.kitE_cons (mg := mg) (c := Str.ofString "NoOrder") (b := false) KX G ?a6z1043 ?e6z1043 (PL.kitE_cons (mg := mg) (c := Str.ofString "NoWord") (b := true) KX G ?a7z1043 ?e7z1043 (PL.kitE_cons (mg := mg) (c := Str.ofString "NoFit") (b := false) KX G ?a8z1043 ?e8z1043 (PL.kitE_cons (mg := mg) (c := Str.ofString "TooMany") (b := false) KX G ?a9z1043 ?e9z1043 (PL.kitE_cons (mg := mg) (c := Str.ofString "LampError") (b := false) KX G ?a10z1043 ?e10z1043 (PL.kitE_nil))))))))))))) ?n1043
    (case b1043 => k_is)
    (case a0z1043 => k_is)
    (case e0z1043 => kernel_rfl)
    (case a1z1043 => k_is)
    (case e1z1043 => kernel_rfl)
    (case a2z1043 => k_is)
    (case e2z1043 => kernel_rfl)
    (case a3z1043 => k_is)
    (case e3z1043 => kernel_rfl)
    (case a4z1043 => k_is)
    (case e4z1043 => kernel_rfl)
    (case a5z1043 => k_is)
    (case e5z1043 => kernel_rfl)
    (case a6z1043 => k_is)
    (case e6z1043 => kernel_rfl)
    (case a7z1043 => k_is)
    (case e7z1043 => kernel_rfl)
    (case a8z1043 => k_is)
    (case e8z1043 => kernel_rfl)
    (case a9z1043 => k_is)
    (case e9z1043 => kernel_rfl)
    (case a10z1043 => k_is)
    (case e10z1043 => kernel_rfl)
    intro KT_NoWord
    refine' PL.step (PL.kitR_mk (mg := mg) (t := Str.ofString "NoFit") (tb := tb_NoFit) KX G ?b1044 (PL.kitE_cons (mg := mg) (c := Str.ofString "BadProgram") (b := false) KX G ?a0z1044 ?e0z1044 (PL.kitE_cons (mg := mg) (c := Str.ofString "BadText") (b := false) KX G ?a1z1044 ?e1z1044 (PL.kitE_cons (mg := mg) (c := Str.ofString "BadNumber") (b := false) KX G ?a2z1044 ?e2z1044 (PL.kitE_cons (mg := mg) (c := Str.ofString "NoColour") (b := false) KX G ?a3z1044 ?e3z1044 (PL.kitE_cons (mg := mg) (c := Str.ofString "NoStanding") (b := false) KX G ?a4z1044 ?e4z1044 (PL.kitE_cons (mg := mg) (c := Str.ofString "NoVisit") (b := false) KX G ?a5z1044 ?e5z1044 (PL.kitE_cons (mg := mg) (c := Str.ofString "NoOrder") (b := false) KX G ?a6z1044 ?e6z1044 (PL.kitE_cons (mg := mg) (c := Str.ofString "NoWord") (b := false) KX G ?a7z1044 ?e7z1044 (PL.kitE_cons (mg := mg) (c := Str.ofString "NoFit") (b := true) KX G ?a8z1044 ?e8z1044 (PL.kitE_cons (mg := mg) (c := Str.ofString "TooMany") (b := false) KX G ?a9z1044 ?e9z1044 (PL.kitE_cons (mg := mg) (c := Str.ofString "LampError") (b := false) KX G ?a10z1044 ?e10z1044 (PL.kitE_nil))))))))))))) ?n1044
    (case b1044 => k_is)
    (case a0z1044 => k_is)
    (case e0z1044 => kernel_rfl)
    (case a1z1044 => k_is)
    (case e1z1044 => kernel_rfl)
    (case a2z1044 => k_is)
    (case e2z1044 => kernel_rfl)
    (case a3z1044 => k_is)
    (case e3z1044 => kernel_rfl)
    (case a4z1044 => k_is)
    (case e4z1044 => kernel_rfl)
    (case a5z1044 => k_is)
    (case e5z1044 => kernel_rfl)
    (case a6z1044 => k_is)
    (case e6z1044 => kernel_rfl)
    (case a7z1044 => k_is)
    (case e7z1044 => kernel_rfl)
    (case a8z1044 => k_is)
    (case e8z1044 => kernel_rfl)
    (case a9z1044 => k_is)
    (case e9z1044 => kernel_rfl)
    (case a10z1044 => k_is)
    (case e10z1044 => kernel_rfl)
    intro KT_NoFit
    refine' PL.step (PL.kitR_mk (mg := mg) (t := Str.ofString "TooMany") (tb := tb_TooMany) KX G ?b1045 (PL.kitE_cons (mg := mg) (c := Str.ofString "BadProgram") (b := false) KX G ?a0z1045 ?e0z1045 (PL.kitE_cons (mg := mg) (c := Str.ofString "BadText") (b := false) KX G ?a1z1045 ?e1z1045 (PL.kitE_cons (mg := mg) (c := Str.ofString "BadNumber") (b := false) KX G ?a2z1045 ?e2z1045 (PL.kitE_cons (mg := mg) (c := Str.ofString "NoColour") (b := false) KX G ?a3z1045 ?e3z1045 (PL.kitE_cons (mg := mg) (c := Str.ofString "NoStanding") (b := false) KX G ?a4z1045 ?e4z1045 (PL.kitE_cons (mg := mg) (c := Str.ofString "NoVisit") (b := false) KX G ?a5z1045 ?e5z1045 (PL.kitE_cons (mg := mg) (c := Str.ofString "NoOrder") (b := false) KX G ?a6z1045 ?e6z1045 (PL.kitE_cons (mg := mg) (c := Str.ofString "NoWord") (b := false) KX G ?a7z1045 ?e7z1045 (PL.kitE_cons (mg := mg) (c := Str.ofString "NoFit") (b := false) KX G ?a8z1045 ?e8z1045 (PL.kitE_cons (mg := mg) (c := Str.ofString "TooMany") (b := true) KX G ?a9z1045 ?e9z1045 (PL.kitE_cons (mg := mg) (c := Str.ofString "LampError") (b := false) KX G ?a10z1045 ?e10z1045 (PL.kitE_nil))))))))))))) ?n1045
    (case b1045 => k_is)
    (case a0z1045 => k_is)
    (case e0z1045 => kernel_rfl)
    (case a1z1045 => k_is)
    (case e1z1045 => kernel_rfl)
    (case a2z1045 => k_is)
    (case e2z1045 => kernel_rfl)
    (case a3z1045 => k_is)
    (case e3z1045 => kernel_rfl)
    (case a4z1045 => k_is)
    (case e4z1045 => kernel_rfl)
    (case a5z1045 => k_is)
    (case e5z1045 => kernel_rfl)
    (case a6z1045 => k_is)
    (case e6z1045 => kernel_rfl)
    (case a7z1045 => k_is)
    (case e7z1045 => kernel_rfl)
    (case a8z1045 => k_is)
    (case e8z1045 => kernel_rfl)
    (case a9z1045 => k_is)
    (case e9z1045 => kernel_rfl)
    (case a10z1045 => k_is)
    (case e10z1045 => kernel_rfl)
    intro KT_TooMany
    refine' PL.step (PL.kitR_mk (mg := mg) (t := Str.ofString "LampError") (tb := tb_LampError) KX G ?b1046 (PL.kitE_cons (mg := mg) (c := Str.ofString "BadProgram") (b := true) KX G ?a0z1046 ?e0z1046 (PL.kitE_cons (mg := mg) (c := Str.ofString "BadText") (b := true) KX G ?a1z1046 ?e1z1046 (PL.kitE_cons (mg := mg) (c := Str.ofString "BadNumber") (b := true) KX G ?a2z1046 ?e2z1046 (PL.kitE_cons (mg := mg) (c := Str.ofString "NoColour") (b := true) KX G ?a3z1046 ?e3z1046 (PL.kitE_cons (mg := mg) (c := Str.ofString "NoStanding") (b := true) KX G ?a4z1046 ?e4z1046 (PL.kitE_cons (mg := mg) (c := Str.ofString "NoVisit") (b := true) KX G ?a5z1046 ?e5z1046 (PL.kitE_cons (mg := mg) (c := Str.ofString "NoOrder") (b := true) KX G ?a6z1046 ?e6z1046 (PL.kitE_cons (mg := mg) (c := Str.ofString "NoWord") (b := true) KX G ?a7z1046 ?e7z1046 (PL.kitE_cons (mg := mg) (c := Str.ofString "NoFit") (b := true) KX G ?a8z1046 ?e8z1046 (PL.kitE_cons (mg := mg) (c := Str.ofString "TooMany") (b := true) KX G ?a9z1046 ?e9z1046 (PL.kitE_cons (mg := mg) (c := Str.ofString "LampError") (b := true) KX G ?a10z1046 ?e10z1046 (PL.kitE_nil))))))))))))) ?n1046
    (case b1046 => k_is)
    (case a0z1046 => k_is)
    (case e0z1046 => kernel_rfl)
    (case a1z1046 => k_is)
    (case e1z1046 => kernel_rfl)
    (case a2z1046 => k_is)
    (case e2z1046 => kernel_rfl)
    (case a3z1046 => k_is)
    (case e3z1046 => kernel_rfl)
    (case a4z1046 => k_is)
    (case e4z1046 => kernel_rfl)
    (case a5z1046 => k_is)
    (case e5z1046 => kernel_rfl)
    (case a6z1046 => k_is)
    (case e6z1046 => kernel_rfl)
    (case a7z1046 => k_is)
    (case e7z1046 => kernel_rfl)
    (case a8z1046 => k_is)
    (case e8z1046 => kernel_rfl)
    (case a9z1046 => k_is)
    (case e9z1046 => kernel_rfl)
    (case a10z1046 => k_is)
    (case e10z1046 => kernel_rfl)
    intro KT_LampError
    refine' PL.step ((show PL.KitE _ mg (.type "ValueError") tb_ValueError from PL.kitE_cons (mg := mg) (c := Str.ofString "BadProgram") (b := true) KX G ?a0z1047 ?e0z1047 (PL.kitE_cons (mg := mg) (c := Str.ofString "BadText") (b := true) KX G ?a1z1047 ?e1z1047 (PL.kitE_cons (mg := mg) (c := Str.ofString "BadNumber") (b := true) KX G ?a2z1047 ?e2z1047 (PL.kitE_cons (mg := mg) (c := Str.ofString "NoColour") (b := true) KX G ?a3z1047 ?e3z1047 (PL.kitE_cons (mg := mg) (c := Str.ofString "NoStanding") (b := true) KX G ?a4z1047 ?e4z1047 (PL.kitE_cons (mg := mg) (c := Str.ofString "NoVisit") (b := true) KX G ?a5z1047 ?e5z1047 (PL.kitE_cons (mg := mg) (c := Str.ofString "NoOrder") (b := true) KX G ?a6z1047 ?e6z1047 (PL.kitE_cons (mg := mg) (c := Str.ofString "NoWord") (b := true) KX G ?a7z1047 ?e7z1047 (PL.kitE_cons (mg := mg) (c := Str.ofString "NoFit") (b := true) KX G ?a8z1047 ?e8z1047 (PL.kitE_cons (mg := mg) (c := Str.ofString "TooMany") (b := true) KX G ?a9z1047 ?e9z1047 (PL.kitE_cons (mg := mg) (c := Str.ofString "LampError") (b := true) KX G ?a10z1047 ?e10z1047 (PL.kitE_nil))))))))))))) ?n1047
    (case a0z1047 => k_is)
    (case e0z1047 => kernel_rfl)
    (case a1z1047 => k_is)
    (case e1z1047 => kernel_rfl)
    (case a2z1047 => k_is)
    (case e2z1047 => kernel_rfl)
    (case a3z1047 => k_is)
    (case e3z1047 => kernel_rfl)
    (case a4z1047 => k_is)
    (case e4z1047 => kernel_rfl)
    (case a5z1047 => k_is)
    (case e5z1047 => kernel_rfl)
    (case a6z1047 => k_is)
    (case e6z1047 => kernel_rfl)
    (case a7z1047 => k_is)
    (case e7z1047 => kernel_rfl)
    (case a8z1047 => k_is)
    (case e8z1047 => kernel_rfl)
    (case a9z1047 => k_is)
    (case e9z1047 => kernel_rfl)
    (case a10z1047 => k_is)
    (case e10z1047 => kernel_rfl)
    intro KV_ValueError
    refine' PL.step (PL.xcV_mk (mg := mg) (x := "LampError") KX G ?a1048 ?e1048 ?k1048) ?n1048
    (case a1048 => k_is)
    (case e1048 => first | k_is | kernel_rfl)
    (case k1048 => first | k_is | kernel_rfl)
    intro XV_LampError
    refine' PL.lawAt0_mk (st := s_law) KX G (show mg "law" = some (.ref fa) from hmg) ?La ?Llk ?Lb ?Lcd ?Lok
    (case La => k_is)
    (case Llk => k_is)
    (case Lb => exact fun _ _ _ _ _ _ _ => rfl)
    (case Lcd => k_is)
    case Lok =>
      intro I hI base KB GB lk cd
      have XC_BadProgram := xk_BadProgram (w := w) (base := base) XF_BadProgram (by k_is)
      have XC_BadText := xk_BadText (w := w) (base := base) XF_BadText (by k_is) (by k_is)
      have XC_BadNumber := xk_BadNumber (w := w) (base := base) XF_BadNumber (by k_is)
      have XC_NoColour := xk_NoColour (w := w) (base := base) XF_NoColour
      have XC_NoStanding := xk_NoStanding (w := w) (base := base) XF_NoStanding
      have XC_NoVisit := xk_NoVisit (w := w) (base := base) XF_NoVisit
      have XC_NoOrder := xk_NoOrder (w := w) (base := base) XF_NoOrder (by k_is)
      have XC_NoWord := xk_NoWord (w := w) (base := base) XF_NoWord
      have XC_NoFit := xk_NoFit (w := w) (base := base) XF_NoFit
      have XC_TooMany := xk_TooMany (w := w) (base := base) XF_TooMany (by k_is)
      have H__law_pot := ok__law_pot (P := PySem.Challenge.pw_lampfolk_k00_errors_alone) (w := w) (base := base) D__law_pot U_abs
      have H__law_draw := ok__law_draw (P := PySem.Challenge.pw_lampfolk_k00_errors_alone) (w := w) (base := base) D__law_draw U_int U_len
      have H__law_pick := ok__law_pick (P := PySem.Challenge.pw_lampfolk_k00_errors_alone) (w := w) (base := base) D__law_pick H__law_draw U_len
      have H__law_thing := ok__law_thing (P := PySem.Challenge.pw_lampfolk_k00_errors_alone) (w := w) (base := base) D__law_thing H__law_pick
      have H__law_kinds := ok__law_kinds (P := PySem.Challenge.pw_lampfolk_k00_errors_alone) (w := w) (base := base) D__law_kinds XK U_isinstance KT_BadNumber KT_BadProgram KT_BadText KT_NoColour KT_NoFit KT_NoOrder KT_NoStanding KT_NoVisit KT_NoWord KT_TooMany
      have H__law_rows := ok__law_rows (P := PySem.Challenge.pw_lampfolk_k00_errors_alone) (w := w) (base := base) D__law_rows XC_BadNumber XC_BadProgram XC_BadText XC_NoColour XC_NoFit XC_NoOrder XC_NoStanding XC_NoVisit XC_NoWord XC_TooMany
      have H__law_told_of := ok__law_told_of (P := PySem.Challenge.pw_lampfolk_k00_errors_alone) (w := w) (base := base) D__law_told_of XF_BadNumber_value XF_BadProgram_what XF_BadText_line XF_BadText_what XF_NoOrder_at XF_TooMany_most
      exact ok_law (P := PySem.Challenge.pw_lampfolk_k00_errors_alone) (ct := 0) (Pt := 0) (w := w) (base := base) lk cd H__law_pot H__law_kinds H__law_rows H__law_thing H__law_told_of U_ValueError XK U_enumerate U_isinstance KT_LampError KV_ValueError U_len U_range U_repr XV_LampError hpot (fun ns _ _ => hlaw ns)

