import PyProof.Rows.All
import Wide.All
import OpenK.AllK
import Wide.FinOn
import HandS.ForMost
import HandS.ForExc
import HandS.ExcInit
import HandS.HotCalls
import HandS.IsInst
import HandS.Gcd
import HandS.Wide
import HandS.Lambda
import HandS.CallSlots
import HandS.TupAny
import HandS.Style
import HandS.Flow
import HandS.Text
import HandS.RaiseMore
import HandS.Walk
import HandS.Rev
import HandS.More
import HandS.Comp
import KE.KExcIs
import HandS.ExcField
import HandS.EndTab
import PyProof.ReprLen
import PySem.Challenge.RW_rootsbetween_k01_errors_as_told
set_option Elab.async false
set_option linter.all false
set_option maxRecDepth 100000
set_option maxHeartbeats 4000000
/-! FxA: plain values, the store, results, what they have to do with the abstract heap of the hand layer. -/
namespace Fx
open PySem PySem.Spec PyProof.Rows L2

/-! ### plain values -/
inductive PV where
  | non | bl (b : Bool) | int (i : Int) | str (x : Str)
  | tup (xs : List PV) | lst (xs : List PV) | scr (ns : List Int)
  | dct (ks : List Key) (vs : List PV)
  | ins (c : Nat) (ns : List Str) (vs : List PV)
  | ref (n : Nat)
  | fn (n : Nat)
/-- a cell of the store: a dict -/
abbrev Cell := List (Key × PV)
abbrev Store := List Cell
/-- results -/
inductive Out (α : Type) where
  | ok (a : α) (S : Store)
  | exc (c : Nat) (ns : List Str) (vs : List PV) (S : Store)
  | stuck
abbrev M (α : Type) := Store → Out α
def M.ret {α : Type} (a : α) : M α := fun S => .ok a S
def M.bind {α β : Type} (m : M α) (f : α → M β) : M β := fun S => match m S with
  | .ok a S' => f a S'
  | .exc c ns vs S' => .exc c ns vs S'
  | .stuck => .stuck
def M.stuck {α : Type} : M α := fun _ => .stuck
/-- slots of a frame -/
inductive Slot where
  | no
  | val (v : PV)
  | own (xs : List PV)
  | exc (c : Nat) (ns : List Str) (vs : List PV)
abbrev En := List Slot
abbrev RE := En → M PV
abbrev RT := En → M Bool
abbrev RA := En → M (List PV)
/-- ends of statements -/
inductive SOut where
  | nx (env : En) (S : Store)
  | rt (v : PV) (S : Store)
  | bk (env : En) (S : Store)
  | ct (env : En) (S : Store)
  | exc (c : Nat) (ns : List Str) (vs : List PV) (env : En) (S : Store)
  | stuck
abbrev RS := En → Store → SOut

/-! ### the relation to the abstract heap -/
structure Cfg where
  K : PySem.W.Frag
  ca : Nat → Addr
  fa : Nat → Addr
  px : Option (Addr × Obj)
  T : List (Addr × Str)

def isTbl : HO → Bool
  | .tbl _ => true
  | _ => false
/-- a list or a dict -/
def isLD : HO → Bool
  | .lst _ => true
  | .dK _ => true
  | _ => false
theorem ld_tbl {o : HO} (h : isLD o = true) : isTbl o = false := by
  cases o <;> first | rfl | cases h
/-- the heap without the addresses in L, without tables -/
def view (H : Hp) (L : List Addr) : Hp := fun a => if a ∈ L then none else match H a with
  | some o => if isTbl o then none else some o
  | none => none
theorem view_some {H : Hp} {L : List Addr} {a : Addr} {o : HO} (h : view H L a = some o) : H a = some o ∧ a ∉ L ∧ isTbl o = false := by
  unfold view at h
  split at h
  · cases h
  · rename_i hn
    cases e : H a with
    | none => rw [e] at h; cases h
    | some u =>
      rw [e] at h
      simp only at h
      split at h
      · cases h
      · rename_i ht
        cases h
        exact ⟨rfl, hn, by simpa using ht⟩
theorem view_of {H : Hp} {L : List Addr} {a : Addr} {o : HO} (h : H a = some o) (hn : a ∉ L) (ht : isTbl o = false) : view H L a = some o := by
  unfold view
  rw [if_neg hn, h]
  simp [ht]
theorem view_sub (H : Hp) (L : List Addr) : Same (view H L) H := fun _ _ h => (view_some h).1
theorem view_anti {H : Hp} {L L' : List Addr} (h : ∀ a, a ∈ L' → a ∈ L) : Same (view H L) (view H L') := fun a o e =>
  let ⟨h1, h2, h3⟩ := view_some e
  view_of h1 (fun z => h2 (h a z)) h3

theorem same_sqT {K : PySem.W.Frag} {H H' : Hp} {a : Addr} {xs : List V} (e : Same H H') (h : SqT K H a xs) : SqT K H' a xs := by
  rcases h with (h | ⟨o, h⟩) | h
  · exact .inl (.inl (e _ _ h))
  · exact .inl (.inr ⟨o, e _ _ h⟩)
  · exact .inr h

mutual
inductive Rp (G : Cfg) (μ : List Addr) (H : Hp) : V → PV → Prop
  | non : Rp G μ H .non .non
  | bl (b : Bool) : Rp G μ H (.bl b) (.bl b)
  | int (i : Int) : Rp G μ H (.int i) (.int i)
  | str (x : Str) : Rp G μ H (.str x) (.str x)
  | tup {a : Addr} {xs : List V} {ps : List PV} : SqT G.K H a xs → RpL G μ H xs ps → Rp G μ H (.ref a) (.tup ps)
  | lst {a : Addr} {xs : List V} {ps : List PV} : H a = some (.lst xs) → RpL G μ H xs ps → Rp G μ H (.ref a) (.lst ps)
  | scr {a : Addr} {ns : List Int} : SqL G.K H a (ns.map V.int) → Rp G μ H (.ref a) (.scr ns)
  | dct {a : Addr} {ks : List Key} {xs : List V} {ps : List PV} : H a = some (.dK (ks.zip xs)) → ks.length = xs.length → RpL G μ H xs ps → Rp G μ H (.ref a) (.dct ks ps)
  | ins {a dx : Addr} {c : Nat} {ns : List Str} {xs : List V} {ps : List PV} : H a = some (.ins (G.ca c) dx (ns.zip xs)) → ns.length = xs.length → RpL G μ H xs ps → Rp G μ H (.ref a) (.ins c ns ps)
  | ref {n : Nat} {a : Addr} : μ[n]? = some a → Rp G μ H (.ref a) (.ref n)
  | fn (n : Nat) : Rp G μ H (.ref (G.fa n)) (.fn n)
inductive RpL (G : Cfg) (μ : List Addr) (H : Hp) : List V → List PV → Prop
  | nil : RpL G μ H [] []
  | cons {v : V} {vs : List V} {p : PV} {ps : List PV} : Rp G μ H v p → RpL G μ H vs ps → RpL G μ H (v :: vs) (p :: ps)
end
def Pre (μ μ' : List Addr) : Prop := ∀ (n : Nat) (a : Addr), μ[n]? = some a → μ'[n]? = some a
theorem Pre.refl (μ : List Addr) : Pre μ μ := fun _ _ h => h
theorem Pre.trans {a b c : List Addr} (h : Pre a b) (k : Pre b c) : Pre a c := fun n x e => k n x (h n x e)
theorem Pre.mem {μ μ' : List Addr} (h : Pre μ μ') {a : Addr} (e : a ∈ μ) : a ∈ μ' := by
  obtain ⟨i, hi⟩ := List.getElem?_of_mem e
  exact List.mem_of_getElem? (h i a hi)
section
variable {G : Cfg} {μ μ' : List Addr} {H H' : Hp}
mutual
theorem Rp.mono (e : Same H H') (p : Pre μ μ') : ∀ (d : PV) (v : V), Rp G μ H v d → Rp G μ' H' v d
  | _, _, .non => .non
  | _, _, .bl b => .bl b
  | _, _, .int i => .int i
  | _, _, .str x => .str x
  | _, _, .tup h l => .tup (same_sqT e h) (RpL.mono e p _ _ l)
  | _, _, .lst h l => .lst (e _ _ h) (RpL.mono e p _ _ l)
  | _, _, .scr h => .scr (e.seq h)
  | _, _, .dct h z l => .dct (e _ _ h) z (RpL.mono e p _ _ l)
  | _, _, .ins h z l => .ins (e _ _ h) z (RpL.mono e p _ _ l)
  | _, _, .ref h => .ref (p _ _ h)
  | _, _, .fn n => .fn n
theorem RpL.mono (e : Same H H') (p : Pre μ μ') : ∀ (ds : List PV) (vs : List V), RpL G μ H vs ds → RpL G μ' H' vs ds
  | _, _, .nil => .nil
  | _, _, .cons h l => .cons (Rp.mono e p _ _ h) (RpL.mono e p _ _ l)
end
theorem RpL.length : ∀ {vs : List V} {ds : List PV}, RpL G μ H vs ds → vs.length = ds.length
  | _, _, .nil => rfl
  | _, _, .cons _ l => congrArg (· + 1) (RpL.length l)
theorem RpL.get : ∀ {vs : List V} {ds : List PV} {i : Nat} {d : PV}, RpL G μ H vs ds → ds[i]? = some d → ∃ v, vs[i]? = some v ∧ Rp G μ H v d
  | _, _, i, d, .nil, h => by simp at h
  | _, _, 0, d, .cons (v := v) h l, e => ⟨v, rfl, by simp at e; rw [← e]; exact h⟩
  | _, _, i + 1, d, .cons h l, e => by
    obtain ⟨v, h1, h2⟩ := RpL.get (i := i) (d := d) l (by simpa using e)
    exact ⟨v, by simpa using h1, h2⟩
theorem RpL.getV : ∀ {vs : List V} {ds : List PV} {i : Nat} {v : V}, RpL G μ H vs ds → vs[i]? = some v → ∃ d, ds[i]? = some d ∧ Rp G μ H v d
  | _, _, i, d, .nil, h => by simp at h
  | _, _, 0, d, .cons (p := p) h l, e => ⟨p, rfl, by simp at e; rw [← e]; exact h⟩
  | _, _, i + 1, d, .cons h l, e => by
    obtain ⟨v, h1, h2⟩ := RpL.getV (i := i) (v := d) l (by simpa using e)
    exact ⟨v, by simpa using h1, h2⟩
theorem RpL.append : ∀ {vs ws : List V} {ds es : List PV}, RpL G μ H vs ds → RpL G μ H ws es → RpL G μ H (vs ++ ws) (ds ++ es)
  | _, _, _, _, .nil, k => k
  | _, _, _, _, .cons h l, k => .cons h (RpL.append l k)
theorem RpL.take : ∀ (n : Nat) {vs : List V} {ds : List PV}, RpL G μ H vs ds → RpL G μ H (vs.take n) (ds.take n)
  | 0, _, _, _ => by simp; exact .nil
  | n + 1, _, _, .nil => .nil
  | n + 1, _, _, .cons h l => .cons h (RpL.take n l)
theorem RpL.drop : ∀ (n : Nat) {vs : List V} {ds : List PV}, RpL G μ H vs ds → RpL G μ H (vs.drop n) (ds.drop n)
  | 0, _, _, h => h
  | n + 1, _, _, .nil => .nil
  | n + 1, _, _, .cons h l => RpL.drop n l
theorem RpL.set {v : V} {d : PV} (r : Rp G μ H v d) : ∀ (i : Nat) {vs : List V} {ds : List PV}, RpL G μ H vs ds → RpL G μ H (vs.set i v) (ds.set i d)
  | _, _, _, .nil => .nil
  | 0, _, _, .cons _ l => .cons r l
  | i + 1, _, _, .cons h l => .cons h (RpL.set r i l)
theorem RpL.rev : ∀ {vs : List V} {ds : List PV}, RpL G μ H vs ds → RpL G μ H vs.reverse ds.reverse
  | _, _, .nil => .nil
  | _, _, .cons h l => by simp only [List.reverse_cons]; exact (RpL.rev l).append (.cons h .nil)
end

/-! ### frames, stores, environments -/
/-- what an expression (a call) leaves: all that was tracked, but the store's cells and the tables -/
structure Fr (H : Hp) (μ : List Addr) (H' : Hp) (μ' : List Addr) : Prop where
  keep : ∀ a o, H a = some o → isTbl o = false → a ∉ μ → H' a = some o
  pre : Pre μ μ'
  new : ∀ a, a ∈ μ' → a ∉ μ → H a = none
  there : ∀ a, H a ≠ none → H' a ≠ none
theorem Fr.refl (H : Hp) (μ : List Addr) : Fr H μ H μ := ⟨fun _ _ h _ _ => h, Pre.refl μ, fun _ h n => absurd h n, fun _ h => h⟩
theorem Fr.trans {H H1 H2 : Hp} {μ μ1 μ2 : List Addr} (a : Fr H μ H1 μ1) (b : Fr H1 μ1 H2 μ2) : Fr H μ H2 μ2 where
  keep := fun x o h t n => b.keep x o (a.keep x o h t n) t fun z => by
    have := a.new x z n
    rw [h] at this; cases this
  pre := a.pre.trans b.pre
  new := fun x h n => by
    by_cases q : x ∈ μ1
    · exact a.new x q n
    · have e := b.new x h q
      cases e2 : H x with
      | none => rfl
      | some o => exact absurd e (a.there x (by rw [e2]; simp))
  there := fun x h => b.there x (a.there x h)
theorem Fr.view {H H' : Hp} {μ μ' Z : List Addr} (f : Fr H μ H' μ') : Same (view H (μ ++ Z)) (view H' (μ' ++ Z)) := fun a o e => by
  obtain ⟨h1, h2, h3⟩ := view_some e
  have n1 : a ∉ μ := fun z => h2 (List.mem_append_left _ z)
  refine view_of (f.keep a o h1 h3 n1) (fun z => ?_) h3
  rcases List.mem_append.mp z with z | z
  · have := f.new a z n1
    rw [h1] at this; cases this
  · exact h2 (List.mem_append_right _ z)
/-- a new object is laid -/
theorem Fr.laid {H : Hp} {μ : List Addr} {p : Addr} {o : HO} (h : H p = none) : Fr H μ (upd H p o) μ :=
  ⟨fun a u e _ _ => by rw [upd_ne (ne_of_none e h)]; exact e, Pre.refl μ, fun _ h n => absurd h n, fun a e => by
    by_cases q : a = p
    · subst q; rw [upd_same]; simp
    · rw [upd_ne q]; exact e⟩

/-- a dict's pairs -/
inductive CellR (G : Cfg) (μ : List Addr) (H : Hp) : List (Key × V) → Cell → Prop
  | nil : CellR G μ H [] []
  | cons {k : Key} {v : V} {p : PV} {kvs : List (Key × V)} {c : Cell} : Rp G μ H v p → CellR G μ H kvs c → CellR G μ H ((k, v) :: kvs) ((k, p) :: c)
theorem CellR.mono {G : Cfg} {μ μ' : List Addr} {H H' : Hp} (e : Same H H') (p : Pre μ μ') : ∀ {kvs : List (Key × V)} {c : Cell}, CellR G μ H kvs c → CellR G μ' H' kvs c
  | _, _, .nil => .nil
  | _, _, .cons h l => .cons (Rp.mono e p _ _ h) (CellR.mono e p l)
/-- the store's cells; Z: hidden addresses (owned lists) -/
structure StoR (G : Cfg) (μ : List Addr) (H : Hp) (Z : List Addr) (S : Store) : Prop where
  len : μ.length = S.length
  nd : μ.Nodup
  cell : ∀ (i : Nat) (c : Cell), S[i]? = some c → ∃ a kvs, μ[i]? = some a ∧ H a = some (.dK kvs) ∧ CellR G μ (view H (μ ++ Z)) kvs c
  hid : ∀ a ∈ Z, a ∉ μ ∧ ∃ o, H a = some o ∧ isLD o = true
  tabs : LamX.Tabs G.T H
theorem StoR.fr {G : Cfg} {μ : List Addr} {H : Hp} {Z : List Addr} {S : Store} (s : StoR G μ H Z S) {p : Addr} {o : HO} (h : H p = none) : StoR G μ (upd H p o) Z S where
  len := s.len
  nd := s.nd
  cell := fun i c e => by
    obtain ⟨a, kvs, h1, h2, h4⟩ := s.cell i c e
    exact ⟨a, kvs, h1, by rw [upd_ne (ne_of_none h2 h)]; exact h2, h4.mono (Fr.laid h).view (Pre.refl μ)⟩
  hid := fun a ha => by
    obtain ⟨h1, u, h2, h3⟩ := s.hid a ha
    exact ⟨h1, u, by rw [upd_ne (ne_of_none h2 h)]; exact h2, h3⟩
  tabs := s.tabs.ext fun b u e => by rw [upd_ne (ne_of_none e h)]; exact e

/-- owned lists: slots and addresses -/
abbrev Ow := List (Nat × Addr)
abbrev Ow.ad (O : Ow) : List Addr := O.map (·.2)
/-- an exception's fields at its own dict -/
inductive ExcR (G : Cfg) (μ : List Addr) (H : Hp) : Option Addr → List Str → List PV → Prop
  | none : ExcR G μ H none [] []
  | some {d : Addr} {ns : List Str} {xs : List V} {ps : List PV} : H d = some (.xd (ns.zip xs)) → ns.length = xs.length → RpL G μ H xs ps → ExcR G μ H (some d) ns ps
theorem ExcR.mono {G : Cfg} {μ μ' : List Addr} {H H' : Hp} {d : Option Addr} {ns : List Str} {ps : List PV} (e : Same H H') (p : Pre μ μ') (x : ExcR G μ H d ns ps) : ExcR G μ' H' d ns ps := by
  cases x with
  | none => exact .none
  | some h z l => exact .some (e _ _ h) z (RpL.mono e p _ _ l)
inductive SlotR (G : Cfg) (μ : List Addr) (H : Hp) (O : Ow) (i : Nat) : Option V → Slot → Prop
  | no (v : Option V) : SlotR G μ H O i v .no
  | val {v : V} {p : PV} : Rp G μ (view H (μ ++ Ow.ad O)) v p → SlotR G μ H O i (some v) (.val p)
  | exc {x : Addr × Obj} {d : Option Addr} {c : Nat} {ns : List Str} {ps : List PV} : G.px = some x → Zc (.ref (G.ca c)) d x.2 → ExcR G μ (view H (μ ++ Ow.ad O)) d ns ps → SlotR G μ H O i (some (.ref x.1)) (.exc c ns ps)
  | own {a : Addr} {xs : List V} {ps : List PV} : (i, a) ∈ O → H a = some (.lst xs) → RpL G μ (view H (μ ++ Ow.ad O)) xs ps → SlotR G μ H O i (some (.ref a)) (.own ps)
structure EnvR (G : Cfg) (μ : List Addr) (H : Hp) (O : Ow) (σ : L2.St) (env : En) : Prop where
  len : env.length = σ.length
  slot : ∀ (i : Nat) (s : Slot), env[i]? = some s → ∃ v, σ[i]? = some v ∧ SlotR G μ H O i v s
  inj : ∀ i j a, (i, a) ∈ O → (j, a) ∈ O → i = j
structure Rel (G : Cfg) (H : Hp) (μ : List Addr) (O : Ow) (σ : L2.St) (env : En) (S : Store) : Prop where
  env : EnvR G μ H O σ env
  sto : StoR G μ H (Ow.ad O) S
section
variable {G : Cfg} {H H' : Hp} {μ μ' : List Addr} {O : Ow} {σ : L2.St} {env : En} {S S' : Store}
/-- behind an expression -/
theorem Rel.step (R : Rel G H μ O σ env S) (f : Fr H μ H' μ') (s : StoR G μ' H' (Ow.ad O) S') : Rel G H' μ' O σ env S' where
  sto := s
  env := ⟨R.env.len, fun i x e => by
    obtain ⟨v, h1, h2⟩ := R.env.slot i x e
    refine ⟨v, h1, ?_⟩
    cases h2 with
    | no => exact .no _
    | val h => exact .val (Rp.mono f.view f.pre _ _ h)
    | exc q z h => exact .exc q z (h.mono f.view f.pre)
    | @own a xs ps h k l =>
      have hz := (R.sto.hid a (List.mem_map_of_mem h)).1
      exact .own h (f.keep a _ k rfl hz) (RpL.mono f.view f.pre _ _ l), R.env.inj⟩
end
end Fx

/-! FxB: functional readings of expressions, tests, arguments, statements. -/
namespace Fx
open PySem PySem.Spec PyProof.Rows L2

/-- borrowed or kept: what stands for a plain value -/
inductive RpB (G : Cfg) (μ : List Addr) (H : Hp) (O : Ow) : Bool → V → PV → Prop
  | kept {b : Bool} {v : V} {p : PV} : Rp G μ (view H (μ ++ Ow.ad O)) v p → RpB G μ H O b v p
  | lent {i : Nat} {a : Addr} {xs : List V} {ps : List PV} : (i, a) ∈ O → H a = some (.lst xs) → RpL G μ (view H (μ ++ Ow.ad O)) xs ps → RpB G μ H O true (.ref a) (.lst ps)
theorem RpB.fr {G : Cfg} {μ μ' : List Addr} {H H' : Hp} {O : Ow} {b : Bool} {v : V} {p : PV} (x : RpB G μ H O b v p) (f : Fr H μ H' μ') (hid : ∀ a ∈ Ow.ad O, a ∉ μ) : RpB G μ' H' O b v p := by
  cases x with
  | kept h => exact .kept (Rp.mono f.view f.pre _ _ h)
  | @lent i a xs ps h k l => exact .lent h (f.keep a _ k rfl (hid a (List.mem_map_of_mem h))) (RpL.mono f.view f.pre _ _ l)

section
variable (G : Cfg) (W : WX) (σ : L2.St) (O : Ow) (H : Hp) (μ : List Addr)
/-- what is wanted behind a result -/
def Post {α β : Type} (rel : List Addr → Hp → β → α → Prop) (o : Out α) (Q : β → Hp → Prop) : Prop := match o with
  | .ok a S' => ∀ v H' μ', Fr H μ H' μ' → StoR G μ' H' (Ow.ad O) S' → rel μ' H' v a → Q v H'
  | .exc c ns ps S' => ∀ d H' μ', Fr H μ H' μ' → StoR G μ' H' (Ow.ad O) S' → ExcR G μ' (view H' (μ' ++ Ow.ad O)) d ns ps → W (.ref (G.ca c)) d σ H'
  | .stuck => False
abbrev relV (b : Bool) : List Addr → Hp → V → PV → Prop := fun μ' H' v p => RpB G μ' H' O b v p
abbrev relL : List Addr → Hp → List V → List PV → Prop := fun μ' H' vs ps => RpL G μ' (view H' (μ' ++ Ow.ad O)) vs ps
abbrev relE {α : Type} : List Addr → Hp → α → α → Prop := fun _ _ v p => v = p
end
section
variable {G : Cfg} {W : WX} {σ : L2.St} {O : Ow} {H H1 : Hp} {μ μ1 : List Addr}
theorem Post.imp {α β : Type} {rel : List Addr → Hp → β → α → Prop} {o : Out α} {Q Q' : β → Hp → Prop} (h : Post G W σ O H μ rel o Q) (k : ∀ v H', Q v H' → Q' v H') : Post G W σ O H μ rel o Q' := by
  cases o with
  | ok a S => exact fun v H' μ' f s r => k _ _ (h v H' μ' f s r)
  | exc c ns ps S => exact h
  | stuck => exact h
/-- from a later start -/
theorem Post.from {α β : Type} {rel : List Addr → Hp → β → α → Prop} {o : Out α} {Q : β → Hp → Prop} (f : Fr H μ H1 μ1) (h : Post G W σ O H μ rel o Q) : Post G W σ O H1 μ1 rel o Q := by
  cases o with
  | ok a S => exact fun v H' μ' f' s r => h v H' μ' (f.trans f') s r
  | exc c ns ps S => exact fun d H' μ' f' s r => h d H' μ' (f.trans f') s r
  | stuck => exact h
end

section
variable (G : Cfg) (W : WX)
/-- the reading of an expression -/
def rdE (b : Bool) (r : RE) : TE := fun σ H Q => ∃ μ O env S, Rel G H μ O σ env S ∧ Post G W σ O H μ (relV G O b) (r env S) Q
def rdT (r : RT) : TT := fun σ H Q => ∃ μ O env S, Rel G H μ O σ env S ∧ Post G W σ O H μ relE (r env S) Q
def rdA (r : RA) : TA := fun σ H Q => ∃ μ O env S, Rel G H μ O σ env S ∧ Post G W σ O H μ (relL G O) (r env S) Q
end
/-- an expression, its functional reading: the value is kept (b = false) or may be lent (b = true) -/
def PF (G : Cfg) (X : Cx) (W : WX) (b : Bool) (e : Expr) (r : RE) : Prop := PE X e (rdE G W b r)
def PFT (G : Cfg) (X : Cx) (W : WX) (e : Expr) (r : RT) : Prop := PT X e (rdT G W r)
def PFW (G : Cfg) (X : Cx) (W : WX) (e : Expr) (r : RT) : Prop := PW X e (rdT G W r)
def PFA (G : Cfg) (X : Cx) (W : WX) (es : List Expr) (r : RA) : Prop := PA X es (rdA G W r)

theorem pe_imp {X : Cx} {e : Expr} {t t' : TE} (h : PE X e t) (k : ∀ σ H Q, t' σ H Q → t σ H Q) : PE X e t' := ⟨fun pins s σ H Q I q => h.run pins s σ H Q I (k _ _ _ q)⟩
theorem pt_imp {X : Cx} {e : Expr} {t t' : TT} (h : PT X e t) (k : ∀ σ H Q, t' σ H Q → t σ H Q) : PT X e t' := ⟨fun pins s σ H Q I q => h.run pins s σ H Q I (k _ _ _ q)⟩
theorem pw_imp {X : Cx} {e : Expr} {t t' : TT} (h : PW X e t) (k : ∀ σ H Q, t' σ H Q → t σ H Q) : PW X e t' := ⟨fun wh pins s σ H Q I q => h.run wh pins s σ H Q I (k _ _ _ q)⟩
theorem pa_imp {X : Cx} {e : List Expr} {t t' : TA} (h : PA X e t) (k : ∀ σ H Q, t' σ H Q → t σ H Q) : PA X e t' := ⟨fun p pins s σ H Q I q => h.run p pins s σ H Q I (k _ _ _ q)⟩
theorem ps_imp {X : Cx} {e : Stmt} {t t' : TS} (h : PS X e t) (k : ∀ D σ H, t' D σ H → t D σ H) : PS X e t' := ⟨fun pins s σ H Q I q => h.run pins s σ H Q I (k _ _ _ q)⟩
theorem pss_imp {X : Cx} {e : List Stmt} {t t' : TS} (h : PSs X e t) (k : ∀ D σ H, t' D σ H → t D σ H) : PSs X e t' := ⟨fun pins s σ H Q I q => h.run pins s σ H Q I (k _ _ _ q)⟩

section
variable {G : Cfg} {W : WX} {σ : L2.St} {O : Ow} {H : Hp} {μ : List Addr} {env : En} {S : Store}
/-- one part, then the rest -/
theorem bindE {α β : Type} {rel : List Addr → Hp → β → α → Prop} {b : Bool} {ra : RE} {f : PV → M α} {Q : β → Hp → Prop} {P : V → Hp → Prop} (R : Rel G H μ O σ env S)
    (h : Post G W σ O H μ rel (M.bind (ra env) f S) Q)
    (k : ∀ p v S1 H1 μ1, Fr H μ H1 μ1 → Rel G H1 μ1 O σ env S1 → RpB G μ1 H1 O b v p → Post G W σ O H1 μ1 rel (f p S1) Q → P v H1) : rdE G W b ra σ H P := by
  refine ⟨μ, O, env, S, R, ?_⟩
  unfold M.bind at h
  cases e : ra env S with
  | ok p S1 =>
    rw [e] at h
    exact fun v H1 μ1 fr st rp => k p v S1 H1 μ1 fr (R.step fr st) rp (h.from fr)
  | exc c ns ps S1 =>
    rw [e] at h
    exact h
  | stuck =>
    rw [e] at h
    exact h
theorem bindT {α β : Type} {rel : List Addr → Hp → β → α → Prop} {ra : RT} {f : Bool → M α} {Q : β → Hp → Prop} {P : Bool → Hp → Prop} (R : Rel G H μ O σ env S)
    (h : Post G W σ O H μ rel (M.bind (ra env) f S) Q)
    (k : ∀ p S1 H1 μ1, Fr H μ H1 μ1 → Rel G H1 μ1 O σ env S1 → Post G W σ O H1 μ1 rel (f p S1) Q → P p H1) : rdT G W ra σ H P := by
  refine ⟨μ, O, env, S, R, ?_⟩
  unfold M.bind at h
  cases e : ra env S with
  | ok p S1 =>
    rw [e] at h
    exact fun v H1 μ1 fr st rp => by
      have rp : v = p := rp
      subst rp
      exact k _ S1 H1 μ1 fr (R.step fr st) (h.from fr)
  | exc c ns ps S1 =>
    rw [e] at h
    exact h
  | stuck =>
    rw [e] at h
    exact h
theorem bindA {α β : Type} {rel : List Addr → Hp → β → α → Prop} {ra : RA} {f : List PV → M α} {Q : β → Hp → Prop} {P : List V → Hp → Prop} (R : Rel G H μ O σ env S)
    (h : Post G W σ O H μ rel (M.bind (ra env) f S) Q)
    (k : ∀ p v S1 H1 μ1, Fr H μ H1 μ1 → Rel G H1 μ1 O σ env S1 → RpL G μ1 (view H1 (μ1 ++ Ow.ad O)) v p → Post G W σ O H1 μ1 rel (f p S1) Q → P v H1) : rdA G W ra σ H P := by
  refine ⟨μ, O, env, S, R, ?_⟩
  unfold M.bind at h
  cases e : ra env S with
  | ok p S1 =>
    rw [e] at h
    exact fun v H1 μ1 fr st rp => k p v S1 H1 μ1 fr (R.step fr st) rp (h.from fr)
  | exc c ns ps S1 =>
    rw [e] at h
    exact h
  | stuck =>
    rw [e] at h
    exact h
/-- the end: nothing was laid -/
theorem Post.now {α β : Type} {rel : List Addr → Hp → β → α → Prop} {a : α} {v : β} {Q : β → Hp → Prop} (R : Rel G H μ O σ env S) (h : Post G W σ O H μ rel (M.ret a S) Q) (r : rel μ H v a) : Q v H :=
  h v H μ (Fr.refl H μ) R.sto r
/-- the end: a new object -/
theorem Post.new {α β : Type} {rel : List Addr → Hp → β → α → Prop} {a : α} {v : β} {Q : β → Hp → Prop} {p : Addr} {o : HO} (R : Rel G H μ O σ env S) (h : Post G W σ O H μ rel (M.ret a S) Q) (hp : H p = none)
    (r : Fr H μ (upd H p o) μ → rel μ (upd H p o) v a) : Q v (upd H p o) :=
  h v (upd H p o) μ (Fr.laid hp) (R.sto.fr hp) (r (Fr.laid hp))
end

/-! ### constants, names -/
section
variable {G : Cfg} {X : Cx} {W : WX} {b : Bool}
def rC (p : PV) : RE := fun _ => M.ret p
def rVar (i : Nat) : RE := fun env => match env[i]? with
  | some (.val p) => M.ret p
  | _ => M.stuck
def rBor (i : Nat) : RE := fun env => match env[i]? with
  | some (.val p) => M.ret p
  | some (.own xs) => M.ret (.lst xs)
  | _ => M.stuck
theorem pf_const {e : Expr} {v : V} {p : PV} (h : PE X e (tC v)) (r : ∀ μ H, Rp G μ H v p) : PF G X W b e (rC p) :=
  pe_imp h fun σ H Q ⟨μ, O, env, S, R, h⟩ => h.now R (.kept (r _ _))
theorem pf_int {i : Int} {j pos} : PF G X W b (.Constant (.int i) j pos) (rC (.int i)) := pf_const pe_int fun _ _ => .int i
theorem pf_bl {i : Bool} {j pos} : PF G X W b (.Constant (.bool i) j pos) (rC (.bl i)) := pf_const pe_bl fun _ _ => .bl i
theorem pf_non {j pos} : PF G X W b (.Constant .none j pos) (rC .non) := pf_const pe_non fun _ _ => .non
theorem pf_str {x : Str} {j pos} : PF G X W b (.Constant (.str x) j pos) (rC (.str x)) := pf_const pe_str fun _ _ => .str x
theorem pf_var (i : Nat) {x : Str} {pos : Pos} (hN : X.N[i]? = some x := by rfl) (hv : Vis X.env.scope x := by first | exact Or.inl rfl | exact Or.inr (Or.inl rfl) | exact Or.inr (Or.inr rfl)) (hd : (x == ("__debug__" : Str)) = false := by decide)
    (hcd : (x == ("__classdict__" : Str)) = false := by decide) : PF G X W b (.Name x pos) (rVar i) :=
  pe_imp (pe_var hN hv hd hcd) fun σ H Q ⟨μ, O, env, S, R, h⟩ => by
    unfold rVar at h
    cases e : env[i]? with
    | none => rw [e] at h; exact h.elim
    | some s =>
      rw [e] at h
      obtain ⟨v, hv, hs⟩ := R.env.slot i s e
      cases s with
      | val p =>
        cases hs with
        | val hp => exact ⟨_, hv, h.now R (.kept hp)⟩
      | no => exact h.elim
      | own xs => exact h.elim
      | exc c ns ps => exact h.elim
theorem pf_bor (i : Nat) {x : Str} {pos : Pos} (hN : X.N[i]? = some x := by rfl) (hv : Vis X.env.scope x := by first | exact Or.inl rfl | exact Or.inr (Or.inl rfl) | exact Or.inr (Or.inr rfl)) (hd : (x == ("__debug__" : Str)) = false := by decide)
    (hcd : (x == ("__classdict__" : Str)) = false := by decide) : PF G X W true (.Name x pos) (rBor i) :=
  pe_imp (pe_var hN hv hd hcd) fun σ H Q ⟨μ, O, env, S, R, h⟩ => by
    unfold rBor at h
    cases e : env[i]? with
    | none => rw [e] at h; exact h.elim
    | some s =>
      rw [e] at h
      obtain ⟨v, hv, hs⟩ := R.env.slot i s e
      cases s with
      | val p =>
        cases hs with
        | val hp => exact ⟨_, hv, h.now R (.kept hp)⟩
      | no => exact h.elim
      | exc c ns ps => exact h.elim
      | own xs =>
        cases hs with
        | own h1 h2 h3 => exact ⟨_, hv, h.now R (.lent h1 h2 h3)⟩
/-- a kept value serves where a lent one does -/
theorem PF.lend {e : Expr} {r : RE} (h : PF G X W false e r) : PF G X W true e r :=
  pe_imp h fun σ H Q ⟨μ, O, env, S, R, h⟩ => ⟨μ, O, env, S, R, by
    cases e : r env S with
    | ok p S1 =>
      rw [e] at h
      refine fun v H' μ' f s rp => h v H' μ' f s ?_
      have rp : RpB G μ' H' O false v p := rp
      cases rp with
      | kept k => exact .kept k
    | exc c ns ps S1 => rw [e] at h; exact h
    | stuck => rw [e] at h; exact h⟩

/-! ### arguments, displays -/
def raNil : RA := fun _ => M.ret []
def raCons (r : RE) (rs : RA) : RA := fun env => M.bind (r env) fun p => M.bind (rs env) fun ps => M.ret (p :: ps)
theorem RpB.keep {G : Cfg} {μ : List Addr} {H : Hp} {O : Ow} {v : V} {p : PV} (h : RpB G μ H O false v p) : Rp G μ (view H (μ ++ Ow.ad O)) v p := by
  cases h with
  | kept h => exact h
theorem pfa_nil : PFA G X W [] raNil := pa_imp pa_nil fun σ H Q ⟨μ, O, env, S, R, h⟩ => h.now R .nil
theorem pfa_cons {e : Expr} {es : List Expr} {r : RE} {rs : RA} (he : PF G X W false e r) (hr : PFA G X W es rs) (hs : starEach (e :: es) X.env = (false, eval e X.env) :: starEach es X.env := by rfl) : PFA G X W (e :: es) (raCons r rs) :=
  pa_imp (pa_cons he hr hs) fun σ H Q ⟨μ, O, env, S, R, h⟩ =>
    bindE R h fun p v S1 H1 μ1 f R1 rp h1 => bindA R1 h1 fun ps vs S2 H2 μ2 f2 R2 rps h2 =>
      h2.now R2 (.cons (Rp.mono f2.view f2.pre _ _ rp.keep) rps)
def rTup (rs : RA) : RE := fun env => M.bind (rs env) fun ps => if ps.length ≤ sizeLine then M.ret (.tup ps) else M.stuck
def rLst (rs : RA) : RE := fun env => M.bind (rs env) fun ps => if ps.length ≤ sizeLine then M.ret (.lst ps) else M.stuck
theorem new_view {H : Hp} {μ : List Addr} {O : Ow} {p : Addr} {o : HO} {env : En} {σ : L2.St} {S : Store} (R : Rel G H μ O σ env S) (hp : H p = none) (ho : isTbl o = false) : view (upd H p o) (μ ++ Ow.ad O) p = some o := by
  refine view_of upd_same (fun z => ?_) ho
  rcases List.mem_append.mp z with z | z
  · obtain ⟨i, hi⟩ := List.getElem?_of_mem z
    have hl : i < S.length := by rw [← R.sto.len]; exact (List.getElem?_eq_some_iff.mp hi).1
    obtain ⟨a, xs, h1, h2, _⟩ := R.sto.cell i S[i] (by simp [hl])
    rw [hi] at h1; cases h1
    rw [hp] at h2; cases h2
  · obtain ⟨_, u, hu, _⟩ := R.sto.hid p z
    rw [hp] at hu; cases hu
theorem pf_tup {es : List Expr} {rs : RA} {x1 pos} (h : PFA G X W es rs) : PF G X W b (.Tuple es x1 pos) (rTup rs) :=
  pe_imp (pe_tup h) fun σ H Q ⟨μ, O, env, S, R, h⟩ => bindA R h fun ps vs S1 H1 μ1 f R1 rp h1 => by
    have hl := rp.length
    split at h1
    · rename_i hz
      exact ⟨by rw [hl]; exact hz, fun p hp => h1.new R1 hp fun f2 => .kept (.tup (.inl (.inl (new_view R1 hp rfl))) (RpL.mono f2.view f2.pre _ _ rp))⟩
    · exact h1.elim
theorem pf_lst {es : List Expr} {rs : RA} {pos} (h : PFA G X W es rs) : PF G X W b (.List es pos) (rLst rs) :=
  pe_imp (pe_lst h) fun σ H Q ⟨μ, O, env, S, R, h⟩ => bindA R h fun ps vs S1 H1 μ1 f R1 rp h1 => by
    have hl := rp.length
    split at h1
    · rename_i hz
      exact ⟨by rw [hl]; exact hz, fun p hp => h1.new R1 hp fun f2 => .kept (.lst (new_view R1 hp rfl) (RpL.mono f2.view f2.pre _ _ rp))⟩
    · exact h1.elim
end
end Fx

/-! FxC: operators. -/
namespace Fx
open PySem PySem.Spec PyProof.Rows L2

/-- an operation on plain values that a machine's operation does -/
structure Opd (G : Cfg) (X : Cx) (f : Value → Value → Sem Value) (op : PV → PV → M PV) : Prop where
  ex : ∃ r : R2, OpR X f r ∧ ∀ (W : WX) (σ : L2.St) (O : Ow) (H : Hp) (μ : List Addr) (env : En) (S : Store) (x y : V) (p q : PV) (Q : VK), Rel G H μ O σ env S → RpB G μ H O true x p → RpB G μ H O true y q → Post G W σ O H μ (relV G O false) (op p q S) Q → r x y H Q
theorem opR_or {X : Cx} {f : Value → Value → Sem Value} {r r' : R2} (h : OpR X f r) (h' : OpR X f r') : OpR X f (fun x y H Q => r x y H Q ∨ r' x y H Q) := fun pins s σ H x y v u Q I rx ry q => by
  rcases q with q | q
  · exact h pins s σ H x y v u Q I rx ry q
  · exact h' pins s σ H x y v u Q I rx ry q

/-! ### what lies behind a plain value -/
section
variable {G : Cfg} {W : WX} {σ : L2.St} {O : Ow} {H : Hp} {μ : List Addr} {env : En} {S : Store} {b : Bool}
theorem RpB.int {v : V} {i : Int} (h : RpB G μ H O b v (.int i)) : v = .int i := by
  cases h with
  | kept h => cases h; rfl
theorem RpB.bl {v : V} {i : Bool} (h : RpB G μ H O b v (.bl i)) : v = .bl i := by
  cases h with
  | kept h => cases h; rfl
theorem RpB.str {v : V} {i : Str} (h : RpB G μ H O b v (.str i)) : v = .str i := by
  cases h with
  | kept h => cases h; rfl
theorem RpB.non {v : V} (h : RpB G μ H O b v .non) : v = .non := by
  cases h with
  | kept h => cases h; rfl
theorem RpB.tup {v : V} {ps : List PV} (h : RpB G μ H O b v (.tup ps)) : ∃ a xs, v = .ref a ∧ SqT G.K H a xs ∧ RpL G μ (view H (μ ++ Ow.ad O)) xs ps := by
  cases h with
  | kept h => cases h with
    | tup k l => exact ⟨_, _, rfl, same_sqT (view_sub _ _) k, l⟩
theorem RpB.lst {v : V} {ps : List PV} (h : RpB G μ H O b v (.lst ps)) : ∃ a xs, v = .ref a ∧ H a = some (.lst xs) ∧ RpL G μ (view H (μ ++ Ow.ad O)) xs ps := by
  cases h with
  | kept h => cases h with
    | lst k l => exact ⟨_, _, rfl, view_sub _ _ _ _ k, l⟩
  | lent _ k l => exact ⟨_, _, rfl, k, l⟩
theorem RpB.scr {v : V} {ns : List Int} (h : RpB G μ H O b v (.scr ns)) : ∃ a, v = .ref a ∧ SqL G.K H a (ns.map V.int) := by
  cases h with
  | kept h => cases h with
    | scr k => exact ⟨_, rfl, (view_sub _ _).seq k⟩
theorem rpl_ints (ns : List Int) (H : Hp) : RpL G μ H (ns.map V.int) (ns.map PV.int) := by
  induction ns with
  | nil => exact .nil
  | cons n r ih => exact .cons (.int n) ih
end

/-! ### arithmetic -/
def opAdd : PV → PV → M PV
  | .int i, .int j => M.ret (.int (i + j))
  | .str x, .str y => if x.length + y.length ≤ sizeLine then M.ret (.str (x ++ y)) else M.stuck
  | .lst xs, .lst ys => if xs.length + ys.length ≤ sizeLine then M.ret (.lst (xs ++ ys)) else M.stuck
  | .tup xs, .tup ys => if xs.length + ys.length ≤ sizeLine then M.ret (.tup (xs ++ ys)) else M.stuck
  | _, _ => M.stuck
section
variable {G : Cfg} {X : Cx}
theorem od_add (hK : G.K = X.K) : Opd G X (binaryOp .Add) opAdd := by
  refine ⟨_, opR_or op_add (opR_or op_add_str (opR_or op_cat op_catA)), fun W σ O H μ env S x y p q Q R hp hq h => ?_⟩
  unfold opAdd at h
  split at h
  · rename_i i j
    exact .inl ⟨i, j, hp.int, hq.int, h.now R (.kept (.int _))⟩
  · rename_i x y
    split at h
    · rename_i hz
      exact .inr (.inl ⟨x, y, hp.str, hq.str, hz, h.now R (.kept (.str _))⟩)
    · exact h.elim
  · rename_i xs ys
    split at h
    · rename_i hz
      obtain ⟨a, as, rfl, ha, la⟩ := hp.lst
      obtain ⟨b, bs, rfl, hb, lb⟩ := hq.lst
      have e1 := la.length
      have e2 := lb.length
      exact .inr (.inr (.inl ⟨a, b, as, bs, rfl, rfl, ha, hb, by omega, fun p hp => h.new R hp fun f => .kept (.lst (new_view R hp rfl) (RpL.mono f.view f.pre _ _ (la.append lb)))⟩))
    · exact h.elim
  · rename_i xs ys
    split at h
    · rename_i hz
      obtain ⟨a, as, rfl, ha, la⟩ := hp.tup
      obtain ⟨b, bs, rfl, hb, lb⟩ := hq.tup
      have e1 := la.length
      have e2 := lb.length
      rw [hK] at ha hb
      refine .inr (.inr (.inr ⟨a, b, as, bs, rfl, rfl, ha, hb, by omega, fun z => ?_, fun _ z => ?_, fun _ _ p hp => h.new R hp fun f => .kept (.tup (.inl (.inl (new_view R hp rfl))) (RpL.mono f.view f.pre _ _ (la.append lb)))⟩))
      · subst z
        cases la
        cases hq with
        | kept k => exact h.now R (.kept k)
      · subst z
        cases lb
        rw [List.append_nil] at h
        cases hp with
        | kept k => exact h.now R (.kept k)
    · exact h.elim
  · exact h.elim
def opSub : PV → PV → M PV
  | .int i, .int j => M.ret (.int (i - j))
  | _, _ => M.stuck
theorem od_sub : Opd G X (binaryOp .Sub) opSub := by
  refine ⟨_, op_sub, fun W σ O H μ env S x y p q Q R hp hq h => ?_⟩
  unfold opSub at h
  split at h
  · rename_i i j
    exact ⟨i, j, hp.int, hq.int, h.now R (.kept (.int _))⟩
  · exact h.elim
/-- the size of a product -/
def mulFits (i j : Int) : Bool := decide (i.natAbs.log2 + j.natAbs.log2 < 1000000)
def opMul : PV → PV → M PV
  | .int i, .int j => if mulFits i j then M.ret (.int (i * j)) else M.stuck
  | .lst xs, .int k => if 0 ≤ k ∧ k < 2 ^ 20 ∧ xs.length * k.toNat ≤ sizeLine then M.ret (.lst (List.replicate k.toNat xs).flatten) else M.stuck
  | _, _ => M.stuck
theorem RpL.rep {G : Cfg} {μ : List Addr} {H : Hp} {vs : List V} {ds : List PV} (h : RpL G μ H vs ds) : ∀ k : Nat, RpL G μ H (List.replicate k vs).flatten (List.replicate k ds).flatten
  | 0 => .nil
  | k + 1 => by
    rw [List.replicate_succ, List.replicate_succ, List.flatten_cons, List.flatten_cons]
    exact h.append (h.rep k)
theorem od_mul : Opd G X (binaryOp .Mult) opMul := by
  refine ⟨_, opR_or op_mulW op_rep, fun W σ O H μ env S x y p q Q R hp hq h => ?_⟩
  unfold opMul at h
  split at h
  · rename_i i j
    split at h
    · rename_i hz
      exact .inl ⟨i, j, hp.int, hq.int, (show i.natAbs.log2 + j.natAbs.log2 < 1000000 by simpa [mulFits] using hz), h.now R (.kept (.int _))⟩
    · exact h.elim
  · rename_i xs k
    split at h
    · rename_i hz
      obtain ⟨a, as, rfl, ha, la⟩ := hp.lst
      have e1 := la.length
      exact .inr ⟨a, k, as, rfl, hq.int, ha, by omega, by omega, by rw [e1]; exact hz.2.2, fun p hp => h.new R hp fun f => .kept (.lst (new_view R hp rfl) (RpL.mono f.view f.pre _ _ (la.rep _)))⟩
    · exact h.elim
  · exact h.elim
def opMod : PV → PV → M PV
  | .int i, .int j => if j ≠ 0 then M.ret (.int (i.fmod j)) else M.stuck
  | _, _ => M.stuck
theorem od_mod : Opd G X (binaryOp .Mod) opMod := by
  refine ⟨_, op_modN, fun W σ O H μ env S x y p q Q R hp hq h => ?_⟩
  unfold opMod at h
  split at h
  · rename_i i j
    split at h
    · rename_i hz
      exact ⟨i, j, hp.int, hq.int, hz, h.now R (.kept (.int _))⟩
    · exact h.elim
  · exact h.elim
theorem op_fdivWN : OpR X (binaryOp .FloorDiv) (rI (fun _ j => j ≠ 0 ∧ j.natAbs.log2 < 9000) fun i j => .int (i.fdiv j)) := opI fun i j _ _ _ _ _ hc q =>
  floordiv_int hc.1 q (.inl (PyProof.noPylong_of_log2 hc.2))
def opDiv : PV → PV → M PV
  | .int i, .int j => if j ≠ 0 ∧ j.natAbs.log2 < 9000 then M.ret (.int (i.fdiv j)) else M.stuck
  | _, _ => M.stuck
theorem od_div : Opd G X (binaryOp .FloorDiv) opDiv := by
  refine ⟨_, op_fdivWN, fun W σ O H μ env S x y p q Q R hp hq h => ?_⟩
  unfold opDiv at h
  split at h
  · rename_i i j
    split at h
    · rename_i hz
      exact ⟨i, j, hp.int, hq.int, hz, h.now R (.kept (.int _))⟩
    · exact h.elim
  · exact h.elim
def opPow : PV → PV → M PV
  | .int i, .int j => if 0 ≤ j ∧ j ≤ 1000000 ∧ i.natAbs < 2 ^ 64 then M.ret (.int (i ^ j.toNat)) else M.stuck
  | _, _ => M.stuck
theorem od_pow : Opd G X (binaryOp .Pow) opPow := by
  refine ⟨_, op_pow, fun W σ O H μ env S x y p q Q R hp hq h => ?_⟩
  unfold opPow at h
  split at h
  · rename_i i j
    split at h
    · rename_i hz
      exact ⟨i, j, hp.int, hq.int, hz, h.now R (.kept (.int _))⟩
    · exact h.elim
  · exact h.elim
def opCmp (g : Int → Int → Bool) : PV → PV → M PV
  | .int i, .int j => M.ret (.bl (g i j))
  | _, _ => M.stuck
theorem od_cmp {f : Value → Value → Sem Value} {g : Int → Int → Bool} (h : OpR X f (rI0 fun i j => .bl (g i j))) : Opd G X f (opCmp g) := by
  refine ⟨_, h, fun W σ O H μ env S x y p q Q R hp hq h => ?_⟩
  unfold opCmp at h
  split at h
  · rename_i i j
    exact ⟨i, j, hp.int, hq.int, h.now R (.kept (.bl _))⟩
  · exact h.elim
theorem od_lt : Opd G X (compareOp .Lt) (opCmp fun i j => decide (i < j)) := od_cmp op_lt
theorem od_le : Opd G X (compareOp .LtE) (opCmp fun i j => decide (i ≤ j)) := od_cmp op_le
theorem od_gt : Opd G X (compareOp .Gt) (opCmp fun i j => decide (j < i)) := od_cmp op_gt
theorem od_ge : Opd G X (compareOp .GtE) (opCmp fun i j => decide (j ≤ i)) := od_cmp op_ge

/-! ### data, equality -/
mutual
def toD : PV → Option PyData
  | .non => some .none
  | .bl b => some (.bool b)
  | .int i => some (.int i)
  | .str x => some (.str x)
  | .tup xs => (toDs xs).map .tuple
  | .lst xs => (toDs xs).map .list
  | _ => none
def toDs : List PV → Option (List PyData)
  | [] => some []
  | x :: xs => match toD x, toDs xs with
    | some d, some ds => some (d :: ds)
    | _, _ => none
end
mutual
theorem dp_of {G : Cfg} {μ : List Addr} {H : Hp} : ∀ (p : PV) (v : V) (d : PyData), Rp G μ H v p → toD p = some d → Dp G.K H v d
  | .non, _, d, .non, e => by unfold toD at e; cases e; exact .non
  | .bl b, _, d, .bl _, e => by unfold toD at e; cases e; exact .bl b
  | .int i, _, d, .int _, e => by unfold toD at e; cases e; exact .int i
  | .str x, _, d, .str _, e => by unfold toD at e; cases e; exact .str x
  | .tup ps, _, d, .tup h l, e => by
    unfold toD at e
    obtain ⟨ds, e1, e2⟩ := Option.map_eq_some_iff.mp e
    subst e2
    exact .tup h (dps_of ps _ ds l e1)
  | .lst ps, _, d, .lst h l, e => by
    unfold toD at e
    obtain ⟨ds, e1, e2⟩ := Option.map_eq_some_iff.mp e
    subst e2
    exact .lst (SqL.of h) (dps_of ps _ ds l e1)
theorem dps_of {G : Cfg} {μ : List Addr} {H : Hp} : ∀ (ps : List PV) (vs : List V) (ds : List PyData), RpL G μ H vs ps → toDs ps = some ds → DpAll G.K H vs ds
  | [], _, ds, .nil, e => by unfold toDs at e; cases e; exact .nil
  | p :: ps, _, ds, .cons h l, e => by
    unfold toDs at e
    cases e1 : toD p with
    | none => rw [e1] at e; cases e
    | some d =>
      cases e2 : toDs ps with
      | none => rw [e1, e2] at e; cases e
      | some ds2 =>
        rw [e1, e2] at e
        cases e
        exact .cons (dp_of p _ d h e1) (dps_of ps _ ds2 l e2)
end
mutual
theorem sameDp {K : PySem.W.Frag} {H H' : Hp} (e : Same H H') : ∀ (d : PyData) (v : V), Dp K H v d → Dp K H' v d
  | _, _, .non => .non
  | _, _, .bl b => .bl b
  | _, _, .int i => .int i
  | _, _, .str x => .str x
  | _, _, .lst h l => .lst (e.seq h) (sameDps e _ _ l)
  | _, _, .tup h l => .tup (same_sqT e h) (sameDps e _ _ l)
theorem sameDps {K : PySem.W.Frag} {H H' : Hp} (e : Same H H') : ∀ (ds : List PyData) (vs : List V), DpAll K H vs ds → DpAll K H' vs ds
  | _, _, .nil => .nil
  | _, _, .cons h l => .cons (sameDp e _ _ h) (sameDps e _ _ l)
end
theorem RpB.dp {O : Ow} {H : Hp} {μ : List Addr} {v : V} {p : PV} {d : PyData} {b : Bool} (h : RpB G μ H O b v p) (e : toD p = some d) : Dp G.K H v d := by
  cases h with
  | kept h => exact sameDp (view_sub _ _) _ _ (dp_of _ _ _ h e)
  | lent _ k l =>
    unfold toD at e
    obtain ⟨ds, e1, e2⟩ := Option.map_eq_some_iff.mp e
    subst e2
    exact .lst (SqL.of k) (sameDps (view_sub _ _) _ _ (dps_of _ _ ds l e1))
/-- == of data -/
def eqPD (p q : PV) : Option Bool := match toD p, toD q with
  | some d, some e => if SeqAt.shaped d = true ∧ SeqAt.shaped e = true then some (PyData.eqv d e) else none
  | _, _ => none
def eqPV (p q : PV) : Option Bool := match p, q with
  | .str x, .str y => some (decide (x = y))
  | p, q => eqPD p q
def opEq (p q : PV) : M PV := match eqPV p q with
  | some b => M.ret (.bl b)
  | none => M.stuck
def opNe (p q : PV) : M PV := match eqPV p q with
  | some b => M.ret (.bl (!b))
  | none => M.stuck
theorem eqPD_some {p q : PV} {b : Bool} (h : eqPD p q = some b) : ∃ d e, toD p = some d ∧ toD q = some e ∧ SeqAt.shaped d = true ∧ SeqAt.shaped e = true ∧ b = PyData.eqv d e := by
  unfold eqPD at h
  split at h
  · rename_i d e h1 h2
    split at h
    · rename_i hs
      cases h
      exact ⟨d, e, h1, h2, hs.1, hs.2, rfl⟩
    · cases h
  · cases h
theorem eqPV_some {p q : PV} {b : Bool} (h : eqPV p q = some b) : (∃ x y, p = .str x ∧ q = .str y ∧ b = decide (x = y)) ∨ ∃ d e, toD p = some d ∧ toD q = some e ∧ SeqAt.shaped d = true ∧ SeqAt.shaped e = true ∧ b = PyData.eqv d e := by
  unfold eqPV at h
  split at h
  · cases h; exact .inl ⟨_, _, rfl, rfl, rfl⟩
  · exact .inr (eqPD_some h)
theorem dec_strV {x y : Str} : decide (V.str x = V.str y) = decide (x = y) := by
  by_cases h : x = y
  · rw [h]; simp
  · have : V.str x ≠ V.str y := fun z => h (by cases z; rfl)
    rw [decide_eq_false h, decide_eq_false this]
theorem od_eq (hK : G.K = X.K) (hu : X.A.units + 64 < cLine) : Opd G X (compareOp .Eq) opEq := by
  refine ⟨_, opR_or op_eq (op_eqD hu), fun W σ O H μ env S x y p q Q R hp hq h => ?_⟩
  unfold opEq at h
  cases hb : eqPV p q with
  | some b =>
    rw [hb] at h
    rcases eqPV_some hb with ⟨a, c, rfl, rfl, rfl⟩ | ⟨d, e, h1, h2, s1, s2, rfl⟩
    · refine .inl ?_
      rw [hp.str, hq.str]
      exact ⟨rfl, by rw [dec_strV]; exact h.now R (.kept (.bl _))⟩
    · exact .inr ⟨d, e, by rw [← hK]; exact hp.dp h1, by rw [← hK]; exact hq.dp h2, s1, s2, h.now R (.kept (.bl _))⟩
  | none => rw [hb] at h; exact h.elim
theorem od_ne (hK : G.K = X.K) (hu : X.A.units + 64 < cLine) : Opd G X (compareOp .NotEq) opNe := by
  refine ⟨_, opR_or op_ne (op_neD hu), fun W σ O H μ env S x y p q Q R hp hq h => ?_⟩
  unfold opNe at h
  cases hb : eqPV p q with
  | some b =>
    rw [hb] at h
    rcases eqPV_some hb with ⟨a, c, rfl, rfl, rfl⟩ | ⟨d, e, h1, h2, s1, s2, rfl⟩
    · refine .inl ?_
      rw [hp.str, hq.str]
      exact ⟨rfl, by rw [dec_strV]; exact h.now R (.kept (.bl _))⟩
    · exact .inr ⟨d, e, by rw [← hK]; exact hp.dp h1, by rw [← hK]; exact hq.dp h2, s1, s2, h.now R (.kept (.bl _))⟩
  | none => rw [hb] at h; exact h.elim

/-! ### is -/
def opIs (neg : Bool) : PV → PV → M PV
  | p, .non => match p with
    | .non => M.ret (.bl (!neg))
    | _ => M.ret (.bl neg)
  | .bl a, .bl b => M.ret (.bl (if neg then !decide (a = b) else decide (a = b)))
  | _, _ => M.stuck
theorem rpb_non {O : Ow} {H : Hp} {μ : List Addr} {v : V} {p : PV} {b : Bool} (h : RpB G μ H O b v p) (n : p ≠ .non) : v ≠ .non := by
  cases h with
  | kept h => cases h <;> first | exact absurd rfl n | (intro z; cases z)
  | lent => intro z; cases z
theorem od_is : Opd G X (compareOp .Is) (opIs false) := by
  refine ⟨_, opR_or op_isN op_isBl, fun W σ O H μ env S x y p q Q R hp hq h => ?_⟩
  unfold opIs at h
  split at h
  · rename_i p'
    refine .inl ⟨hq.non, ?_⟩
    split at h
    · rw [hp.non]
      exact h.now R (.kept (.bl _))
    · rename_i hn
      have : x ≠ V.non := rpb_non hp hn
      rw [decide_eq_false this]
      exact h.now R (.kept (.bl _))
  · rename_i a b
    exact .inr ⟨a, b, hp.bl, hq.bl, h.now R (.kept (.bl _))⟩
  · exact h.elim
theorem od_isnot : Opd G X (compareOp .IsNot) (opIs true) := by
  refine ⟨_, opR_or op_notN op_notBl, fun W σ O H μ env S x y p q Q R hp hq h => ?_⟩
  unfold opIs at h
  split at h
  · rename_i p'
    refine .inl ⟨hq.non, ?_⟩
    split at h
    · rw [hp.non]
      exact h.now R (.kept (.bl _))
    · rename_i hn
      have : x ≠ V.non := rpb_non hp hn
      rw [decide_eq_false this]
      exact h.now R (.kept (.bl _))
  · rename_i a b
    exact .inr ⟨a, b, hp.bl, hq.bl, h.now R (.kept (.bl _))⟩
  · exact h.elim
end

/-! ### terms -/
def rOp (op : PV → PV → M PV) (ra rb : RE) : RE := fun env => M.bind (ra env) fun p => M.bind (rb env) fun q => op p q
section
variable {G : Cfg} {X : Cx} {W : WX} {b : Bool} {e1 e2 : Expr} {ra rb : RE} {pos : Pos}
theorem opd_run {f : Value → Value → Sem Value} {op : PV → PV → M PV} (ho : Opd G X f op) {t : R2 → TE} (k : ∀ r, OpR X f r → PE X e1 (tOp r (rdE G W true ra) (rdE G W true rb))) : PF G X W b e1 (rOp op ra rb) := by
  obtain ⟨r, hr, hp⟩ := ho.ex
  refine pe_imp (k r hr) fun σ H Q ⟨μ, O, env, S, R, h⟩ => ?_
  refine bindE R h fun p v S1 H1 μ1 f1 R1 rp h1 => bindE R1 h1 fun q u S2 H2 μ2 f2 R2 rq h2 => ?_
  refine hp W σ O H2 μ2 env S2 v u p q Q R2 (rp.fr f2 fun a ha => (R1.sto.hid a ha).1) rq ?_
  cases e : op p q S2 with
  | ok a S3 =>
    rw [e] at h2
    exact fun v' H' μ' f' s' r' => h2 v' H' μ' f' s' (by
      have r' : RpB G μ' H' O false v' a := r'
      exact .kept r'.keep)
  | exc c ns ps S3 => rw [e] at h2; exact h2
  | stuck => rw [e] at h2; exact h2
theorem pf_op {o : Operator} {op : PV → PV → M PV} (ho : Opd G X (binaryOp o) op) (ha : PF G X W true e1 ra) (hb : PF G X W true e2 rb) : PF G X W b (.BinOp e1 o e2 pos) (rOp op ra rb) :=
  opd_run (t := fun r => tOp r (rdE G W true ra) (rdE G W true rb)) ho fun r hr => pe_op hr ha hb
theorem pf_cmp {o : CmpOp} {op : PV → PV → M PV} (ho : Opd G X (compareOp o) op) (ha : PF G X W true e1 ra) (hb : PF G X W true e2 rb) (hm : behindInMarks o e2 = false := by rfl) : PF G X W b (.Compare e1 [o] [e2] pos) (rOp op ra rb) :=
  opd_run (t := fun r => tOp r (rdE G W true ra) (rdE G W true rb)) ho fun r hr => pe_cmpR hr ha hb hm
/-- -a -/
def rNeg (ra : RE) : RE := fun env => M.bind (ra env) fun p => match p with
  | .int i => M.ret (.int (-i))
  | _ => M.stuck
theorem pf_neg (ha : PF G X W true e1 ra) : PF G X W b (.UnaryOp .USub e1 pos) (rNeg ra) :=
  pe_imp (pe_un un_neg ha) fun σ H Q ⟨μ, O, env, S, R, h⟩ => bindE R h fun p v S1 H1 μ1 f1 R1 rp h1 => by
    split at h1
    · rename_i i
      exact ⟨i, rp.int, h1.now R1 (.kept (.int _))⟩
    · exact h1.elim
/-! ### truth -/
def truPV : PV → Option Bool
  | .non => some false
  | .bl b => some b
  | .int i => some (i != 0)
  | .str y => if y.length ≤ sizeLine then some ((y.length : Int) != 0) else none
  | .tup xs => some (!xs.isEmpty)
  | .lst xs => some (!xs.isEmpty)
  | .scr xs => some (!xs.isEmpty)
  | .dct ks xs => some (!ks.isEmpty)
  | _ => none
theorem empty_len {α β : Type} {xs : List α} {ys : List β} (h : xs.length = ys.length) : xs.isEmpty = ys.isEmpty := by
  cases xs <;> cases ys <;> simp at h ⊢
theorem RpB.tru (hK : G.K = X.K) {O : Ow} {H : Hp} {μ : List Addr} {v : V} {p : PV} {k : Bool} (h : RpB G μ H O b v p) (e : truPV p = some k) : TruV X.K v H k := by
  unfold truPV at e
  split at e
  · cases e; rw [h.non]; exact rfl
  · cases e; rw [h.bl]; exact rfl
  · cases e; rw [h.int]; exact rfl
  · split at e
    · rename_i hz
      cases e; rw [h.str]; exact ⟨hz, rfl⟩
    · cases e
  · cases e
    obtain ⟨a, xs, rfl, h1, l⟩ := h.tup
    exact .inr (.inl ⟨xs, by rw [← hK]; exact h1, by rw [empty_len l.length]⟩)
  · cases e
    obtain ⟨a, xs, rfl, h1, l⟩ := h.lst
    exact .inl ⟨xs, SqL.of h1, by rw [empty_len l.length]⟩
  · cases e
    obtain ⟨a, rfl, h1⟩ := h.scr
    exact .inl ⟨_, by rw [← hK]; exact h1, by simp⟩
  · cases e
    cases h with
    | kept h => cases h with
      | dct k z l =>
        refine .inr (.inr ⟨_, view_sub _ _ _ _ k, ?_⟩)
        rename_i xs
        have e1 : (List.zip ‹List Key› xs).length = (‹List Key›).length := by rw [List.length_zip, z]; omega
        rw [empty_len e1]
  · cases e
/-- a test of a value that is True or False -/
def rTruB (ra : RE) : RT := fun env => M.bind (ra env) fun p => match p with
  | .bl b => M.ret b
  | _ => M.stuck
def rTru (ra : RE) : RT := fun env => M.bind (ra env) fun p => match truPV p with
  | some b => M.ret b
  | none => M.stuck
theorem pft_tru (hK : G.K = X.K) (ha : PF G X W true e1 ra) (he : ∀ whole, isTrue e1 X.env whole = (do let v ← whole; standAt e1.pos; holding [v] (truthy v)) := by intro _; rfl) : PFT G X W e1 (rTru ra) :=
  pt_imp (pt_truth ha he) fun σ H Q ⟨μ, O, env, S, R, h⟩ => bindE R h fun p v S1 H1 μ1 f1 R1 rp h1 => by
    cases hk : truPV p with
    | some k =>
      rw [hk] at h1
      exact ⟨k, rp.tru hK hk, h1.now R1 rfl⟩
    | none => rw [hk] at h1; exact h1.elim
/-- a comparison as a test -/
theorem pft_cmp {o : CmpOp} {op : PV → PV → M PV} (ho : Opd G X (compareOp o) op) (ha : PF G X W true e1 ra) (hb : PF G X W true e2 rb) (hm : behindInMarks o e2 = false := by rfl) : PFT G X W (.Compare e1 [o] [e2] pos) (rTruB (rOp op ra rb)) := by
  obtain ⟨r, hr, hp⟩ := ho.ex
  refine pt_imp (pt_cmpR hr ha hb hm) fun σ H Q ⟨μ, O, env, S, R, h⟩ => ?_
  unfold rTruB rOp at h
  have h' : Post G W σ O H μ relE (M.bind (ra env) (fun p => M.bind (rb env) fun q => M.bind (op p q) fun z => match z with | .bl b => M.ret b | _ => M.stuck) S) Q := by
    have e : (M.bind (M.bind (ra env) fun p => M.bind (rb env) fun q => op p q) (fun p => match p with | .bl b => M.ret b | _ => M.stuck) S : Out Bool) = M.bind (ra env) (fun p => M.bind (rb env) fun q => M.bind (op p q) fun z => match z with | .bl b => M.ret b | _ => M.stuck) S := by
      unfold M.bind
      cases ra env S with
      | ok p S1 =>
        dsimp only
        cases rb env S1 <;> rfl
      | exc => rfl
      | stuck => rfl
    rw [← e]
    exact h
  refine bindE R h' fun p v S1 H1 μ1 f1 R1 rp h1 => bindE R1 h1 fun q u S2 H2 μ2 f2 R2 rq h2 => ?_
  refine hp W σ O H2 μ2 env S2 v u p q _ R2 (rp.fr f2 fun a ha => (R1.sto.hid a ha).1) rq ?_
  unfold M.bind at h2
  cases e : op p q S2 with
  | ok a S3 =>
    rw [e] at h2
    dsimp only at h2
    refine fun v' H' μ' f' s' r' => ?_
    have r' : RpB G μ' H' O false v' a := r'
    split at h2
    · exact ⟨_, r'.bl, h2 _ H' μ' f' s' rfl⟩
    · exact h2.elim
  | exc c ns ps S3 => rw [e] at h2; exact h2
  | stuck => rw [e] at h2; exact h2
/-! ### and, or, not -/
def rtAnd (ra rb : RT) : RT := fun env => M.bind (ra env) fun c => if c then rb env else M.ret false
def rtOr (ra rb : RT) : RT := fun env => M.bind (ra env) fun c => if c then M.ret true else rb env
def rtNot (ra : RT) : RT := fun env => M.bind (ra env) fun c => M.ret (!c)
variable {ta tb : RT} {rest : List Expr} {e3 : Expr}
theorem pfw_and1 (ha : PFT G X W e1 ta) : PFW G X W (.BoolOp .And [e1] pos) ta := pw_and1 ha
theorem pfw_or1 (ha : PFT G X W e1 ta) : PFW G X W (.BoolOp .Or [e1] pos) ta := pw_or1 ha
theorem pfw_and (ha : PFT G X W e1 ta) (hb : PFW G X W (.BoolOp .And (e2 :: rest) pos) tb) : PFW G X W (.BoolOp .And (e1 :: e2 :: rest) pos) (rtAnd ta tb) :=
  pw_imp (pw_and ha hb) fun σ H Q ⟨μ, O, env, S, R, h⟩ => bindT R h fun c S1 H1 μ1 f1 R1 h1 => by
    cases c with
    | true => exact ⟨μ1, O, env, S1, R1, h1⟩
    | false => exact h1.now R1 rfl
theorem pfw_or (ha : PFT G X W e1 ta) (hb : PFW G X W (.BoolOp .Or (e2 :: rest) pos) tb) : PFW G X W (.BoolOp .Or (e1 :: e2 :: rest) pos) (rtOr ta tb) :=
  pw_imp (pw_or ha hb) fun σ H Q ⟨μ, O, env, S, R, h⟩ => bindT R h fun c S1 H1 μ1 f1 R1 h1 => by
    cases c with
    | true => exact h1.now R1 rfl
    | false => exact ⟨μ1, O, env, S1, R1, h1⟩
theorem pft_w (h : PFW G X W e1 ta) : PFT G X W e1 ta := PW.pt h
theorem pft_not (ha : PFT G X W e1 ta) : PFT G X W (.UnaryOp .Not e1 pos) (rtNot ta) :=
  pt_imp (pt_not ha) fun σ H Q ⟨μ, O, env, S, R, h⟩ => bindT R h fun c S1 H1 μ1 f1 R1 h1 => h1.now R1 rfl
/-- values: a and b, a or b, not a -/
def rAndV (ra rb : RE) : RE := fun env => M.bind (ra env) fun p => match truPV p with
  | some c => if c then rb env else M.ret p
  | none => M.stuck
def rOrV (ra rb : RE) : RE := fun env => M.bind (ra env) fun p => match truPV p with
  | some c => if c then M.ret p else rb env
  | none => M.stuck
def rNotV (ra : RE) : RE := fun env => M.bind (ra env) fun p => match truPV p with
  | some c => M.ret (.bl (!c))
  | none => M.stuck
theorem pf_one {op} (h : PF G X W b e1 ra) : PF G X W b (.BoolOp op [e1] pos) ra := pe_one h
theorem pf_and (hK : G.K = X.K) (ha : PF G X W b e1 ra) (hb : PF G X W b (.BoolOp .And (e2 :: rest) pos) rb) : PF G X W b (.BoolOp .And (e1 :: e2 :: rest) pos) (rAndV ra rb) :=
  pe_imp (pe_andT ha hb) fun σ H Q ⟨μ, O, env, S, R, h⟩ => bindE R h fun p v S1 H1 μ1 f1 R1 rp h1 => by
    cases hk : truPV p with
    | some k =>
      rw [hk] at h1
      refine ⟨k, rp.tru hK hk, ?_⟩
      cases k with
      | true => exact iteT ⟨μ1, O, env, S1, R1, h1⟩
      | false => exact iteF (h1.now R1 rp)
    | none => rw [hk] at h1; exact h1.elim
theorem pf_or (hK : G.K = X.K) (ha : PF G X W b e1 ra) (hb : PF G X W b (.BoolOp .Or (e2 :: rest) pos) rb) : PF G X W b (.BoolOp .Or (e1 :: e2 :: rest) pos) (rOrV ra rb) :=
  pe_imp (pe_orT ha hb) fun σ H Q ⟨μ, O, env, S, R, h⟩ => bindE R h fun p v S1 H1 μ1 f1 R1 rp h1 => by
    cases hk : truPV p with
    | some k =>
      rw [hk] at h1
      refine ⟨k, rp.tru hK hk, ?_⟩
      cases k with
      | true => exact iteT (h1.now R1 rp)
      | false => exact iteF ⟨μ1, O, env, S1, R1, h1⟩
    | none => rw [hk] at h1; exact h1.elim
theorem pf_not (hK : G.K = X.K) (ha : PF G X W true e1 ra) : PF G X W b (.UnaryOp .Not e1 pos) (rNotV ra) :=
  pe_imp (pe_notT ha) fun σ H Q ⟨μ, O, env, S, R, h⟩ => bindE R h fun p v S1 H1 μ1 f1 R1 rp h1 => by
    cases hk : truPV p with
    | some k =>
      rw [hk] at h1
      exact ⟨k, rp.tru hK hk, h1.now R1 (.kept (.bl _))⟩
    | none => rw [hk] at h1; exact h1.elim
def rIfE (c : RT) (ra rb : RE) : RE := fun env => M.bind (c env) fun k => if k then ra env else rb env
theorem pf_if (hc : PFT G X W e3 ta) (ha : PF G X W b e1 ra) (hb : PF G X W b e2 rb) : PF G X W b (.IfExp e3 e1 e2 pos) (rIfE ta ra rb) :=
  pe_imp (pe_ifExp hc ha hb) fun σ H Q ⟨μ, O, env, S, R, h⟩ => bindT R h fun c S1 H1 μ1 f1 R1 h1 => by
    cases c with
    | true => exact iteT ⟨μ1, O, env, S1, R1, h1⟩
    | false => exact iteF ⟨μ1, O, env, S1, R1, h1⟩
end
end Fx

/-! FxD: subscripts, slices, built-ins, dicts. -/
namespace Fx
open PySem PySem.Spec PyProof.Rows L2

section
variable {G : Cfg} {X : Cx} {W : WX} {b : Bool} {e1 e2 : Expr} {ra rb : RE} {pos : Pos}

/-! ### sequences -/
inductive SqK where
  | t | l | z
def seqPV : PV → Option (SqK × List PV)
  | .tup xs => some (.t, xs)
  | .lst xs => some (.l, xs)
  | .scr ns => some (.z, ns.map PV.int)
  | _ => none
/-- a sequence that may be read -/
theorem RpB.seq {O : Ow} {H : Hp} {μ : List Addr} {v : V} {p : PV} {k : SqK} {ps : List PV} (h : RpB G μ H O b v p) (e : seqPV p = some (k, ps)) :
    ∃ a xs, v = .ref a ∧ (SqL G.K H a xs ∨ SqT G.K H a xs) ∧ RpL G μ (view H (μ ++ Ow.ad O)) xs ps := by
  unfold seqPV at e
  split at e
  · cases e
    obtain ⟨a, xs, rfl, h1, l⟩ := h.tup
    exact ⟨a, xs, rfl, .inr h1, l⟩
  · cases e
    obtain ⟨a, xs, rfl, h1, l⟩ := h.lst
    exact ⟨a, xs, rfl, .inl (SqL.of h1), l⟩
  · cases e
    obtain ⟨a, rfl, h1⟩ := h.scr
    exact ⟨a, _, rfl, .inl h1, rpl_ints _ _⟩
  · cases e
theorem RpL.at {μ : List Addr} {H : Hp} {vs : List V} {ps : List PV} {i : Int} {p : PV} (h : RpL G μ H vs ps) (e : atI ps i = some p) : ∃ v, atI vs i = some v ∧ Rp G μ H v p := by
  unfold atI at e ⊢
  rw [h.length]
  cases q : ixN ps.length i with
  | none => rw [q] at e; cases e
  | some j =>
    rw [q] at e
    exact h.get e
def opIx : PV → PV → M PV := fun p q => match p, q with
  | .str z, .int i => match (if z.length ≤ sizeLine then atI z.cps.toList i else none) with
    | some c => M.ret (.str ⟨#[c]⟩)
    | none => M.stuck
  | p, .int i => match seqPV p with
    | some (_, ps) => match atI ps i with
      | some x => M.ret x
      | none => M.stuck
    | none => M.stuck
  | _, _ => M.stuck
def rIx (ra rb : RE) : RE := rOp opIx ra rb
theorem ix_case {p q : PV} : (∃ z i, p = .str z ∧ q = .int i) ∨ ((∀ z, p ≠ .str z) ∧ ∃ i, q = .int i) ∨ (∀ i, q ≠ .int i) := by
  cases q with
  | int i =>
    cases p with
    | str z => exact .inl ⟨z, i, rfl, rfl⟩
    | _ => exact .inr (.inl ⟨fun z h => (by cases h), i, rfl⟩)
  | _ => exact .inr (.inr fun i h => (by cases h))
theorem opIx_seq {p : PV} {i : Int} (h : ∀ z, p ≠ .str z) : opIx p (.int i) = match seqPV p with
    | some (_, ps) => match atI ps i with
      | some x => M.ret x
      | none => M.stuck
    | none => M.stuck := by
  cases p <;> first | rfl | exact absurd rfl (h _)
theorem opIx_no {p q : PV} (h : ∀ i, q ≠ .int i) : opIx p q = M.stuck := by
  cases q <;> first | exact absurd rfl (h _) | (cases p <;> rfl)
theorem pf_ix (hK : G.K = X.K) (ha : PF G X W true e1 ra) (hb : PF G X W true e2 rb) (hs : PlainIx e2 := by exact fun _ _ => rfl) : PF G X W b (.Subscript e1 e2 pos) (rIx ra rb) :=
  pe_imp (pe_ix ix_seq ha hb hs) fun σ H Q ⟨μ, O, env, S, R, h⟩ => by
    refine bindE R h fun p v S1 H1 μ1 f1 R1 rp h1 => bindE R1 h1 fun q u S2 H2 μ2 f2 R2 rq h2 => ?_
    have rp2 := rp.fr f2 fun a ha => (R1.sto.hid a ha).1
    rcases ix_case (p := p) (q := q) with ⟨z, i, rfl, rfl⟩ | ⟨hz, i, rfl⟩ | hn
    · refine .inr (.inr ?_)
      have h2 : Post G W σ O H2 μ2 (relV G O b) ((match (if z.length ≤ sizeLine then atI z.cps.toList i else none) with
        | some c => M.ret (.str ⟨#[c]⟩)
        | none => M.stuck : M PV) S2) Q := h2
      by_cases hl : z.length ≤ sizeLine
      · rw [if_pos hl] at h2
        cases hc : atI z.cps.toList i with
        | some c =>
          rw [hc] at h2
          exact ⟨z, i, c, rp2.str, rq.int, hl, hc, h2.now R2 (.kept (.str _))⟩
        | none => rw [hc] at h2; exact h2.elim
      · rw [if_neg hl] at h2
        exact h2.elim
    · rw [opIx_seq hz] at h2
      cases e : seqPV p with
      | none => rw [e] at h2; exact h2.elim
      | some kp =>
        obtain ⟨k, ps⟩ := kp
        rw [e] at h2
        dsimp only at h2
        cases e' : atI ps i with
        | none => rw [e'] at h2; exact h2.elim
        | some x =>
          rw [e'] at h2
          obtain ⟨a, xs, rfl, hsq, l⟩ := rp2.seq e
          obtain ⟨y, hy, ry⟩ := l.at e'
          rw [hK] at hsq
          rcases hsq with hsq | hsq
          · exact .inl ⟨a, xs, i, y, rfl, rq.int, hsq, hy, h2.now R2 (.kept ry)⟩
          · exact .inr (.inl ⟨a, xs, i, y, rfl, rq.int, hsq, hy, h2.now R2 (.kept ry)⟩)
    · rw [opIx_no hn] at h2
      exact h2.elim

/-! ### slices -/
abbrev RO := En → M (Option Int)
def roNone : RO := fun _ => M.ret none
def roSome (r : RE) : RO := fun env => M.bind (r env) fun p => match p with
  | .int i => M.ret (some i)
  | _ => M.stuck
def rdO (G : Cfg) (W : WX) (r : RO) : TO := fun σ H Q => ∃ μ O env S, Rel G H μ O σ env S ∧ Post G W σ O H μ relE (r env S) Q
def PFO (G : Cfg) (X : Cx) (W : WX) (e : Option Expr) (r : RO) : Prop := PO X e (rdO G W r)
theorem po_imp {e : Option Expr} {t t' : TO} (h : PO X e t) (k : ∀ σ H Q, t' σ H Q → t σ H Q) : PO X e t' := ⟨fun pins s σ H Q I q => h.run pins s σ H Q I (k _ _ _ q)⟩
theorem pfo_none : PFO G X W none roNone := po_imp po_none fun σ H Q ⟨μ, O, env, S, R, h⟩ => h.now R rfl
theorem pfo_some (h : PF G X W true e1 ra) : PFO G X W (some e1) (roSome ra) := po_imp (po_some h) fun σ H Q ⟨μ, O, env, S, R, h⟩ => bindE R h fun p v S1 H1 μ1 f1 R1 rp h1 => by
  split at h1
  · rename_i i
    exact ⟨i, rp.int, h1.now R1 rfl⟩
  · exact h1.elim
theorem bindO {α β : Type} {σ : L2.St} {O : Ow} {H : Hp} {μ : List Addr} {env : En} {S : Store} {rel : List Addr → Hp → β → α → Prop} {ro : RO} {f : Option Int → M α} {Q : β → Hp → Prop} {P : Option Int → Hp → Prop} (R : Rel G H μ O σ env S)
    (h : Post G W σ O H μ rel (M.bind (ro env) f S) Q)
    (k : ∀ p S1 H1 μ1, Fr H μ H1 μ1 → Rel G H1 μ1 O σ env S1 → Post G W σ O H1 μ1 rel (f p S1) Q → P p H1) : rdO G W ro σ H P := by
  refine ⟨μ, O, env, S, R, ?_⟩
  unfold M.bind at h
  cases e : ro env S with
  | ok p S1 =>
    rw [e] at h
    exact fun v H1 μ1 fr st rp => by
      have rp : v = p := rp
      subst rp
      exact k _ S1 H1 μ1 fr (R.step fr st) (h.from fr)
  | exc c ns ps S1 => rw [e] at h; exact h
  | stuck => rw [e] at h; exact h
def cutP (xs : List PV) (lo hi : Option Int) : List PV := (xs.drop (HT.sIx xs.length 0 lo)).take (HT.sIx xs.length xs.length hi - HT.sIx xs.length 0 lo)
def opCut (p : PV) (lo hi : Option Int) : M PV := match p with
  | .tup xs => M.ret (.tup (cutP xs lo hi))
  | .lst xs => M.ret (.lst (cutP xs lo hi))
  | .str z => if z.length ≤ sizeLine then M.ret (.str (cutS z lo hi)) else M.stuck
  | _ => M.stuck
def rCut (ra : RE) (lo hi : RO) : RE := fun env => M.bind (ra env) fun p => M.bind (lo env) fun l => M.bind (hi env) fun h => opCut p l h
theorem RpL.cut {μ : List Addr} {H : Hp} {vs : List V} {ps : List PV} (h : RpL G μ H vs ps) (lo hi : Option Int) : RpL G μ H (cutV vs lo hi) (cutP ps lo hi) := by
  unfold cutV cutP
  rw [h.length]
  exact (h.drop _).take _
theorem cut_whole {α : Type} (xs : List α) {i j : Nat} (h : i = 0 ∧ j = xs.length) : (xs.drop i).take (j - i) = xs := by
  obtain ⟨rfl, rfl⟩ := h
  simp
theorem pf_cut {lo hi : Option Expr} {rl rh : RO} {p2 : Pos} (hK : G.K = X.K) (ha : PF G X W true e1 ra) (hl : PFO G X W lo rl) (hh : PFO G X W hi rh) : PF G X W b (.Subscript e1 (.Slice lo hi none p2) pos) (rCut ra rl rh) :=
  pe_imp (pe_slice ((sl_tupA (X := X)).or (sl_list.or sl_str)) ha hl hh) fun σ H Q ⟨μ, O, env, S, R, h⟩ =>
    bindE R h fun p v S1 H1 μ1 f1 R1 rp h1 => bindO R1 h1 fun l S2 H2 μ2 f2 R2 h2 => bindO R2 h2 fun u S3 H3 μ3 f3 R3 h3 => by
      have rp3 := (rp.fr f2 fun a ha => (R1.sto.hid a ha).1).fr f3 fun a ha => (R2.sto.hid a ha).1
      unfold opCut at h3
      split at h3
      · rename_i ps
        cases rp3 with
        | kept k =>
          cases k with
          | @tup a xs _ hsq l' =>
            have hq : SqT X.K H3 a xs := by rw [← hK]; exact same_sqT (view_sub _ _) hsq
            refine .inl ⟨a, xs, rfl, hq, fun hw => ?_, fun hw p hp => ?_⟩
            · refine h3.now R3 (.kept ?_)
              have e : cutP ps l u = ps := by
                unfold cutP
                rw [← l'.length]
                exact cut_whole ps ⟨hw.1, by rw [hw.2, l'.length]⟩
              rw [e]
              exact .tup hsq l'
            · exact h3.new R3 hp fun f => .kept (.tup (.inl (.inl (new_view R3 hp rfl))) (RpL.mono f.view f.pre _ _ (l'.cut l u)))
      · rename_i ps
        obtain ⟨a, xs, rfl, ha, la⟩ := rp3.lst
        exact .inr (.inl ⟨a, xs, rfl, SqL.of ha, fun p hp => h3.new R3 hp fun f => .kept (.lst (new_view R3 hp rfl) (RpL.mono f.view f.pre _ _ (la.cut l u)))⟩)
      · rename_i z
        split at h3
        · rename_i hz
          exact .inr (.inr ⟨z, rp3.str, hz, h3.now R3 (.kept (.str _))⟩)
        · exact h3.elim
      · exact h3.elim

/-! ### calls of built-ins: one argument -/
/-- a built-in's call on plain values -/
structure Blt (G : Cfg) (X : Cx) (f : Value) (op : List PV → M PV) : Prop where
  ex : ∃ r : List V → Hp → VK → Prop, CallR X f r ∧ ∀ (W : WX) (σ : L2.St) (O : Ow) (H : Hp) (μ : List Addr) (env : En) (S : Store) (xs : List V) (ps : List PV) (Q : VK), Rel G H μ O σ env S → RpL G μ (view H (μ ++ Ow.ad O)) xs ps → Post G W σ O H μ (relV G O false) (op ps S) Q → r xs H Q
def rBlt (op : List PV → M PV) (rs : RA) : RE := fun env => M.bind (rs env) op
theorem keep_post {O : Ow} {H : Hp} {μ : List Addr} {σ : L2.St} {o : Out PV} {Q : VK} (h : Post G W σ O H μ (relV G O b) o Q) : Post G W σ O H μ (relV G O false) o Q := by
  cases o with
  | ok a S3 =>
    exact fun v' H' μ' f' s' r' => h v' H' μ' f' s' (by
      have r' : RpB G μ' H' O false v' a := r'
      exact .kept r'.keep)
  | exc c ns ps S3 => exact h
  | stuck => exact h
variable {es : List Expr} {rs : RA} {x : Str} {id T : String} {p0 : Pos} {op : List PV → M PV}
theorem pf_blt (hB : Blt G X (.builtin id) op) (hg : Gl X x) (hm : X.mg x = none) (hv : bootBuiltins x = some (.builtin id)) (ha : PFA G X W (e1 :: es) rs) (hn : x ≠ "__name__" := by decide) (hdb : (x == ("__debug__" : Str)) = false := by decide)
    (he : starEach (e1 :: es) X.env = (false, eval e1 X.env) :: starEach es X.env := by rfl) (hpl : (backTo pos (starEach es X.env)).any (·.1) = false := by rfl) : PF G X W b (.Call (.Name x p0) (e1 :: es) [] pos) (rBlt op rs) := by
  obtain ⟨r, hr, hp⟩ := hB.ex
  exact pe_imp (pe_callB hr hg hm hv ha hn hdb he hpl) fun σ H Q ⟨μ, O, env, S, R, h⟩ => bindA R h fun ps xs S1 H1 μ1 f1 R1 rp h1 => hp W σ O H1 μ1 env S1 xs ps Q R1 rp (keep_post h1)
theorem pf_blty (hB : Blt G X (.type T) op) (hg : Gl X x) (hm : X.mg x = none) (hv : bootBuiltins x = some (.type T)) (ha : PFA G X W (e1 :: es) rs) (hn : x ≠ "__name__" := by decide) (hdb : (x == ("__debug__" : Str)) = false := by decide)
    (he : starEach (e1 :: es) X.env = (false, eval e1 X.env) :: starEach es X.env := by rfl) (hpl : (backTo pos (starEach es X.env)).any (·.1) = false := by rfl) : PF G X W b (.Call (.Name x p0) (e1 :: es) [] pos) (rBlt op rs) := by
  obtain ⟨r, hr, hp⟩ := hB.ex
  exact pe_imp (pe_callTy hr hg hm hv ha hn hdb he hpl) fun σ H Q ⟨μ, O, env, S, R, h⟩ => bindA R h fun ps xs S1 H1 μ1 f1 R1 rp h1 => hp W σ O H1 μ1 env S1 xs ps Q R1 rp (keep_post h1)
/-- a built-in function under a module's name (from math import gcd) -/
theorem pf_bfun (hB : Blt G X (.builtin id) op) (hg : Gl X x) (hm : X.mg x = some (.builtin id)) (ha : PFA G X W (e1 :: es) rs) (hdb : (x == ("__debug__" : Str)) = false := by decide)
    (he : starEach (e1 :: es) X.env = (false, eval e1 X.env) :: starEach es X.env := by rfl) (hpl : (backTo pos (starEach es X.env)).any (·.1) = false := by rfl) : PF G X W b (.Call (.Name x p0) (e1 :: es) [] pos) (rBlt op rs) := by
  obtain ⟨r, hr, hp⟩ := hB.ex
  exact pe_imp (pe_callBfun hr hg hm ha hdb he hpl) fun σ H Q ⟨μ, O, env, S, R, h⟩ => bindA R h fun ps xs S1 H1 μ1 f1 R1 rp h1 => hp W σ O H1 μ1 env S1 xs ps Q R1 rp (keep_post h1)

theorem RpL.one {μ : List Addr} {H : Hp} {xs : List V} {p : PV} (h : RpL G μ H xs [p]) : ∃ v, xs = [v] ∧ Rp G μ H v p := by
  cases h with
  | cons a l => cases l; exact ⟨_, rfl, a⟩
theorem RpL.two {μ : List Addr} {H : Hp} {xs : List V} {p q : PV} (h : RpL G μ H xs [p, q]) : ∃ v u, xs = [v, u] ∧ Rp G μ H v p ∧ Rp G μ H u q := by
  cases h with
  | cons a l =>
    obtain ⟨u, rfl, ru⟩ := l.one
    exact ⟨_, _, rfl, a, ru⟩
theorem Rp.isInt {μ : List Addr} {H : Hp} {v : V} {i : Int} (h : Rp G μ H v (.int i)) : v = .int i := by cases h; rfl
/-- len of a kept value; of a lent one: pf_len -/
def opLen (p : PV) : M PV := match seqPV p with
  | some (_, xs) => M.ret (.int xs.length)
  | none => match p with
    | .str z => if z.length ≤ sizeLine then M.ret (.int z.length) else M.stuck
    | _ => M.stuck
def rLen (ra : RE) : RE := fun env => M.bind (ra env) opLen
theorem pa_one {te : TE} (he : PE X e1 te) (hs : starEach (e1 :: []) X.env = (false, eval e1 X.env) :: starEach [] X.env) : PA X [e1] (fun σ H Q => te σ H fun v H1 => Q [v] H1) := pa_cons he pa_nil hs
theorem pf_len (hK : G.K = X.K) (hg : Gl X "len") (hm : X.mg "len" = none) (ha : PF G X W true e1 ra)
    (he : starEach (e1 :: []) X.env = (false, eval e1 X.env) :: starEach [] X.env := by rfl) (hpl : (backTo pos (starEach [] X.env)).any (·.1) = false := by rfl) : PF G X W b (.Call (.Name "len" p0) [e1] [] pos) (rLen ra) :=
  pe_imp (pe_callB call_len hg hm PySem.boot_len (pa_one ha he) (by decide) (by decide) he hpl) fun σ H Q ⟨μ, O, env, S, R, h⟩ => bindE R h fun p v S1 H1 μ1 f1 R1 rp h1 => by
    unfold opLen at h1
    cases e : seqPV p with
    | some kp =>
      obtain ⟨k, ps⟩ := kp
      rw [e] at h1
      obtain ⟨a, xs, rfl, hsq, l⟩ := rp.seq e
      rw [hK] at hsq
      have el := l.length
      refine ⟨_, ps.length, rfl, ?_, h1.now R1 (.kept (.int _))⟩
      rcases hsq with hsq | hsq
      · exact .inl ⟨xs, hsq, el.symm⟩
      · exact .inr ⟨xs, hsq, el.symm⟩
    | none =>
      rw [e] at h1
      dsimp only at h1
      split at h1
      · rename_i z
        split at h1
        · rename_i hz
          exact ⟨_, z.length, rfl, (by rw [rp.str]; exact ⟨hz, rfl⟩), h1.now R1 (.kept (.int _))⟩
        · exact h1.elim
      · exact h1.elim
def bInt : List PV → M PV
  | [.int i] => M.ret (.int i)
  | _ => M.stuck
theorem blt_int : Blt G X (.type "int") bInt := ⟨_, call_int1, fun W σ O H μ env S xs ps Q R rp h => by
  unfold bInt at h
  split at h
  · rename_i i
    obtain ⟨v, rfl, rv⟩ := rp.one
    exact .inl ⟨i, by rw [rv.isInt], h.now R (.kept (.int _))⟩
  · exact h.elim⟩
def bAbs : List PV → M PV
  | [.int i] => M.ret (.int (if i < 0 then -i else i))
  | _ => M.stuck
theorem blt_abs : Blt G X (.builtin "abs") bAbs := ⟨_, call_abs, fun W σ O H μ env S xs ps Q R rp h => by
  unfold bAbs at h
  split at h
  · rename_i i
    obtain ⟨v, rfl, rv⟩ := rp.one
    exact ⟨i, by rw [rv.isInt], h.now R (.kept (.int _))⟩
  · exact h.elim⟩
def bGcd : List PV → M PV
  | [.int i, .int j] => M.ret (.int ((Nat.gcd i.natAbs j.natAbs : Nat) : Int))
  | _ => M.stuck
theorem blt_gcd : Blt G X (.builtin "math.gcd") bGcd := ⟨_, cr_gcd, fun W σ O H μ env S xs ps Q R rp h => by
  unfold bGcd at h
  split at h
  · rename_i i j
    obtain ⟨v, u, rfl, rv, ru⟩ := rp.two
    exact ⟨i, j, by rw [rv.isInt, ru.isInt], h.now R (.kept (.int _))⟩
  · exact h.elim⟩
def bMax : List PV → M PV
  | [.int i, .int j] => M.ret (.int (if j > i then j else i))
  | _ => M.stuck
def bMin : List PV → M PV
  | [.int i, .int j] => M.ret (.int (if j < i then j else i))
  | _ => M.stuck
theorem blt_max (hc : X.calm = true) : Blt G X (.builtin "max") bMax := ⟨_, call_max2 hc, fun W σ O H μ env S xs ps Q R rp h => by
  unfold bMax at h
  split at h
  · rename_i i j
    obtain ⟨v, u, rfl, rv, ru⟩ := rp.two
    exact ⟨i, j, by rw [rv.isInt, ru.isInt], h.now R (.kept (.int _))⟩
  · exact h.elim⟩
theorem blt_min (hc : X.calm = true) : Blt G X (.builtin "min") bMin := ⟨_, call_min2 hc, fun W σ O H μ env S xs ps Q R rp h => by
  unfold bMin at h
  split at h
  · rename_i i j
    obtain ⟨v, u, rfl, rv, ru⟩ := rp.two
    exact ⟨i, j, by rw [rv.isInt, ru.isInt], h.now R (.kept (.int _))⟩
  · exact h.elim⟩
/-! list(x), tuple(x): of anything that is a sequence, lent too -/
def opList (p : PV) : M PV := match seqPV p with
  | some (_, xs) => M.ret (.lst xs)
  | none => M.stuck
def opTuple (p : PV) : M PV := match p with
  | .tup xs => M.ret (.tup xs)
  | .lst xs => M.ret (.tup xs)
  | _ => M.stuck
def rList (ra : RE) : RE := fun env => M.bind (ra env) opList
def rTuple (ra : RE) : RE := fun env => M.bind (ra env) opTuple
theorem pf_list (hK : G.K = X.K) (hg : Gl X "list") (hm : X.mg "list" = none) (ha : PF G X W true e1 ra)
    (he : starEach (e1 :: []) X.env = (false, eval e1 X.env) :: starEach [] X.env := by rfl) (hpl : (backTo pos (starEach [] X.env)).any (·.1) = false := by rfl) : PF G X W b (.Call (.Name "list" p0) [e1] [] pos) (rList ra) :=
  pe_imp (pe_callTy call_list_of hg hm (by decide +kernel) (pa_one ha he) (by decide) (by decide) he hpl) fun σ H Q ⟨μ, O, env, S, R, h⟩ => bindE R h fun p v S1 H1 μ1 f1 R1 rp h1 => by
    unfold opList at h1
    cases e : seqPV p with
    | some kp =>
      obtain ⟨k, ps⟩ := kp
      rw [e] at h1
      obtain ⟨a, xs, rfl, hsq, l⟩ := rp.seq e
      rw [hK] at hsq
      exact ⟨a, xs, rfl, hsq, fun p hp => h1.new R1 hp fun f => .kept (.lst (new_view R1 hp rfl) (RpL.mono f.view f.pre _ _ l))⟩
    | none => rw [e] at h1; exact h1.elim
theorem pf_tuple (hK : G.K = X.K) (hg : Gl X "tuple") (hm : X.mg "tuple" = none) (ha : PF G X W true e1 ra)
    (he : starEach (e1 :: []) X.env = (false, eval e1 X.env) :: starEach [] X.env := by rfl) (hpl : (backTo pos (starEach [] X.env)).any (·.1) = false := by rfl) : PF G X W b (.Call (.Name "tuple" p0) [e1] [] pos) (rTuple ra) :=
  pe_imp (pe_callTy call_tuple_of hg hm (by decide +kernel) (pa_one ha he) (by decide) (by decide) he hpl) fun σ H Q ⟨μ, O, env, S, R, h⟩ => bindE R h fun p v S1 H1 μ1 f1 R1 rp h1 => by
    unfold opTuple at h1
    split at h1
    · rename_i ps
      cases rp with
      | kept k =>
        cases k with
        | @tup a xs _ hsq l' => exact ⟨a, xs, rfl, .inr ⟨by rw [← hK]; exact same_sqT (view_sub _ _) hsq, h1.now R1 (.kept (.tup hsq l'))⟩⟩
    · rename_i ps
      obtain ⟨a, xs, rfl, hsq, l⟩ := rp.lst
      exact ⟨a, xs, rfl, .inl ⟨SqL.of hsq, fun p hp => h1.new R1 hp fun f => .kept (.tup (.inl (.inl (new_view R1 hp rfl))) (RpL.mono f.view f.pre _ _ l))⟩⟩
    · exact h1.elim

/-! ### in -/
def intsOf : List PV → Option (List Int)
  | [] => some []
  | .int i :: r => (intsOf r).map (i :: ·)
  | _ :: _ => none
def strsOf : List PV → Option (List Str)
  | [] => some []
  | .str i :: r => (strsOf r).map (i :: ·)
  | _ :: _ => none
theorem ints_of {μ : List Addr} {H : Hp} : ∀ {ps : List PV} {ns : List Int} {xs : List V}, intsOf ps = some ns → RpL G μ H xs ps → xs = ns.map V.int
  | [], ns, xs, e, h => by cases e; cases h; rfl
  | p :: r, ns, xs, e, h => by
    cases h with
    | @cons v vs _ _ h l =>
      cases p with
      | int i =>
        obtain ⟨ms, e1, e2⟩ := Option.map_eq_some_iff.mp e
        subst e2
        rw [h.isInt, ints_of e1 l]
        rfl
      | _ => cases e
theorem strs_of {μ : List Addr} {H : Hp} : ∀ {ps : List PV} {ns : List Str} {xs : List V}, strsOf ps = some ns → RpL G μ H xs ps → xs = ns.map V.str
  | [], ns, xs, e, h => by cases e; cases h; rfl
  | p :: r, ns, xs, e, h => by
    cases h with
    | @cons v vs _ _ h l =>
      cases p with
      | str i =>
        obtain ⟨ms, e1, e2⟩ := Option.map_eq_some_iff.mp e
        subst e2
        cases h
        rw [strs_of e1 l]
        rfl
      | _ => cases e
theorem in_ints (i : Int) : ∀ ns : List Int, inV (.int i) (ns.map V.int) = decide (i ∈ ns)
  | [] => by simp [inV]
  | n :: ns => by
    have ih := in_ints i ns
    unfold inV at ih ⊢
    rw [List.map_cons, List.any_cons, ih]
    show ((n == i) || _) = _
    by_cases h : n = i
    · simp [h]
    · have h2 : ¬ i = n := fun z => h z.symm
      simp [h, h2]
theorem in_strs (i : Str) : ∀ ns : List Str, inV (.str i) (ns.map V.str) = decide (i ∈ ns)
  | [] => by simp [inV]
  | n :: ns => by
    have ih := in_strs i ns
    unfold inV at ih ⊢
    rw [List.map_cons, List.any_cons, ih]
    show ((n == i) || _) = _
    by_cases h : n = i
    · simp [h]
    · have h2 : ¬ i = n := fun z => h z.symm
      simp [h, h2]
theorem flat_ints : ∀ ns : List Int, (ns.map V.int).all flatV = true
  | [] => rfl
  | n :: ns => by rw [List.map_cons, List.all_cons, flat_ints ns]; rfl
theorem flat_strs : ∀ ns : List Str, (ns.map V.str).all flatV = true
  | [] => rfl
  | n :: ns => by rw [List.map_cons, List.all_cons, flat_strs ns]; rfl
def opIn (neg : Bool) (p q : PV) : M PV := match seqPV q with
  | some (_, ps) => match p with
    | .int i => match intsOf ps with
      | some ns => M.ret (.bl (if neg then !decide (i ∈ ns) else decide (i ∈ ns)))
      | none => M.stuck
    | .str i => match strsOf ps with
      | some ns => M.ret (.bl (if neg then !decide (i ∈ ns) else decide (i ∈ ns)))
      | none => M.stuck
    | _ => M.stuck
  | none => M.stuck
theorem in_run {neg : Bool} (hK : G.K = X.K) {σ : L2.St} {O : Ow} {H : Hp} {μ : List Addr} {env : En} {S : Store} {x y : V} {p q : PV} {Q : VK} (R : Rel G H μ O σ env S) (hp : RpB G μ H O true x p) (hq : RpB G μ H O true y q) (h : Post G W σ O H μ (relV G O false) (opIn neg p q S) Q) : rIn X.K neg x y H Q := by
  unfold opIn at h
  cases e : seqPV q with
  | none => rw [e] at h; exact h.elim
  | some kp =>
    obtain ⟨k, ps⟩ := kp
    rw [e] at h
    obtain ⟨a, xs, rfl, hsq, l⟩ := hq.seq e
    rw [hK] at hsq
    dsimp only at h
    split at h
    · rename_i i
      cases e2 : intsOf ps with
      | none => rw [e2] at h; exact h.elim
      | some ns =>
        rw [e2] at h
        have ex := ints_of e2 l
        subst ex
        refine ⟨a, _, rfl, hsq, by rw [hp.int]; rfl, flat_ints ns, ?_⟩
        rw [hp.int, in_ints]
        exact h.now R (.kept (.bl _))
    · rename_i i
      cases e2 : strsOf ps with
      | none => rw [e2] at h; exact h.elim
      | some ns =>
        rw [e2] at h
        have ex := strs_of e2 l
        subst ex
        refine ⟨a, _, rfl, hsq, by rw [hp.str]; rfl, flat_strs ns, ?_⟩
        rw [hp.str, in_strs]
        exact h.now R (.kept (.bl _))
    · exact h.elim
theorem od_in (hK : G.K = X.K) : Opd G X (compareOp .In) (opIn false) := ⟨_, op_in_seq, fun W σ O H μ env S x y p q Q R hp hq h => in_run hK R hp hq h⟩
theorem od_notin (hK : G.K = X.K) : Opd G X (compareOp .NotIn) (opIn true) := ⟨_, op_notIn_seq, fun W σ O H μ env S x y p q Q R hp hq h => in_run hK R hp hq h⟩

/-! ### isinstance with built-in classes -/
def isT : String → PV → Option Bool
  | "int", p => match p with
    | .int _ => some true | .bl _ => some true | .non => some false | .str _ => some false | .tup _ => some false | .lst _ => some false | .scr _ => some false | .dct _ _ => some false | _ => none
  | "bool", p => match p with
    | .bl _ => some true | .int _ => some false | .non => some false | .str _ => some false | .tup _ => some false | .lst _ => some false | .scr _ => some false | .dct _ _ => some false | _ => none
  | "str", p => match p with
    | .str _ => some true | .int _ => some false | .bl _ => some false | .non => some false | .tup _ => some false | .lst _ => some false | .scr _ => some false | .dct _ _ => some false | _ => none
  | "tuple", p => match p with
    | .tup _ => some true | .int _ => some false | .bl _ => some false | .non => some false | .str _ => some false | .lst _ => some false | .scr _ => some false | .dct _ _ => some false | _ => none
  | "list", p => match p with
    | .lst _ => some true | .scr _ => some true | .int _ => some false | .bl _ => some false | .non => some false | .str _ => some false | .tup _ => some false | .dct _ _ => some false | _ => none
  | "dict", p => match p with
    | .dct _ _ => some true | .lst _ => some false | .scr _ => some false | .int _ => some false | .bl _ => some false | .non => some false | .str _ => some false | .tup _ => some false | _ => none
  | _, _ => none
def tyN : PV → String
  | .non => "NoneType" | .bl _ => "bool" | .int _ => "int" | .str _ => "str" | .tup _ => "tuple" | .lst _ => "list" | .scr _ => "list" | .dct _ _ => "dict" | _ => ""
def tyTab : List (String × String × Bool) := ["NoneType", "bool", "int", "str", "tuple", "list", "dict"].flatMap fun t => ["int", "bool", "str", "tuple", "list", "dict"].map fun T => (t, T, t == T || (t == "bool" && T == "int"))
theorem tyTab_ok : (tyTab.all fun x => kitB x.1 x.2.1 == some x.2.2) = true := by decide +kernel
theorem tab_at {t T : String} {r : Bool} (h : (t, T, r) ∈ tyTab) : kitB t T = some r := by
  have := List.all_eq_true.mp tyTab_ok _ h
  simpa using this
theorem isT_kit {T : String} {p : PV} {r : Bool} (h : isT T p = some r) : kitB (tyN p) T = some r ∧ tyN p ≠ "" := by
  unfold isT at h
  split at h <;> first | (cases p <;> first | (cases h; dsimp only [tyN]; exact ⟨tab_at (by decide +kernel), by decide +kernel⟩) | cases h) | cases h
theorem RpB.tyX (hK : G.K = X.K) {O : Ow} {H : Hp} {μ : List Addr} {v : V} {p : PV} (h : RpB G μ H O b v p) (hn : tyN p ≠ "") : TyX X.K H v (.type (tyN p)) := by
  rw [← hK]
  cases h with
  | kept h =>
    cases h with
    | non => exact .base .non
    | bl b => exact .base (.bl b)
    | int i => exact .base (.int i)
    | str x => exact .base (.str x)
    | tup k l =>
      rcases (same_sqT (view_sub _ _) k) with (k | ⟨o, k⟩) | ⟨o, its, n, k, c, _⟩
      · exact .base (.tup k)
      · exact .fTuple k
      · exact .kTuple k c
    | lst k l => exact .base (.lst (view_sub _ _ _ _ k))
    | scr k =>
      rcases (view_sub _ _).seq k with (k | ⟨o, k⟩) | ⟨o, its, n, k, c, _⟩
      · exact .base (.lst k)
      · exact .base (.frz k)
      · exact .kList k c
    | dct k z l => exact .base (.dK (view_sub _ _ _ _ k))
    | ins => exact absurd rfl hn
    | ref => exact absurd rfl hn
    | fn => exact absurd rfl hn
  | lent _ k l => exact .base (.lst k)
def rIsi (T : String) (ra : RE) : RE := fun env => M.bind (ra env) fun p => match isT T p with
  | some r => M.ret (.bl r)
  | none => M.stuck
def rIsi2 (T U : String) (ra : RE) : RE := fun env => M.bind (ra env) fun p => match isT T p, isT U p with
  | some r, some u => M.ret (.bl (r || u))
  | _, _ => M.stuck
theorem pf_isi {T : String} {y : Str} {p1 p2 : Pos} (hK : G.K = X.K) (hg : Gl X "isinstance") (hm : X.mg "isinstance" = none) (hg2 : Gl X y) (hm2 : X.mg y = none) (hv : bootBuiltins y = some (.type T)) (ha : PF G X W true e1 ra)
    (he : starEach [e1, .Name y p1] X.env = (false, eval e1 X.env) :: starEach [.Name y p1] X.env := by rfl) (hpl : (backTo pos (starEach [.Name y p1] X.env)).any (·.1) = false := by rfl) (hn2 : y ≠ "__name__" := by decide) (hdb2 : (y == ("__debug__" : Str)) = false := by decide) :
    PF G X W b (.Call (.Name "isinstance" p2) [e1, .Name y p1] [] pos) (rIsi T ra) :=
  pe_imp (pe_callB call_isi hg hm (by decide +kernel) (pa_cons ha (pa_cons (pe_bltn (v := .ty T) hg2 hm2 hv rfl hn2 hdb2) pa_nil) he) (by decide) (by decide) he hpl) fun σ H Q ⟨μ, O, env, S, R, h⟩ => bindE R h fun p v S1 H1 μ1 f1 R1 rp h1 => by
    cases e : isT T p with
    | none => rw [e] at h1; exact h1.elim
    | some r =>
      rw [e] at h1
      obtain ⟨k1, k2⟩ := isT_kit e
      exact ⟨v, .ty T, _, _, r, rfl, .ty T, rp.tyX hK k2, kit_ty k1, h1.now R1 (.kept (.bl _))⟩
theorem pf_isi2 {T U : String} {y z : Str} {k : Nat} {p1 p2 p3 p4 : Pos} (hK : G.K = X.K) (hg : Gl X "isinstance") (hm : X.mg "isinstance" = none) (hg2 : Gl X y) (hm2 : X.mg y = none) (hv : bootBuiltins y = some (.type T)) (hg3 : Gl X z) (hm3 : X.mg z = none) (hv3 : bootBuiltins z = some (.type U)) (ha : PF G X W true e1 ra)
    (he : starEach [e1, .Tuple [.Name y p1, .Name z p3] k p4] X.env = (false, eval e1 X.env) :: starEach [.Tuple [.Name y p1, .Name z p3] k p4] X.env := by rfl) (hpl : (backTo pos (starEach [.Tuple [.Name y p1, .Name z p3] k p4] X.env)).any (·.1) = false := by rfl)
    (hn2 : y ≠ "__name__" := by decide) (hdb2 : (y == ("__debug__" : Str)) = false := by decide) (hn3 : z ≠ "__name__" := by decide) (hdb3 : (z == ("__debug__" : Str)) = false := by decide) :
    PF G X W b (.Call (.Name "isinstance" p2) [e1, .Tuple [.Name y p1, .Name z p3] k p4] [] pos) (rIsi2 T U ra) :=
  pe_imp (pe_callB call_isiT hg hm (by decide +kernel) (pa_cons ha (pa_cons (pe_tup (pa_cons (pe_bltn (v := .ty T) hg2 hm2 hv rfl hn2 hdb2) (pa_cons (pe_bltn (v := .ty U) hg3 hm3 hv3 rfl hn3 hdb3) pa_nil))) pa_nil) he) (by decide) (by decide) he hpl) fun σ H Q ⟨μ, O, env, S, R, h⟩ => bindE R h fun p v S1 H1 μ1 f1 R1 rp h1 => by
    refine ⟨by show 2 ≤ sizeLine; decide, fun t ht => ?_⟩
    cases e : isT T p with
    | none => rw [e] at h1; exact h1.elim
    | some r =>
      cases e2 : isT U p with
      | none => rw [e, e2] at h1; exact h1.elim
      | some u =>
        rw [e, e2] at h1
        obtain ⟨k1, k2⟩ := isT_kit e
        obtain ⟨k3, _⟩ := isT_kit e2
        have fr : Fr H1 μ1 (upd H1 t (.tup [.ty T, .ty U])) μ1 := Fr.laid ht
        have rp2 := rp.fr fr fun a ha => (R1.sto.hid a ha).1
        refine ⟨v, t, [.ty T, .ty U], _, [.type T, .type U], r || u, rfl, upd_same, .cons (.ty T) (.cons (.ty U) .nil), rp2.tyX hK k2, ?_, h1.new R1 ht fun _ => .kept (.bl _)⟩
        refine kitAny_cons (kit_ty k1) (fun hr => ?_) (fun hr => by rw [hr]; rfl)
        subst hr
        refine kitAny_cons (kit_ty k3) (fun hu => ?_) (fun hu => by rw [hu]; rfl)
        subst hu
        exact kitAny_nil
end
end Fx

/-! FxE: statements, defs, calls. -/
namespace Fx
open PySem PySem.Spec PyProof.Rows L2

/-- the index of owned addresses that belong to no slot (of callers, lists that are being made) -/
def dz : Nat := 1000000
/-- what a statement leaves -/
structure Sfr (H : Hp) (μ : List Addr) (O : Ow) (H' : Hp) (μ' : List Addr) (O' : Ow) : Prop where
  view : Same (view H (μ ++ Ow.ad O)) (view H' (μ' ++ Ow.ad O'))
  pre : Pre μ μ'
  dz : ∀ a, (dz, a) ∈ O → (Fx.dz, a) ∈ O' ∧ ∀ o, H a = some o → H' a = some o
  new : ∀ a, a ∈ μ' → a ∉ μ → H a = none
  own : ∀ i a, (i, a) ∈ O' → (∃ j, (j, a) ∈ O) ∨ H a = none
  there : ∀ a, H a ≠ none → H' a ≠ none
theorem Sfr.refl (H : Hp) (μ : List Addr) (O : Ow) : Sfr H μ O H μ O := ⟨Same.refl _, Pre.refl μ, fun _ h => ⟨h, fun _ e => e⟩, fun _ h n => absurd h n, fun i a h => .inl ⟨i, h⟩, fun _ h => h⟩
theorem Sfr.trans {H H1 H2 : Hp} {μ μ1 μ2 : List Addr} {O O1 O2 : Ow} (a : Sfr H μ O H1 μ1 O1) (b : Sfr H1 μ1 O1 H2 μ2 O2) : Sfr H μ O H2 μ2 O2 where
  view := a.view.trans b.view
  pre := a.pre.trans b.pre
  dz := fun x h => by
    obtain ⟨h1, k1⟩ := a.dz x h
    obtain ⟨h2, k2⟩ := b.dz x h1
    exact ⟨h2, fun o e => k2 o (k1 o e)⟩
  new := fun x h n => by
    by_cases q : x ∈ μ1
    · exact a.new x q n
    · have e := b.new x h q
      cases e2 : H x with
      | none => rfl
      | some o => exact absurd e (a.there x (by rw [e2]; simp))
  own := fun i x h => by
    rcases b.own i x h with ⟨j, q⟩ | q
    · exact a.own j x q
    · right
      cases e2 : H x with
      | none => rfl
      | some o => exact absurd q (a.there x (by rw [e2]; simp))
  there := fun x h => b.there x (a.there x h)
theorem Fr.sfr {H H' : Hp} {μ μ' : List Addr} {O : Ow} (f : Fr H μ H' μ') (hid : ∀ a ∈ Ow.ad O, a ∉ μ) (nt : ∀ a, (dz, a) ∈ O → ∀ o, H a = some o → isTbl o = false) : Sfr H μ O H' μ' O :=
  ⟨f.view, f.pre, fun a h => ⟨h, fun o e => f.keep a o e (nt a h o e) (hid a (List.mem_map_of_mem h))⟩, f.new, fun i a h => .inl ⟨i, h⟩, f.there⟩

section
variable (G : Cfg) (W : WX)
/-- what is wanted behind a statement's end -/
def PostS (H : Hp) (μ : List Addr) (O : Ow) (o : SOut) (D : Ends) : Prop := match o with
  | .nx env S => ∀ σ' H' μ' O', Sfr H μ O H' μ' O' → Rel G H' μ' O' σ' env S → D.nx σ' H'
  | .bk env S => ∀ σ' H' μ' O', Sfr H μ O H' μ' O' → Rel G H' μ' O' σ' env S → D.bk σ' H'
  | .ct env S => ∀ σ' H' μ' O', Sfr H μ O H' μ' O' → Rel G H' μ' O' σ' env S → D.ct σ' H'
  | .rt p S => ∀ v H' μ' O', Sfr H μ O H' μ' O' → StoR G μ' H' (Ow.ad O') S → Rp G μ' (view H' (μ' ++ Ow.ad O')) v p → D.rt v H'
  | .exc c ns ps env S => ∀ d σ' H' μ' O', Sfr H μ O H' μ' O' → Rel G H' μ' O' σ' env S → ExcR G μ' (view H' (μ' ++ Ow.ad O')) d ns ps → W (.ref (G.ca c)) d σ' H'
  | .stuck => False
def rdS (r : RS) : TS := fun D σ H => ∃ μ O env S, Rel G H μ O σ env S ∧ PostS G W H μ O (r env S) D
end
def PFS (G : Cfg) (X : Cx) (W : WX) (st : Stmt) (r : RS) : Prop := PS X st (rdS G W r)
def PFSs (G : Cfg) (X : Cx) (W : WX) (st : List Stmt) (r : RS) : Prop := PSs X st (rdS G W r)

section
variable {G : Cfg} {W : WX} {H H1 : Hp} {μ μ1 : List Addr} {O O1 : Ow} {σ : L2.St} {env : En} {S : Store}
theorem PostS.from {o : SOut} {D : Ends} (f : Sfr H μ O H1 μ1 O1) (h : PostS G W H μ O o D) : PostS G W H1 μ1 O1 o D := by
  cases o with
  | nx env S => exact fun σ' H' μ' O' f' r => h σ' H' μ' O' (f.trans f') r
  | bk env S => exact fun σ' H' μ' O' f' r => h σ' H' μ' O' (f.trans f') r
  | ct env S => exact fun σ' H' μ' O' f' r => h σ' H' μ' O' (f.trans f') r
  | rt p S => exact fun v H' μ' O' f' s r => h v H' μ' O' (f.trans f') s r
  | exc c ns ps env S => exact fun d σ' H' μ' O' f' r e => h d σ' H' μ' O' (f.trans f') r e
  | stuck => exact h
theorem Rel.hid (R : Rel G H μ O σ env S) : ∀ a ∈ Ow.ad O, a ∉ μ := fun a ha => (R.sto.hid a ha).1
/-- an expression, then the rest of a statement -/
def sBind {α : Type} (m : En → M α) (f : α → RS) : RS := fun env S => match m env S with
  | .ok a S' => f a env S'
  | .exc c ns vs S' => .exc c ns vs env S'
  | .stuck => .stuck
theorem sfr_of (R : Rel G H μ O σ env S) (f : Fr H μ H1 μ1) : Sfr H μ O H1 μ1 O := f.sfr R.hid fun a h o e => by
  obtain ⟨_, u, hu, t⟩ := R.sto.hid a (List.mem_map_of_mem (f := fun p : Nat × Addr => p.2) h)
  rw [e] at hu
  cases hu
  exact ld_tbl t
/-- the exception's way out of an expression -/
theorem sbind_exc {α β : Type} {rel : List Addr → Hp → β → α → Prop} {m : En → M α} {f : α → RS} {D : Ends} (R : Rel G H μ O σ env S) (h : PostS G W H μ O (sBind m f env S) D)
    {P : β → Hp → Prop} (k : ∀ p v S1 H1 μ1, Fr H μ H1 μ1 → Rel G H1 μ1 O σ env S1 → rel μ1 H1 v p → PostS G W H1 μ1 O (f p env S1) D → P v H1) : Post G W σ O H μ rel (m env S) P := by
  unfold sBind at h
  cases e : m env S with
  | ok p S1 =>
    rw [e] at h
    exact fun v H1 μ1 fr st rp => k p v S1 H1 μ1 fr (R.step fr st) rp (h.from (sfr_of R fr))
  | exc c ns ps S1 =>
    rw [e] at h
    exact fun d H' μ' fr st x => h d σ H' μ' O (sfr_of R fr) (R.step fr st) x
  | stuck =>
    rw [e] at h
    exact h
end

section
variable {G : Cfg} {X : Cx} {W : WX} {e1 e2 : Expr} {ra : RE} {pos : Pos}
/-! ### blocks, ifs, returns -/
def sNext : RS := fun env S => .nx env S
def sSeq (a b : RS) : RS := fun env S => match a env S with
  | .nx env' S' => b env' S'
  | o => o
theorem pfss_nil : PFSs G X W [] sNext := pss_imp pss_nil fun D σ H ⟨μ, O, env, S, R, h⟩ => h σ H μ O (Sfr.refl _ _ _) R
theorem pfss_cons {st : Stmt} {rest : List Stmt} {a b : RS} (h1 : PFS G X W st a) (h2 : PFSs G X W rest b) : PFSs G X W (st :: rest) (sSeq a b) :=
  pss_imp (pss_cons h1 h2) fun D σ H ⟨μ, O, env, S, R, h⟩ => ⟨μ, O, env, S, R, by
    unfold sSeq at h
    cases e : a env S with
    | nx env' S' =>
      rw [e] at h
      exact fun σ' H' μ' O' f R' => ⟨μ', O', env', S', R', h.from f⟩
    | bk env' S' => rw [e] at h; exact h
    | ct env' S' => rw [e] at h; exact h
    | rt p S' => rw [e] at h; exact h
    | exc c ns ps env' S' => rw [e] at h; exact h
    | stuck => rw [e] at h; exact h⟩
theorem pfss_one {st : Stmt} {a : RS} (h1 : PFS G X W st a) : PFSs G X W [st] a := pss_one h1
def sRet (r : RE) : RS := sBind r fun p _ S => .rt p S
def sRetN : RS := fun _ S => .rt .non S
theorem pfs_return (he : PF G X W false e1 ra) : PFS G X W (.Return (some e1) pos) (sRet ra) :=
  ps_imp (ps_ret he) fun D σ H ⟨μ, O, env, S, R, h⟩ => ⟨μ, O, env, S, R, sbind_exc R h fun p v S1 H1 μ1 f R1 rp h1 => h1 v H1 μ1 O (Sfr.refl _ _ _) R1.sto (RpB.keep rp)⟩
theorem pfs_returnN : PFS G X W (.Return none pos) sRetN :=
  ps_imp ps_retN fun D σ H ⟨μ, O, env, S, R, h⟩ => h .non H μ O (Sfr.refl _ _ _) R.sto .non
def sIf (c : RT) (a b : RS) : RS := sBind c fun k => if k then a else b
theorem pfs_if {c : Expr} {p q : List Stmt} {rc : RT} {a b : RS} (hc : PFT G X W c rc) (ha : PFSs G X W p a) (hb : PFSs G X W q b) : PFS G X W (.If c p q pos) (sIf rc a b) :=
  ps_imp (ps_if hc ha hb) fun D σ H ⟨μ, O, env, S, R, h⟩ => ⟨μ, O, env, S, R, sbind_exc R h fun k v S1 H1 μ1 f R1 rp h1 => by
    have rp : v = k := rp
    subst rp
    cases v with
    | true => exact iteT ⟨μ1, O, env, S1, R1, h1⟩
    | false => exact iteF ⟨μ1, O, env, S1, R1, h1⟩⟩
def sExpr (r : RE) : RS := sBind r fun _ => sNext
theorem pfs_expr {b : Bool} (he : PF G X W b e1 ra) (hs : swapsWith e1 none pos.line X.env = pure false := by rfl) : PFS G X W (.Expr e1 pos) (sExpr ra) :=
  ps_imp (ps_expr he hs) fun D σ H ⟨μ, O, env, S, R, h⟩ => ⟨μ, O, env, S, R, sbind_exc R h fun p v S1 H1 μ1 f R1 rp h1 => h1 σ H1 μ1 O (Sfr.refl _ _ _) R1⟩
theorem pfs_pass : PFS G X W (.Pass pos) sNext := ps_imp ps_pass fun D σ H ⟨μ, O, env, S, R, h⟩ => h σ H μ O (Sfr.refl _ _ _) R
def sBreak : RS := fun env S => .bk env S
def sCont : RS := fun env S => .ct env S
theorem pfs_break : PFS G X W (.Break pos) sBreak := ps_imp ps_break fun D σ H ⟨μ, O, env, S, R, h⟩ => h σ H μ O (Sfr.refl _ _ _) R
theorem pfs_continue : PFS G X W (.Continue pos) sCont := ps_imp ps_continue fun D σ H ⟨μ, O, env, S, R, h⟩ => h σ H μ O (Sfr.refl _ _ _) R

/-! ### stores to slots -/
/-- the owned lists less those of slot i -/
def Ow.without (O : Ow) (i : Nat) : Ow := O.filter fun p => decide (p.1 ≠ i)
theorem Ow.mem_without {O : Ow} {i j : Nat} {a : Addr} : (j, a) ∈ O.without i ↔ (j, a) ∈ O ∧ j ≠ i := by
  unfold Ow.without
  rw [List.mem_filter]
  simp
theorem Ow.ad_mem {O : Ow} {a : Addr} : a ∈ Ow.ad O ↔ ∃ j, (j, a) ∈ O := by
  unfold Ow.ad
  rw [List.mem_map]
  constructor
  · rintro ⟨⟨j, b⟩, h, rfl⟩; exact ⟨j, h⟩
  · rintro ⟨j, h⟩; exact ⟨(j, a), h, rfl⟩
theorem without_sub {O : Ow} {i : Nat} : ∀ a, a ∈ Ow.ad (O.without i) → a ∈ Ow.ad O := fun a h => by
  obtain ⟨j, q⟩ := Ow.ad_mem.mp h
  exact Ow.ad_mem.mpr ⟨j, (Ow.mem_without.mp q).1⟩
/-- slot i loses its owned list (it stands on as a kept one) -/
theorem Rel.lose {H : Hp} {μ : List Addr} {O : Ow} {σ : L2.St} {env : En} {S : Store} (R : Rel G H μ O σ env S) (i : Nat) (hi : i ≠ dz) (hs : ∀ xs, env[i]? ≠ some (.own xs)) : Rel G H μ (O.without i) σ env S ∧ Sfr H μ O H μ (O.without i) := by
  have va : Same (view H (μ ++ Ow.ad O)) (view H (μ ++ Ow.ad (O.without i))) := view_anti fun a h => by
    rcases List.mem_append.mp h with h | h
    · exact List.mem_append_left _ h
    · exact List.mem_append_right _ (without_sub a h)
  refine ⟨⟨⟨R.env.len, fun j s e => ?_, fun j k a h1 h2 => R.env.inj j k a (Ow.mem_without.mp h1).1 (Ow.mem_without.mp h2).1⟩, ⟨R.sto.len, R.sto.nd, fun j c e => ?_, fun a h => R.sto.hid a (without_sub a h), R.sto.tabs⟩⟩,
    ⟨va, Pre.refl _, fun a h => ⟨Ow.mem_without.mpr ⟨h, fun z => hi z.symm⟩, fun _ e => e⟩, fun _ h nn => absurd h nn, fun j a h => .inl ⟨j, (Ow.mem_without.mp h).1⟩, fun _ h => h⟩⟩
  · obtain ⟨v, h1, h2⟩ := R.env.slot j s e
    refine ⟨v, h1, ?_⟩
    cases h2 with
    | no => exact .no _
    | val h => exact .val (Rp.mono va (Pre.refl _) _ _ h)
    | exc q z h => exact .exc q z (h.mono va (Pre.refl _))
    | own h k l =>
      by_cases z : j = i
      · subst z
        exact absurd e (hs _)
      · exact .own (Ow.mem_without.mpr ⟨h, z⟩) k (RpL.mono va (Pre.refl _) _ _ l)
  · obtain ⟨a, kvs, h1, h2, h4⟩ := R.sto.cell j c e
    exact ⟨a, kvs, h1, h2, h4.mono va (Pre.refl _)⟩
/-- slot i holds a kept value -/
theorem Rel.set {H : Hp} {μ : List Addr} {O : Ow} {σ : L2.St} {env : En} {S : Store} {v : V} {p : PV} (R : Rel G H μ O σ env S) (i : Nat) (r : Rp G μ (view H (μ ++ Ow.ad O)) v p) : Rel G H μ O (σ.set i (some v)) (env.set i (.val p)) S where
  sto := R.sto
  env := ⟨by rw [List.length_set, List.length_set]; exact R.env.len, fun j s e => by
    by_cases z : j = i
    · subst z
      by_cases hl : j < env.length
      · rw [List.getElem?_set_self hl] at e
        cases e
        exact ⟨some v, by rw [List.getElem?_set_self (by rw [← R.env.len]; exact hl)], .val r⟩
      · rw [List.getElem?_eq_none (by rw [List.length_set]; omega)] at e
        cases e
    · rw [List.getElem?_set_ne (Ne.symm z)] at e
      obtain ⟨u, h1, h2⟩ := R.env.slot j s e
      exact ⟨u, by rw [List.getElem?_set_ne (Ne.symm z)]; exact h1, h2⟩, R.env.inj⟩
theorem set_noown {env : En} {i : Nat} {p : PV} {xs : List PV} : (env.set i (.val p))[i]? ≠ some (.own xs) := by
  by_cases hl : i < env.length
  · rw [List.getElem?_set_self hl]
    intro z; cases z
  · rw [List.getElem?_eq_none (by rw [List.length_set]; omega)]
    intro z; cases z
def sSet (i : Nat) (r : RE) : RS := sBind r fun p env S => .nx (env.set i (.val p)) S
theorem store_end {H : Hp} {μ : List Addr} {O : Ow} {σ : L2.St} {env : En} {S : Store} {v : V} {p : PV} {D : Ends} {i : Nat} (R : Rel G H μ O σ env S) (hi : i ≠ dz) (r : Rp G μ (view H (μ ++ Ow.ad O)) v p) (h : PostS G W H μ O (.nx (env.set i (.val p)) S) D) : D.nx (σ.set i (some v)) H := by
  obtain ⟨R2, f2⟩ := (R.set i r).lose i hi fun xs => set_noown
  exact h _ H μ _ f2 R2
theorem pfs_set (i : Nat) {x : Str} {pos' : Pos} (hN : X.N.Nodup) (hi : X.N[i]? = some x) (hx : Loc X.env.scope x) (he : PF G X W false e1 ra) (hs : swapsWith e1 (some (.Name x pos')) pos.line X.env = pure false := by rfl)
    (hf : X.fn x = true ∨ X.env.scope.names.lookup x = some .local := by first | exact .inl rfl | exact .inr rfl | assumption) (hz : i ≠ dz := by decide) : PFS G X W (.Assign [.Name x pos'] e1 pos) (sSet i ra) :=
  ps_imp (ps_set (i := i) hN hi hx he hs hf) fun D σ H ⟨μ, O, env, S, R, h⟩ => ⟨μ, O, env, S, R, sbind_exc R h fun p v S1 H1 μ1 f R1 rp h1 => store_end R1 hz (RpB.keep rp) h1⟩
/-- a, b = e1, e2; a, b, c = e1, e2, e3: plain local names -/
def sPar (is : List Nat) (rs : RA) : RS := sBind rs fun ps env S => if ps.length = is.length then .nx ((is.zip ps).foldl (fun e x => e.set x.1 (.val x.2)) env) S else .stuck
theorem pfs_par2 (i j : Nat) {x y : Str} {rs : RA} {px py pt : Pos} {kt k2 pt2} (hc : X.calm = true) (hN : X.N.Nodup) (hi : X.N[i]? = some x) (hj : X.N[j]? = some y) (hij : i ≠ j)
    (hx : X.env.scope.names.lookup x = some .local) (hy : X.env.scope.names.lookup y = some .local) (ha : PFA G X W [e1, e2] rs)
    (hw : swappedStores [.Tuple [.Name x px, .Name y py] kt pt] (.Tuple [e1, e2] k2 pt2) X.env = pure (some [x, y]))
    (hs : swapsWithSole [.Tuple [.Name x px, .Name y py] kt pt] (.Tuple [e1, e2] k2 pt2) pos.line X.env = pure false := by rfl) (hz : i ≠ dz := by decide) (hz2 : j ≠ dz := by decide) :
    PFS G X W (.Assign [.Tuple [.Name x px, .Name y py] kt pt] (.Tuple [e1, e2] k2 pt2) pos) (sPar [i, j] rs) :=
  ps_imp (ps_par hc hN hi hj hij hx hy ha hw hs) fun D σ H ⟨μ, O, env, S, R, h⟩ => ⟨μ, O, env, S, R, sbind_exc R h fun ps vs S1 H1 μ1 f R1 rp h1 => by
    have rp : RpL G μ1 (view H1 (μ1 ++ Ow.ad O)) vs ps := rp
    by_cases hl : ps.length = [i, j].length
    · rw [if_pos hl] at h1
      obtain ⟨p, q, rfl⟩ : ∃ p q, ps = [p, q] := by
        match ps, hl with
        | [p, q], _ => exact ⟨p, q, rfl⟩
        | [], h => exact absurd h (by simp)
        | [_], h => exact absurd h (by simp)
        | _ :: _ :: _ :: _, h => exact absurd h (by simp)
      obtain ⟨v, u, rfl, rv, ru⟩ := rp.two
      refine ⟨v, u, rfl, ?_⟩
      have R2 := R1.set i rv
      obtain ⟨R3, f3⟩ := R2.lose i hz fun xs => set_noown
      have ru3 := Rp.mono f3.view f3.pre _ _ ru
      exact store_end R3 hz2 ru3 (h1.from f3)
    · rw [if_neg hl] at h1
      exact h1.elim⟩
theorem RpL.three {μ : List Addr} {H : Hp} {xs : List V} {p q r : PV} (h : RpL G μ H xs [p, q, r]) : ∃ v u w, xs = [v, u, w] ∧ Rp G μ H v p ∧ Rp G μ H u q ∧ Rp G μ H w r := by
  cases h with
  | cons a l =>
    obtain ⟨u, w, rfl, ru, rw'⟩ := l.two
    exact ⟨_, _, _, rfl, a, ru, rw'⟩
theorem pfs_par3 (i j l : Nat) {x y z : Str} {e3 : Expr} {rs : RA} {px py pz pt : Pos} {kt k2 pt2} (hc : X.calm = true) (hN : X.N.Nodup) (hi : X.N[i]? = some x) (hj : X.N[j]? = some y) (hl : X.N[l]? = some z) (hij : i ≠ j) (hil : i ≠ l) (hjl : j ≠ l)
    (hx : X.env.scope.names.lookup x = some .local) (hy : X.env.scope.names.lookup y = some .local) (hz : X.env.scope.names.lookup z = some .local) (ha : PFA G X W [e1, e2, e3] rs)
    (hw : swappedStores [.Tuple [.Name x px, .Name y py, .Name z pz] kt pt] (.Tuple [e1, e2, e3] k2 pt2) X.env = pure (some [x, y, z]))
    (hs : swapsWithSole [.Tuple [.Name x px, .Name y py, .Name z pz] kt pt] (.Tuple [e1, e2, e3] k2 pt2) pos.line X.env = pure false := by rfl) (hz1 : i ≠ dz := by decide) (hz2 : j ≠ dz := by decide) (hz3 : l ≠ dz := by decide) :
    PFS G X W (.Assign [.Tuple [.Name x px, .Name y py, .Name z pz] kt pt] (.Tuple [e1, e2, e3] k2 pt2) pos) (sPar [i, j, l] rs) :=
  ps_imp (ps_par3 hc hN hi hj hl hij hil hjl hx hy hz ha hw hs) fun D σ H ⟨μ, O, env, S, R, h⟩ => ⟨μ, O, env, S, R, sbind_exc R h fun ps vs S1 H1 μ1 f R1 rp h1 => by
    have rp : RpL G μ1 (view H1 (μ1 ++ Ow.ad O)) vs ps := rp
    by_cases hl : ps.length = [i, j, l].length
    · rw [if_pos hl] at h1
      obtain ⟨p, q, r, rfl⟩ : ∃ p q r, ps = [p, q, r] := by
        match ps, hl with
        | [p, q, r], _ => exact ⟨p, q, r, rfl⟩
        | [], h => exact absurd h (by simp)
        | [_], h => exact absurd h (by simp)
        | [_, _], h => exact absurd h (by simp)
        | _ :: _ :: _ :: _ :: _, h => exact absurd h (by simp)
      obtain ⟨v, u, w, rfl, rv, ru, rw'⟩ := rp.three
      refine ⟨v, u, w, rfl, ?_⟩
      obtain ⟨R3, f3⟩ := (R1.set i rv).lose i hz1 fun xs => set_noown
      obtain ⟨R4, f4⟩ := (R3.set j (Rp.mono f3.view f3.pre _ _ ru)).lose j hz2 fun xs => set_noown
      have f34 := f3.trans f4
      exact store_end R4 hz3 (Rp.mono f34.view f34.pre _ _ rw') (h1.from f34)
    · rw [if_neg hl] at h1
      exact h1.elim⟩
end
end Fx

/-! FxF: defs and their calls. -/
namespace Fx
open PySem PySem.Spec PyProof.Rows L2

/-- what a def promises: it does F -/
def spOf (G : Cfg) (F : List PV → M PV) (n : Nat) : Sp := fun vs H Q E => ∃ μ Z S ps, StoR G μ H Z S ∧ RpL G μ (view H (μ ++ Z)) vs ps ∧ ps.length = n ∧
  match F ps S with
  | .ok r S' => ∀ v H' μ', Fr H μ H' μ' → StoR G μ' H' Z S' → Rp G μ' (view H' (μ' ++ Z)) v r → Q v H'
  | .exc c ns qs S' => ∀ d H' μ', Fr H μ H' μ' → StoR G μ' H' Z S' → ExcR G μ' (view H' (μ' ++ Z)) d ns qs → E (.ref (G.ca c)) d H'
  | .stuck => False
/-- the def at f does F, by level k -/
structure FnF (G : Cfg) (P : Program) (w : World) (mg : Str → Option Value) (base : Heap) (k : Nat) (f : Addr) (fd : FuncData) (ps : List Str) (F : List PV → M PV) : Prop where
  run : ∀ (A : Around) (outer : List Env) (s : Shared) (H : Hp) (args : Args) (us : List Value) (vs : List V) (Q : VK) (E : XK), Room k A → A.guards = some [] → Env0 P w G.K mg base A outer s H → BindsTo s fd args (ps.zip us) → Vals vs us → spOf G F ps.length vs H Q E →
    codeAny (model P w) A (.call (.ref f) args) (CR (L2.CX P w) outer P w H s Q E) s
theorem FnF.mono {G : Cfg} {P : Program} {w : World} {mg : Str → Option Value} {base : Heap} {j k : Nat} {f : Addr} {fd : FuncData} {ps : List Str} {F : List PV → M PV} (h : FnF G P w mg base j f fd ps F) (hk : j ≤ k) : FnF G P w mg base k f fd ps F :=
  ⟨fun A outer s H args us vs Q E hr => h.run A outer s H args us vs Q E (hr.mono hk)⟩
/-- a def's frame at its entry -/
def enter (n : Nat) (ps : List PV) : En := ps.map Slot.val ++ List.replicate (n - ps.length) Slot.no
/-- a body as a function of its arguments -/
def runF (n : Nat) (r : RS) : List PV → M PV := fun ps S => match r (enter n ps) S with
  | .rt p S' => .ok p S'
  | .nx _ S' => .ok .non S'
  | .exc c ns qs _ S' => .exc c ns qs S'
  | _ => .stuck

section
variable {G : Cfg} {P : Program} {w : World} {mg : Str → Option Value} {base : Heap} {k : Nat}
theorem spOf.len {F : List PV → M PV} {n : Nat} {vs : List V} {H : Hp} {Q : VK} {E : XK} (h : spOf G F n vs H Q E) : vs.length = n := by
  obtain ⟨μ, Z, S, ps, _, l, e, _⟩ := h
  rw [l.length, e]
/-- the entry of a body -/
theorem enter_rel {μ Z : List Addr} {S : Store} {ps : List PV} {vs : List V} {H : Hp} {N : List Str} (s : StoR G μ H Z S) (l : RpL G μ (view H (μ ++ Z)) vs ps) (hn : ps.length ≤ N.length) :
    Rel G H μ (Z.map fun a => (dz, a)) (L2.start N vs) (enter N.length ps) S := by
  have ez : Ow.ad (Z.map fun a => (dz, a)) = Z := by
    unfold Ow.ad
    rw [List.map_map]
    exact List.map_id Z
  have el := l.length
  refine ⟨⟨?_, fun i x e => ?_, fun i j a h1 h2 => ?_⟩, by rw [ez]; exact s⟩
  · unfold enter L2.start
    simp only [List.length_append, List.length_map, List.length_replicate]
    omega
  · unfold enter at e
    by_cases hi : i < ps.length
    · rw [List.getElem?_append_left (by simpa using hi), List.getElem?_map] at e
      obtain ⟨p, hp, rfl⟩ := Option.map_eq_some_iff.mp e
      obtain ⟨v, hv, rv⟩ := l.get hp
      refine ⟨some v, ?_, .val (by rw [ez]; exact rv)⟩
      unfold L2.start
      rw [List.getElem?_append_left (by rw [List.length_map, el]; exact hi), List.getElem?_map, hv]
      rfl
    · rw [List.getElem?_append_right (by simpa using hi), List.getElem?_replicate] at e
      split at e
      · rename_i hlt
        cases e
        refine ⟨none, ?_, .no _⟩
        unfold L2.start
        rw [List.getElem?_append_right (by rw [List.length_map, el]; omega), List.getElem?_replicate]
        rw [List.length_map] at hlt ⊢
        rw [el, if_pos hlt]
      · cases e
  · obtain ⟨b, _, e1⟩ := List.mem_map.mp h1
    obtain ⟨c, _, e2⟩ := List.mem_map.mp h2
    cases e1
    cases e2
    rfl
/-- behind a body: hidden as it was at the entry -/
theorem sfr_fr {H H' : Hp} {μ μ' Z : List Addr} {O' : Ow} (f : Sfr H μ (Z.map fun a => (dz, a)) H' μ' O') (hid : ∀ a ∈ Z, a ∉ μ) : Fr H μ H' μ' where
  keep := fun a o e t n => by
    by_cases hz : a ∈ Z
    · exact (f.dz a (List.mem_map.mpr ⟨a, hz, rfl⟩)).2 o e
    · refine (view_some (f.view a o (view_of e (fun z => ?_) t))).1
      rcases List.mem_append.mp z with z | z
      · exact n z
      · obtain ⟨j, q⟩ := Ow.ad_mem.mp z
        obtain ⟨b, hb, eb⟩ := List.mem_map.mp q
        cases eb
        exact hz hb
  pre := f.pre
  new := f.new
  there := f.there
theorem sfr_view {H H' : Hp} {μ μ' Z : List Addr} {O' : Ow} (f : Sfr H μ (Z.map fun a => (dz, a)) H' μ' O') : Same (view H' (μ' ++ Ow.ad O')) (view H' (μ' ++ Z)) := view_anti fun a h => by
  rcases List.mem_append.mp h with h | h
  · exact List.mem_append_left _ h
  · exact List.mem_append_right _ (Ow.ad_mem.mpr ⟨dz, (f.dz a (List.mem_map.mpr ⟨a, h, rfl⟩)).1⟩)
theorem sfr_sto {H H' : Hp} {μ μ' Z : List Addr} {O' : Ow} {S' : Store} (f : Sfr H μ (Z.map fun a => (dz, a)) H' μ' O') (s : StoR G μ' H' (Ow.ad O') S') : StoR G μ' H' Z S' where
  len := s.len
  nd := s.nd
  cell := fun i c e => by
    obtain ⟨a, kvs, h1, h2, h4⟩ := s.cell i c e
    exact ⟨a, kvs, h1, h2, h4.mono (sfr_view f) (Pre.refl _)⟩
  hid := fun a h => s.hid a (Ow.ad_mem.mpr ⟨dz, (f.dz a (List.mem_map.mpr ⟨a, h, rfl⟩)).1⟩)
  tabs := s.tabs
/-- THE RULE for a def: its body does r -/
theorem fnF_of {x qual : Str} {st : Stmt} {f : Addr} {fd : FuncData} {N ps : List Str} {r : RS} (F : Fun G.K x qual st f fd) (Sc : FnScope N ps (defScope st))
    (hbody : ∀ (cdv : Value) (A : Around) (outer : List Env) (s : Shared) (H : Hp) (E : XK), Room k (A.deeper (envOfC qual (defScope st) s.heap.objs.size f cdv)) → A.guards = some [] →
      PFSs G (cxOf (L2.CX P w) P w G.K mg base N qual (defScope st) f cdv A outer s H E) (fun cls d _ H' => E cls d H') (defBody st) r) : FnF G P w mg base (k + 1) f fd ps (runF N.length r) := by
  refine ⟨fun A outer s H args us vs Q E hr hgd e0 hb rv hsp => ?_⟩
  obtain ⟨oc, od, kV, doc, pm, an, cdv, ct, osl, rfl, lk, hcd⟩ := F.ex
  have hpl : ps.length ≤ N.length := by have := congrArg List.length Sc.pre; rw [List.length_take] at this; omega
  refine LamX.run_ofS lk hcd Sc hr e0 hb rv hsp.len fun hr' => ⟨_, hbody cdv A outer s H E hr' hgd, ?_⟩
  obtain ⟨μ, Z, S, qs, sto, l, en, hF⟩ := hsp
  refine ⟨μ, _, _, S, enter_rel (N := N) sto l (by omega), ?_⟩
  unfold runF at hF
  cases e : r (enter N.length qs) S with
  | rt p S' =>
    rw [e] at hF
    exact fun v H' μ' O' f' s' r' => hF v H' μ' (sfr_fr f' fun a ha => (sto.hid a ha).1) (sfr_sto f' s') (Rp.mono (sfr_view f') (Pre.refl _) _ _ r')
  | nx env' S' =>
    rw [e] at hF
    exact fun σ' H' μ' O' f' R' => hF .non H' μ' (sfr_fr f' fun a ha => (sto.hid a ha).1) (sfr_sto f' R'.sto) .non
  | exc c ns ps' env' S' =>
    rw [e] at hF
    exact fun d σ' H' μ' O' f' R' x => hF d H' μ' (sfr_fr f' fun a ha => (sto.hid a ha).1) (sfr_sto f' R'.sto) (x.mono (sfr_view f') (Pre.refl _))
  | bk env' S' => rw [e] at hF; exact hF.elim
  | ct env' S' => rw [e] at hF; exact hF.elim
  | stuck => rw [e] at hF; exact hF.elim
end

/-! ### calls -/
section
variable {G : Cfg} {X : Cx} {W : WX} {k : Nat} {f : Addr} {fd : FuncData} {ps : List Str} {F : List PV → M PV} {x : Str} {p pos : Pos} {e : Expr} {es : List Expr} {rs : RA} {b : Bool}
def rCall (F : List PV → M PV) (n : Nat) (rs : RA) : RE := fun env => M.bind (rs env) fun ps => if ps.length = n then F ps else M.stuck
theorem run_fnF {pins : List (Addr × Obj)} {σ : L2.St} {H : Hp} {s : Shared} {Q : VK} {us : List Value} {vs : List V} {E : L2.St → XK} (h : FnF G X.prog X.w X.mg X.base k f fd ps F) (hK : G.K = X.K) (hr : Room k X.A) (hgd : X.A.guards = some []) (hb : Binds X.K fd ps []) (hx : PassesAt (L2.CX X.prog X.w) X σ (E σ))
    (I : Inv X pins σ H s) (r : Vals vs us) (hs : spOf G F ps.length vs H Q (E σ)) : wpAny (model X.prog X.w) X.A (call (.ref f) us) (EP X pins σ Q) X.xe s := by
  have hl : us.length = ps.length := by rw [← r.length]; exact hs.len
  have bb := hb s us I.kIn (by rw [List.append_nil]; exact hl)
  rw [List.append_nil] at bb
  refine wpAny_call (codeAny_mono (h.run X.A X.stack s H ⟨us, []⟩ us vs Q (E σ) hr hgd (by rw [hK]; exact I.env0) bb r hs) fun r s' hq => ?_)
  cases r with
  | error er => exact hx pins H s er s' I hq
  | ok fl =>
    cases fl with
    | ret u => exact I.after hq
    | next => exact False.elim hq
    | brk => exact False.elim hq
    | cont => exact False.elim hq
theorem pf_call (h : FnF G X.prog X.w X.mg X.base k f fd ps F) (hK : G.K = X.K) (hr : Room k X.A) (hgd : X.A.guards = some []) (hg : Gl X x) (hm : X.mg x = some (.ref f)) (hk : PySem.W.keepIn X.K (.ref f) = true) (hb : Binds X.K fd ps []) (tk : Takes X W)
    (ha : PFA G X W (e :: es) rs) (hdb : (x == ("__debug__" : Str)) = false := by decide) (he : starEach (e :: es) X.env = (false, eval e X.env) :: starEach es X.env := by rfl) (hpl : (backTo pos (starEach es X.env)).any (·.1) = false := by rfl) :
    PF G X W b (.Call (.Name x p) (e :: es) [] pos) (rCall F ps.length rs) := by
  refine ⟨fun pins s σ H Q I hq => ?_⟩
  obtain ⟨μ, O, env, S, R, hq⟩ := hq
  refine wpAny_Call_Name_kw (ld_glob I hg hm ?_ hdb)
  refine PySem.W.callWith_K (h₀ := X.base) I.ok.mod.kin hk (thn (ha.run pos pins s σ H _ I (bindA (P := fun vs H1 => spOf G F ps.length vs H1 Q (WE W σ)) R hq fun qs vs S1 H1 μ1 f1 R1 rp h1 => ?_)) fun us s1 ⟨vs, H1, I1, r, q⟩ => ⟨I1.kIn, ?_⟩) he hpl
  · by_cases hl : qs.length = ps.length
    · rw [if_pos hl] at h1
      refine ⟨μ1, Ow.ad O, S1, qs, R1.sto, rp, hl, ?_⟩
      cases ef : F qs S1 with
      | ok r S' =>
        rw [ef] at h1
        exact fun v H' μ' f' s' r' => h1 v H' μ' f' s' (.kept r')
      | exc c ns ps' S' =>
        rw [ef] at h1
        exact h1
      | stuck => rw [ef] at h1; exact h1.elim
    · rw [if_neg hl] at h1
      exact h1.elim
  · exact run_fnF h hK hr hgd hb (passAt tk σ) I1 r q
end
end Fx

/-! FxG: what is walked, targets, for, while, comprehensions. -/
namespace Fx
open PySem PySem.Spec PyProof.Rows L2

/-! ### what is walked -/
/-- an iterator that yields what stands for ps -/
def relI (G : Cfg) (O : Ow) : List Addr → Hp → It → List PV → Prop := fun μ H J ps => ∃ (Gd : Hp → Prop) (Y : Nat → Hp → V → Hp → Prop), Walk J ps.length Gd Y ∧
  ∀ H2 L2 μ2, Same (view H (μ ++ Ow.ad O)) (view H2 L2) → Pre μ μ2 → (∀ a ∈ L2, H2 a ≠ none) → Gd H2 ∧ ∀ (i : Nat) (x : V) (H3 : Hp) (p : PV), ps[i]? = some p → Y i H2 x H3 →
    (H3 = H2 ∨ ∃ T o, H2 T = none ∧ isTbl o = false ∧ H3 = upd H2 T o) ∧ Rp G μ2 (view H3 L2) x p
def rdI (G : Cfg) (W : WX) (r : RA) : TI := fun σ H R => ∃ μ O env S, Rel G H μ O σ env S ∧ Post G W σ O H μ (relI G O) (r env S) R
def PFI (G : Cfg) (X : Cx) (W : WX) (tg iter : Expr) (r : RA) : Prop := PI X tg iter (rdI G W r)
theorem pi_imp {X : Cx} {tg iter : Expr} {t t' : TI} (h : PI X tg iter t) (k : ∀ σ H R, t' σ H R → t σ H R) : PI X tg iter t' := ⟨fun pins s σ H R I q => h.run pins s σ H R I (k _ _ _ q)⟩
section
variable {G : Cfg} {X : Cx} {W : WX} {tg e1 e2 : Expr} {ra rb : RE} {pos : Pos} {p0 : Pos}
def opSeqL (p : PV) : M (List PV) := match seqPV p with
  | some (_, xs) => M.ret xs
  | none => M.stuck
def riSeq (ra : RE) : RA := fun env => M.bind (ra env) opSeqL
/-- a list or a tuple walked: both rules at once -/
theorem pi_seqAny {l : Expr} {tl : TE} (hl : PE X l tl) : PI X tg l (fun σ H R => tl σ H fun x H1 => ∃ a, x = .ref a ∧ (((∃ xs, SqL X.K H1 a xs) ∧ R (Itl X.K a) H1) ∨ ((∃ xs, SqT X.K H1 a xs) ∧ R (Itt X.K a) H1))) := by
  refine ⟨fun pins s σ H R I h => thn (hl.run pins s σ H _ I h) fun v s1 ⟨x, H1, I1, r1, a, ex, hq⟩ => ?_⟩
  subst ex
  obtain rfl : v = Value.ref a := r1
  have fp : ∀ b ∈ [s1.heap.objs.size], FpOk X pins H1 b := fun b hb => by
    rw [List.mem_singleton.mp hb]
    exact I1.fpOk (Nat.le_refl _) (I1.hok.fresh (Nat.le_refl _))
  rcases hq with ⟨⟨xs, hx⟩, q⟩ | ⟨⟨xs, hx⟩, q⟩
  · obtain ⟨its, _, pl, _⟩ := I1.list hx
    exact wpAny_pyIter_list pl.isList ⟨_, [s1.heap.objs.size], _, _, H1, rfl, I1.kept (t' := s1.toks) fun _ _ z => Heap.get?_push_of_some _ z, turn_list a _, ⟨_, Heap.get?_push_size _ rfl, rfl, rfl⟩, fp, q⟩
  · obtain ⟨its, _, pl, _⟩ := I1.tuple hx
    exact wpAny_pyIter_tuple (show s1.heap.IsTuple a its.toArray from pl) ⟨_, [s1.heap.objs.size], _, _, H1, rfl, I1.kept (t' := s1.toks) fun _ _ z => Heap.get?_push_of_some _ z, turn_tuple a _, ⟨_, Heap.get?_push_size _ rfl, rfl, rfl⟩, fp, q⟩
theorem relI_seq {O : Ow} {H : Hp} {μ : List Addr} {a : Addr} {xs : List V} {ps : List PV} {J : It} (l : RpL G μ (view H (μ ++ Ow.ad O)) xs ps)
    (h : (J = Itl G.K a ∧ SqL G.K (view H (μ ++ Ow.ad O)) a xs) ∨ (J = Itt G.K a ∧ SqT G.K (view H (μ ++ Ow.ad O)) a xs)) : relI G O μ H J ps := by
  have el := l.length
  rcases h with ⟨rfl, hs⟩ | ⟨rfl, hs⟩
  · refine ⟨_, _, by rw [← el]; exact walk_list (K := G.K) (a := a) (xs := xs), fun H2 L2 μ2 sm pr nn => ⟨(view_sub _ _).seq (sm.seq hs), fun i x H3 p hp y => ?_⟩⟩
    obtain ⟨e, hx⟩ := y
    subst e
    obtain ⟨d, hd, rd⟩ := l.getV hx
    rw [hp] at hd
    cases hd
    exact ⟨.inl rfl, Rp.mono sm pr _ _ rd⟩
  · refine ⟨_, _, by rw [← el]; exact walk_tup (K := G.K) (a := a) (xs := xs), fun H2 L2 μ2 sm pr nn => ⟨same_sqT (view_sub _ _) (same_sqT sm hs), fun i x H3 p hp y => ?_⟩⟩
    obtain ⟨e, hx⟩ := y
    subst e
    obtain ⟨d, hd, rd⟩ := l.getV hx
    rw [hp] at hd
    cases hd
    exact ⟨.inl rfl, Rp.mono sm pr _ _ rd⟩
theorem pfi_seq (hK : G.K = X.K) (ha : PF G X W false e1 ra) : PFI G X W tg e1 (riSeq ra) :=
  pi_imp (pi_seqAny ha) fun σ H R ⟨μ, O, env, S, Rl, h⟩ => bindE Rl h fun p v S1 H1 μ1 f1 R1 rp h1 => by
    unfold opSeqL at h1
    cases e : seqPV p with
    | none => rw [e] at h1; exact h1.elim
    | some kp =>
      obtain ⟨k, ps⟩ := kp
      rw [e] at h1
      have rk := rp.keep
      cases rk with
      | @tup a xs _ hq l =>
        cases e
        have hq2 : SqT X.K H1 a xs := by rw [← hK]; exact same_sqT (view_sub _ _) hq
        exact ⟨a, rfl, .inr ⟨⟨xs, hq2⟩, h1.now R1 (relI_seq l (.inr ⟨by rw [hK], hq⟩))⟩⟩
      | @lst a xs _ hq l =>
        cases e
        exact ⟨a, rfl, .inl ⟨⟨xs, SqL.of (view_sub _ _ _ _ hq)⟩, h1.now R1 (relI_seq l (.inl ⟨by rw [hK], SqL.of hq⟩))⟩⟩
      | @scr a ns hq =>
        cases e
        exact ⟨a, rfl, .inl ⟨⟨_, by rw [← hK]; exact (view_sub _ _).seq hq⟩, h1.now R1 (relI_seq (rpl_ints ns _) (.inl ⟨by rw [hK], hq⟩))⟩⟩
      | _ => cases e
/-! range -/
def rangeL (lo : Int) (n : Nat) : List PV := (List.range n).map fun i => PV.int (lo + (i : Nat))
theorem relI_range {O : Ow} {H : Hp} {μ : List Addr} {lo : Int} {n : Nat} : relI G O μ H (Itr lo n) (rangeL lo n) := by
  have el : (rangeL lo n).length = n := by unfold rangeL; rw [List.length_map, List.length_range]
  refine ⟨_, _, by rw [el]; exact walk_range, fun H2 L2 μ2 sm pr nn => ⟨True.intro, fun i x H3 p hp y => ?_⟩⟩
  obtain ⟨e, hx⟩ := y
  subst e
  subst hx
  refine ⟨.inl rfl, ?_⟩
  unfold rangeL at hp
  rw [List.getElem?_map] at hp
  obtain ⟨j, hj, e⟩ := Option.map_eq_some_iff.mp hp
  have hl := (List.getElem?_eq_some_iff.mp hj)
  obtain ⟨h1, h2⟩ := hl
  rw [List.getElem_range] at h2
  subst h2
  subst e
  exact .int _
def opRg1 : List PV → M (List PV)
  | [.int j] => if j < 2 ^ 62 ∧ -(2 ^ 62) ≤ j then M.ret (rangeL 0 j.toNat) else M.stuck
  | _ => M.stuck
def opRg2 : List PV → M (List PV)
  | [.int i, .int j] => if -(2 ^ 62) ≤ i ∧ i < 2 ^ 62 ∧ -(2 ^ 62) ≤ j ∧ j < 2 ^ 62 then M.ret (rangeL i (j - i).toNat) else M.stuck
  | _ => M.stuck
def riRg1 (rs : RA) : RA := fun env => M.bind (rs env) opRg1
def riRg2 (rs : RA) : RA := fun env => M.bind (rs env) opRg2
theorem pfi_range1 {rs : RA} (hg : Gl X "range") (hm : X.mg "range" = none) (ha : PFA G X W [e1] rs) (hs : starEach [e1] X.env = [(false, eval e1 X.env)] := by rfl) : PFI G X W tg (.Call (.Name "range" p0) [e1] [] pos) (riRg1 rs) :=
  pi_imp (pi_range1 hg hm ha hs) fun σ H R ⟨μ, O, env, S, Rl, h⟩ => bindA Rl h fun ps vs S1 H1 μ1 f1 R1 rp h1 => by
    unfold opRg1 at h1
    split at h1
    · rename_i j
      split at h1
      · rename_i hj
        obtain ⟨v, rfl, rv⟩ := rp.one
        exact ⟨j, by rw [rv.isInt], hj.2, hj.1, h1.now R1 relI_range⟩
      · exact h1.elim
    · exact h1.elim
theorem pfi_range2 {rs : RA} (hg : Gl X "range") (hm : X.mg "range" = none) (ha : PFA G X W [e1, e2] rs) (hs : starEach [e1, e2] X.env = [(false, eval e1 X.env), (false, eval e2 X.env)] := by rfl) (hs2 : starEach [e2] X.env = [(false, eval e2 X.env)] := by rfl) : PFI G X W tg (.Call (.Name "range" p0) [e1, e2] [] pos) (riRg2 rs) :=
  pi_imp (pi_range2 hg hm ha hs hs2) fun σ H R ⟨μ, O, env, S, Rl, h⟩ => bindA Rl h fun ps vs S1 H1 μ1 f1 R1 rp h1 => by
    unfold opRg2 at h1
    split at h1
    · rename_i i j
      split at h1
      · rename_i hj
        obtain ⟨v, u, rfl, rv, ru⟩ := rp.two
        exact ⟨i, j, by rw [rv.isInt, ru.isInt], hj, h1.now R1 relI_range⟩
      · exact h1.elim
    · exact h1.elim
end

/-! ### targets -/
abbrev RG := PV → En → Option En
def rdG (G : Cfg) (f : RG) : TG := fun v σ H Q => ∃ μ O env S p, Rel G H μ O σ env S ∧ Rp G μ (view H (μ ++ Ow.ad O)) v p ∧ match f p env with
  | some env' => ∀ σ' O', Sfr H μ O H μ O' → Rel G H μ O' σ' env' S → Q σ' H
  | none => False
def PFG (G : Cfg) (X : Cx) (tg : Expr) (f : RG) : Prop := PG X tg (rdG G f)
def gnm (i : Nat) : RG := fun p env => some (env.set i (.val p))
theorem pg_imp {X : Cx} {tg : Expr} {t t' : TG} (h : PG X tg t) (k : ∀ v σ H Q, t' v σ H Q → t v σ H Q) : PG X tg t' := ⟨fun pins s σ H v u Q I r q => h.run pins s σ H v u Q I r (k _ _ _ _ q)⟩
section
variable {G : Cfg} {X : Cx} {W : WX}
theorem pfg_name (i : Nat) {x : Str} {pos : Pos} (hN : X.N.Nodup) (hi : X.N[i]? = some x) (hx : Loc X.env.scope x) (hf : X.fn x = true ∨ X.env.scope.names.lookup x = some .local := by first | exact .inl rfl | exact .inr rfl | assumption) (hz : i ≠ dz := by decide) : PFG G X (.Name x pos) (gnm i) :=
  pg_imp (pg_name (i := i) hN hi hx hf) fun v σ H Q ⟨μ, O, env, S, p, R, rp, h⟩ => by
    obtain ⟨R2, f2⟩ := (R.set i rp).lose i hz fun xs => set_noown
    exact h _ _ f2 R2

/-! ### for -/
def forL (f : RG) (body : RS) : List PV → RS
  | [], env, S => .nx env S
  | p :: ps, env, S => match f p env with
    | none => .stuck
    | some env1 => match body env1 S with
      | .nx env2 S2 => forL f body ps env2 S2
      | .ct env2 S2 => forL f body ps env2 S2
      | .bk env2 S2 => .nx env2 S2
      | o => o
def sFor (ri : RA) (f : RG) (body : RS) : RS := sBind ri fun ps => forL f body ps
theorem Sfr.fr {H H' : Hp} {μ μ' : List Addr} {O : Ow} {σ : L2.St} {env : En} {S : Store} (R : Rel G H μ O σ env S) (f : Fr H μ H' μ') : Sfr H μ O H' μ' O := sfr_of R f
theorem Rel.new {H : Hp} {μ : List Addr} {O : Ow} {σ : L2.St} {env : En} {S : Store} {T : Addr} {o : HO} (R : Rel G H μ O σ env S) (h : H T = none) : Rel G (upd H T o) μ O σ env S := R.step (Fr.laid h) (R.sto.fr h)
theorem Rel.tracked {H : Hp} {μ : List Addr} {O : Ow} {σ : L2.St} {env : En} {S : Store} (R : Rel G H μ O σ env S) : ∀ a ∈ μ ++ Ow.ad O, H a ≠ none := fun a h => by
  rcases List.mem_append.mp h with z | z
  · obtain ⟨i, hi⟩ := List.getElem?_of_mem z
    have hl : i < S.length := by rw [← R.sto.len]; exact (List.getElem?_eq_some_iff.mp hi).1
    obtain ⟨b, xs, h1, h2, _⟩ := R.sto.cell i S[i] (by simp [hl])
    rw [hi] at h1
    cases h1
    rw [h2]
    intro q
    cases q
  · obtain ⟨_, u, hu, _⟩ := R.sto.hid a z
    rw [hu]
    intro q
    cases q
theorem pfs_for {tg iter : Expr} {body : List Stmt} {pos : Pos} {ri : RA} {f : RG} {rb : RS} (hp : PassesOwn (model X.prog X.w) X.A X.env X.xe) (hc : X.calm = true) (hi : PFI G X W tg iter ri) (hg : PFG G X tg f) (hb : PFSs G X W body rb)
    (hs : ∀ x, foldedSetIterable iter X.env x = pure x := by intro _; rfl) : PFS G X W (.For tg iter body [] pos) (sFor ri f rb) :=
  ps_imp (ps_for hp hc hi hg hb hs) fun D σ H ⟨μ, O, env, S, R, h⟩ => ⟨μ, O, env, S, R, sbind_exc R h fun ps J S1 H1 μ1 fr R1 rp h1 => by
    obtain ⟨Gd, Y, wk, per⟩ := rp
    refine for_it wk (fun i σ2 H2 => ∃ μ2 O2 env2 S2, Rel G H2 μ2 O2 σ2 env2 S2 ∧ Sfr H1 μ1 O H2 μ2 O2 ∧ PostS G W H2 μ2 O2 (forL f rb (ps.drop i) env2 S2) D) ⟨μ1, O, env, S1, R1, Sfr.refl _ _ _, h1⟩ ?_ ?_ ?_
    · rintro i σ2 H2 _ ⟨μ2, O2, env2, S2, R2, f2, _⟩
      exact (per H2 _ μ2 f2.view f2.pre R2.tracked).1
    · rintro i x σ2 H2 H3 hlt ⟨μ2, O2, env2, S2, R2, f2, h2⟩ y
      have hp : ps[i]? = some ps[i] := by simp [hlt]
      obtain ⟨hH, rx⟩ := (per H2 _ μ2 f2.view f2.pre R2.tracked).2 i x H3 _ hp y
      have ed : ps.drop i = ps[i] :: ps.drop (i + 1) := List.drop_eq_getElem_cons hlt
      rw [ed] at h2
      have R3 : Rel G H3 μ2 O2 σ2 env2 S2 ∧ Sfr H2 μ2 O2 H3 μ2 O2 := by
        rcases hH with rfl | ⟨T, o, hT, _, rfl⟩
        · exact ⟨R2, Sfr.refl _ _ _⟩
        · exact ⟨R2.new hT, sfr_of R2 (Fr.laid hT)⟩
      unfold forL at h2
      refine ⟨μ2, O2, env2, S2, ps[i], R3.1, rx, ?_⟩
      cases ef : f ps[i] env2 with
      | none => rw [ef] at h2; exact h2.elim
      | some env3 =>
        rw [ef] at h2
        dsimp only at h2 ⊢
        intro σ3 O3 f3 R4
        have f13 := (f2.trans R3.2).trans f3
        have h3 := h2.from (R3.2.trans f3)
        refine ⟨μ2, O3, env3, S2, R4, ?_⟩
        cases eb : rb env3 S2 with
        | nx env4 S4 =>
          rw [eb] at h3
          exact fun σ' H' μ' O' f' R' => ⟨μ', O', env4, S4, R', f13.trans f', h3.from f'⟩
        | ct env4 S4 =>
          rw [eb] at h3
          exact fun σ' H' μ' O' f' R' => ⟨μ', O', env4, S4, R', f13.trans f', h3.from f'⟩
        | bk env4 S4 => rw [eb] at h3; exact h3
        | rt p S4 => rw [eb] at h3; exact h3
        | exc c ns qs env4 S4 => rw [eb] at h3; exact h3
        | stuck => rw [eb] at h3; exact h3.elim
    · rintro σ2 H2 ⟨μ2, O2, env2, S2, R2, f2, h2⟩
      rw [List.drop_length] at h2
      exact h2 σ2 H2 μ2 O2 (Sfr.refl _ _ _) R2⟩

/-! ### while -/
def whileN (c : RT) (body : RS) : Nat → RS
  | 0, _, _ => .stuck
  | n + 1, env, S => match c env S with
    | .ok true S1 => match body env S1 with
      | .nx env2 S2 => whileN c body n env2 S2
      | .ct env2 S2 => whileN c body n env2 S2
      | .bk env2 S2 => .nx env2 S2
      | o => o
    | .ok false S1 => .nx env S1
    | .exc k ns vs S1 => .exc k ns vs env S1
    | .stuck => .stuck
theorem whileN_more {c : RT} {body : RS} : ∀ {n m : Nat} {env : En} {S : Store}, n ≤ m → whileN c body n env S ≠ .stuck → whileN c body m env S = whileN c body n env S
  | 0, m, env, S, _, h => absurd rfl h
  | n + 1, 0, env, S, hm, h => absurd hm (by omega)
  | n + 1, m + 1, env, S, hm, h => by
    unfold whileN at h ⊢
    cases e : c env S with
    | ok b S1 =>
      rw [e] at h
      cases b with
      | false => rfl
      | true =>
        dsimp only at h ⊢
        cases e2 : body env S1 with
        | nx env2 S2 =>
          rw [e2] at h
          exact whileN_more (by omega) h
        | ct env2 S2 =>
          rw [e2] at h
          exact whileN_more (by omega) h
        | bk => rfl
        | rt => rfl
        | exc => rfl
        | stuck => rfl
    | exc => rfl
    | stuck => rfl
open Classical in
noncomputable def sWhile (c : RT) (body : RS) : RS := fun env S => if h : ∃ n, whileN c body n env S ≠ .stuck then whileN c body h.choose env S else .stuck
theorem sWhile_of {c : RT} {body : RS} {n : Nat} {env : En} {S : Store} (h : whileN c body n env S ≠ .stuck) : sWhile c body env S = whileN c body n env S := by
  unfold sWhile
  have he : ∃ n, whileN c body n env S ≠ .stuck := ⟨n, h⟩
  rw [dif_pos he]
  have h2 := he.choose_spec
  rcases Nat.le_total n he.choose with q | q
  · exact whileN_more q h
  · exact (whileN_more q h2).symm
theorem sWhile_is {c : RT} {body : RS} {env : En} {S : Store} (h : sWhile c body env S ≠ .stuck) : ∃ n, sWhile c body env S = whileN c body n env S := by
  unfold sWhile at h ⊢
  split
  · rename_i he
    exact ⟨_, rfl⟩
  · rename_i he
    rw [dif_neg he] at h
    exact absurd rfl h
theorem pfs_while {c : Expr} {body : List Stmt} {pos : Pos} {rc : RT} {rb : RS} (hp : PassesOwn (model X.prog X.w) X.A X.env X.xe) (hc : PFT G X W c rc) (hb : PFSs G X W body rb) : PFS G X W (.While c body [] pos) (sWhile rc rb) :=
  ps_imp (ps_while hp hc hb) fun D σ H ⟨μ, O, env, S, R, h⟩ => by
    have hn : sWhile rc rb env S ≠ .stuck := fun z => by rw [z] at h; exact h
    obtain ⟨n, en⟩ := sWhile_is hn
    rw [en] at h
    refine ⟨fun m σ2 H2 => ∃ μ2 O2 env2 S2, Rel G H2 μ2 O2 σ2 env2 S2 ∧ PostS G W H2 μ2 O2 (whileN rc rb m env2 S2) D, ⟨n, μ, O, env, S, R, h⟩, ?_⟩
    rintro m σ2 H2 ⟨μ2, O2, env2, S2, R2, h2⟩
    cases m with
    | zero => exact h2.elim
    | succ m =>
      unfold whileN at h2
      refine ⟨μ2, O2, env2, S2, R2, ?_⟩
      cases ec : rc env2 S2 with
      | stuck => rw [ec] at h2; exact h2.elim
      | exc k ns vs S3 =>
        rw [ec] at h2
        exact fun d H' μ' f s x => h2 d σ2 H' μ' O2 (sfr_of R2 f) (R2.step f s) x
      | ok b S3 =>
        rw [ec] at h2
        intro v H3 μ3 f3 s3 rv
        have rv : v = b := rv
        subst rv
        have R3 := R2.step f3 s3
        cases v with
        | false => exact iteF (h2 σ2 H3 μ3 O2 (sfr_of R2 f3) R3)
        | true =>
          refine iteT ⟨fun σ' H' => ∃ μ' O' env' S', Rel G H' μ' O' σ' env' S' ∧ PostS G W H' μ' O' (whileN rc rb m env' S') D, fun σ' H' z => ⟨m, Nat.lt_succ_self m, z⟩, μ3, O2, env2, S3, R3, ?_⟩
          dsimp only at h2
          have h3 := h2.from (sfr_of R2 f3)
          cases eb : rb env2 S3 with
          | nx env4 S4 =>
            rw [eb] at h3
            exact fun σ' H' μ' O' f' R' => ⟨μ', O', env4, S4, R', h3.from f'⟩
          | ct env4 S4 =>
            rw [eb] at h3
            exact fun σ' H' μ' O' f' R' => ⟨μ', O', env4, S4, R', h3.from f'⟩
          | bk env4 S4 => rw [eb] at h3; exact h3
          | rt p S4 => rw [eb] at h3; exact h3
          | exc c ns qs env4 S4 => rw [eb] at h3; exact h3
          | stuck => rw [eb] at h3; exact h3.elim
end
end Fx

/-! FxH: the store's dicts, owned lists. -/
namespace Fx
open PySem PySem.Spec PyProof.Rows L2

/-! ### hidden objects -/
section
variable {G : Cfg} {H : Hp} {μ : List Addr} {O : Ow} {σ : L2.St} {env : En} {S : Store}
/-- a new object, hidden -/
theorem Rel.hide {i : Nat} {p : Addr} {o : HO} (R : Rel G H μ O σ env S) (hp : H p = none) (ho : isLD o = true) : Same (view H (μ ++ Ow.ad O)) (view (upd H p o) (μ ++ Ow.ad ((i, p) :: O))) ∧ Rel G (upd H p o) μ ((i, p) :: O) σ env S := by
  have vs : Same (view H (μ ++ Ow.ad O)) (view (upd H p o) (μ ++ Ow.ad ((i, p) :: O))) := fun a u e => by
    obtain ⟨h1, h2, h3⟩ := view_some e
    have np : a ≠ p := ne_of_none h1 hp
    refine view_of (by rw [upd_ne np]; exact h1) (fun z => ?_) h3
    rcases List.mem_append.mp z with z | z
    · exact h2 (List.mem_append_left _ z)
    · rcases List.mem_cons.mp (show a ∈ p :: Ow.ad O from z) with z | z
      · exact np z
      · exact h2 (List.mem_append_right _ z)
  have nO : ∀ j a, (j, a) ∈ O → a ≠ p := fun j a h z => R.tracked a (List.mem_append_right _ (Ow.ad_mem.mpr ⟨j, h⟩)) (by rw [z]; exact hp)
  refine ⟨vs, ⟨⟨R.env.len, fun j s e => ?_, fun j k a h1 h2 => ?_⟩, ⟨R.sto.len, R.sto.nd, fun j c e => ?_, fun a h => ?_, (R.sto.fr (o := o) hp).tabs⟩⟩⟩
  · obtain ⟨v, h1, h2⟩ := R.env.slot j s e
    refine ⟨v, h1, ?_⟩
    cases h2 with
    | no => exact .no _
    | val h => exact .val (Rp.mono vs (Pre.refl _) _ _ h)
    | exc q z h => exact .exc q z (h.mono vs (Pre.refl _))
    | own h k l => exact .own (List.mem_cons_of_mem _ h) (by rw [upd_ne (nO _ _ h)]; exact k) (RpL.mono vs (Pre.refl _) _ _ l)
  · rcases List.mem_cons.mp h1 with e1 | h1
    · rcases List.mem_cons.mp h2 with e2 | h2
      · cases e1
        cases e2
        rfl
      · cases e1
        exact absurd rfl (nO _ _ h2)
    · rcases List.mem_cons.mp h2 with e2 | h2
      · cases e2
        exact absurd rfl (nO _ _ h1)
      · exact R.env.inj j k a h1 h2
  · obtain ⟨a, kvs, h1, h2, h4⟩ := R.sto.cell j c e
    exact ⟨a, kvs, h1, by rw [upd_ne (ne_of_none h2 hp)]; exact h2, h4.mono vs (Pre.refl _)⟩
  · rcases List.mem_cons.mp (show a ∈ p :: Ow.ad O from h) with z | z
    · subst z
      refine ⟨fun q => R.tracked a (List.mem_append_left _ q) hp, o, upd_same, ho⟩
    · obtain ⟨h1, u, h2, h3⟩ := R.sto.hid a z
      exact ⟨h1, u, by rw [upd_ne (ne_of_none h2 hp)]; exact h2, h3⟩
/-- the hidden object is let go: it stands as u -/
theorem unhide {H2 : Hp} {μ2 : List Addr} {p : Addr} {u : HO} {S2 : Store} (s : StoR G μ2 H2 (p :: Ow.ad O) S2) (hn : p ∉ Ow.ad O) (hu : isTbl u = false) :
    Same (view H2 (μ2 ++ (p :: Ow.ad O))) (view (upd H2 p u) (μ2 ++ Ow.ad O)) ∧ StoR G μ2 (upd H2 p u) (Ow.ad O) S2 ∧ view (upd H2 p u) (μ2 ++ Ow.ad O) p = some u := by
  obtain ⟨np, u0, hp, ht⟩ := s.hid p List.mem_cons_self
  have vs : Same (view H2 (μ2 ++ (p :: Ow.ad O))) (view (upd H2 p u) (μ2 ++ Ow.ad O)) := fun a o e => by
    obtain ⟨h1, h2, h3⟩ := view_some e
    have na : a ≠ p := fun z => h2 (List.mem_append_right _ (by rw [z]; exact List.mem_cons_self))
    refine view_of (by rw [upd_ne na]; exact h1) (fun z => ?_) h3
    rcases List.mem_append.mp z with z | z
    · exact h2 (List.mem_append_left _ z)
    · exact h2 (List.mem_append_right _ (List.mem_cons_of_mem _ z))
  refine ⟨vs, ⟨s.len, s.nd, fun j c e => ?_, fun a h => ?_, ?_⟩, view_of upd_same (fun z => ?_) hu⟩
  · obtain ⟨a, kvs, h1, h2, h4⟩ := s.cell j c e
    have na : a ≠ p := fun z => np (by rw [← z]; exact List.mem_of_getElem? h1)
    exact ⟨a, kvs, h1, by rw [upd_ne na]; exact h2, h4.mono vs (Pre.refl _)⟩
  · obtain ⟨h1, u2, h2, h3⟩ := s.hid a (List.mem_cons_of_mem _ h)
    have na : a ≠ p := fun z => hn (by rw [← z]; exact h)
    exact ⟨h1, u2, by rw [upd_ne na]; exact h2, h3⟩
  · intro q hq
    obtain ⟨ps, h1, h2, h3⟩ := s.tabs q hq
    have na : q.1 ≠ p := fun z => by
      rw [z, hp] at h1
      cases h1
      cases ht
    refine ⟨ps, by rw [upd_ne na]; exact h1, h2, fun pos cv hc => ?_⟩
    obtain ⟨c, e1, e2⟩ := h3 pos cv hc
    refine ⟨c, e1, ?_⟩
    by_cases nc : c = p
    · exfalso
      subst nc
      rw [hp] at e2
      cases e2
      cases ht
    · rw [upd_ne nc]
      exact e2
  · rcases List.mem_append.mp z with z | z
    · exact np z
    · exact hn z

/-! ### an owned list is changed -/
theorem Rel.mut {i : Nat} {a : Addr} {vs : List V} {ps : List PV} (R : Rel G H μ O σ env S) (hi : i ≠ dz) (hm : (i, a) ∈ O) (hs : σ[i]? = some (some (.ref a))) (l : RpL G μ (view H (μ ++ Ow.ad O)) vs ps) :
    Rel G (upd H a (.lst vs)) μ O σ (env.set i (.own ps)) S ∧ Sfr H μ O (upd H a (.lst vs)) μ O := by
  have ham : a ∈ Ow.ad O := Ow.ad_mem.mpr ⟨i, hm⟩
  obtain ⟨nm, u0, hu, ht⟩ := R.sto.hid a ham
  have vw : Same (view H (μ ++ Ow.ad O)) (view (upd H a (.lst vs)) (μ ++ Ow.ad O)) := fun b o e => by
    obtain ⟨h1, h2, h3⟩ := view_some e
    have nb : b ≠ a := fun z => h2 (List.mem_append_right _ (by rw [z]; exact ham))
    exact view_of (by rw [upd_ne nb]; exact h1) h2 h3
  refine ⟨⟨⟨by rw [List.length_set]; exact R.env.len, fun j s e => ?_, R.env.inj⟩, ⟨R.sto.len, R.sto.nd, fun j c e => ?_, fun b h => ?_, fun q hq => ?_⟩⟩,
    ⟨vw, Pre.refl _, fun b h => ⟨h, fun o e => ?_⟩, fun _ h n => absurd h n, fun j b h => .inl ⟨j, h⟩, fun b h => ?_⟩⟩
  · by_cases z : j = i
    · subst z
      by_cases hl : j < env.length
      · rw [List.getElem?_set_self hl] at e
        cases e
        exact ⟨_, hs, .own hm upd_same (RpL.mono vw (Pre.refl _) _ _ l)⟩
      · rw [List.getElem?_eq_none (by rw [List.length_set]; omega)] at e
        cases e
    · rw [List.getElem?_set_ne (Ne.symm z)] at e
      obtain ⟨v, h1, h2⟩ := R.env.slot j s e
      refine ⟨v, h1, ?_⟩
      cases h2 with
      | no => exact .no _
      | val h => exact .val (Rp.mono vw (Pre.refl _) _ _ h)
      | exc q z h => exact .exc q z (h.mono vw (Pre.refl _))
      | @own b xs qs h k l2 =>
        have nb : b ≠ a := fun y => z (R.env.inj j i a (by rw [← y]; exact h) hm)
        exact .own h (by rw [upd_ne nb]; exact k) (RpL.mono vw (Pre.refl _) _ _ l2)
  · obtain ⟨b, kvs, h1, h2, h4⟩ := R.sto.cell j c e
    have nb : b ≠ a := fun z => nm (by rw [← z]; exact List.mem_of_getElem? h1)
    exact ⟨b, kvs, h1, by rw [upd_ne nb]; exact h2, h4.mono vw (Pre.refl _)⟩
  · obtain ⟨h1, u, h2, h3⟩ := R.sto.hid b h
    refine ⟨h1, ?_⟩
    by_cases z : b = a
    · subst z
      exact ⟨_, upd_same, rfl⟩
    · exact ⟨u, by rw [upd_ne z]; exact h2, h3⟩
  · obtain ⟨qs, h1, h2, h3⟩ := R.sto.tabs q hq
    have na : q.1 ≠ a := fun z => by
      rw [z, hu] at h1
      cases h1
      cases ht
    refine ⟨qs, by rw [upd_ne na]; exact h1, h2, fun pos cv hc => ?_⟩
    obtain ⟨c, e1, e2⟩ := h3 pos cv hc
    refine ⟨c, e1, ?_⟩
    have nc : c ≠ a := fun z => by
      rw [z, hu] at e2
      cases e2
      cases ht
    rw [upd_ne nc]
    exact e2
  · have nb : b ≠ a := fun z => hi (R.env.inj i dz a hm (by rw [← z]; exact h))
    rw [upd_ne nb]
    exact e
  · by_cases z : b = a
    · subst z; rw [upd_same]; intro q; cases q
    · rw [upd_ne z]; exact h
/-- what an owned slot holds -/
theorem Rel.owned {i : Nat} {ps : List PV} (R : Rel G H μ O σ env S) (e : env[i]? = some (.own ps)) : ∃ a xs, σ[i]? = some (some (.ref a)) ∧ (i, a) ∈ O ∧ H a = some (.lst xs) ∧ RpL G μ (view H (μ ++ Ow.ad O)) xs ps := by
  obtain ⟨v, h1, h2⟩ := R.env.slot i _ e
  cases h2 with
  | own h k l => exact ⟨_, _, h1, h, k, l⟩
end

/-! ### new lists -/
/-- a list that was just made -/
def PostL (G : Cfg) (W : WX) (σ : L2.St) (O : Ow) (H : Hp) (μ : List Addr) (o : Out (List PV)) (Q : VK) : Prop := match o with
  | .ok ps S' => ∀ p vs H' μ', Fr H μ H' μ' → StoR G μ' H' (p :: Ow.ad O) S' → H p = none → H' p = some (.lst vs) → RpL G μ' (view H' (μ' ++ (p :: Ow.ad O))) vs ps → Q (.ref p) H'
  | .exc c ns ps S' => ∀ d H' μ', Fr H μ H' μ' → StoR G μ' H' (Ow.ad O) S' → ExcR G μ' (view H' (μ' ++ Ow.ad O)) d ns ps → W (.ref (G.ca c)) d σ H'
  | .stuck => False
def rdL (G : Cfg) (W : WX) (r : RA) : TE := fun σ H Q => ∃ μ O env S, Rel G H μ O σ env S ∧ PostL G W σ O H μ (r env S) Q
def PFL (G : Cfg) (X : Cx) (W : WX) (e : Expr) (r : RA) : Prop := PE X e (rdL G W r)
section
variable {G : Cfg} {X : Cx} {W : WX} {H H1 : Hp} {μ μ1 : List Addr} {O : Ow} {σ : L2.St} {env : En} {S : Store} {e1 e2 : Expr} {ra rb : RE} {rs : RA} {pos p0 : Pos} {b : Bool}
theorem PostL.from {o : Out (List PV)} {Q : VK} (f : Fr H μ H1 μ1) (h : PostL G W σ O H μ o Q) : PostL G W σ O H1 μ1 o Q := by
  cases o with
  | ok a S =>
    refine fun p vs H' μ' f' s hp e l => h p vs H' μ' (f.trans f') s ?_ e l
    cases q : H p with
    | none => rfl
    | some u => exact absurd hp (f.there p (by rw [q]; intro z; cases z))
  | exc c ns ps S => exact fun d H' μ' f' s r => h d H' μ' (f.trans f') s r
  | stuck => exact h
theorem PostL.new {ps : List PV} {vs : List V} {Q : VK} {p : Addr} (R : Rel G H μ O σ env S) (h : PostL G W σ O H μ (M.ret ps S) Q) (hp : H p = none) (l : RpL G μ (view H (μ ++ Ow.ad O)) vs ps) : Q (.ref p) (upd H p (.lst vs)) := by
  obtain ⟨v, R2⟩ := R.hide (i := dz) (o := .lst vs) hp rfl
  exact h p vs _ μ (Fr.laid hp) R2.sto hp upd_same (RpL.mono v (Pre.refl _) _ _ l)
theorem bindL {b : Bool} {ra : RE} {f : PV → M (List PV)} {Q : VK} {P : V → Hp → Prop} (R : Rel G H μ O σ env S) (h : PostL G W σ O H μ (M.bind (ra env) f S) Q)
    (k : ∀ p v S1 H1 μ1, Fr H μ H1 μ1 → Rel G H1 μ1 O σ env S1 → RpB G μ1 H1 O b v p → PostL G W σ O H1 μ1 (f p S1) Q → P v H1) : rdE G W b ra σ H P := by
  refine ⟨μ, O, env, S, R, ?_⟩
  unfold M.bind at h
  cases e : ra env S with
  | ok p S1 => rw [e] at h; exact fun v H1 μ1 fr st rp => k p v S1 H1 μ1 fr (R.step fr st) rp (h.from fr)
  | exc c ns ps S1 => rw [e] at h; exact h
  | stuck => rw [e] at h; exact h
theorem bindLA {rs : RA} {f : List PV → M (List PV)} {Q : VK} {P : List V → Hp → Prop} (R : Rel G H μ O σ env S) (h : PostL G W σ O H μ (M.bind (rs env) f S) Q)
    (k : ∀ p v S1 H1 μ1, Fr H μ H1 μ1 → Rel G H1 μ1 O σ env S1 → RpL G μ1 (view H1 (μ1 ++ Ow.ad O)) v p → PostL G W σ O H1 μ1 (f p S1) Q → P v H1) : rdA G W rs σ H P := by
  refine ⟨μ, O, env, S, R, ?_⟩
  unfold M.bind at h
  cases e : rs env S with
  | ok p S1 => rw [e] at h; exact fun v H1 μ1 fr st rp => k p v S1 H1 μ1 fr (R.step fr st) rp (h.from fr)
  | exc c ns ps S1 => rw [e] at h; exact h
  | stuck => rw [e] at h; exact h
/-- a new list as a kept value -/
def rOfL (r : RA) : RE := fun env => M.bind (r env) fun ps => M.ret (.lst ps)
theorem pf_ofL (h : PFL G X W e1 rs) : PF G X W b e1 (rOfL rs) := pe_imp h fun σ H Q ⟨μ, O, env, S, R, h⟩ => ⟨μ, O, env, S, R, by
  unfold rOfL M.bind at h
  cases e : rs env S with
  | ok ps S1 =>
    rw [e] at h
    intro p vs H' μ' f s hp hl l
    have hn : p ∉ Ow.ad O := fun z => R.tracked p (List.mem_append_right _ z) hp
    obtain ⟨v1, s1, v2⟩ := unhide (u := .lst vs) s hn rfl
    have eu : upd H' p (.lst vs) = H' := by
      funext a
      by_cases z : a = p
      · rw [z, upd_same, hl]
      · rw [upd_ne z]
    rw [eu] at v1 s1 v2
    exact h _ H' μ' f s1 (.kept (.lst v2 (RpL.mono v1 (Pre.refl _) _ _ l)))
  | exc c ns ps S1 => rw [e] at h; exact h
  | stuck => rw [e] at h; exact h⟩
def rlLst (rs : RA) : RA := fun env => M.bind (rs env) fun ps => if ps.length ≤ sizeLine then M.ret ps else M.stuck
theorem pfl_lst {es : List Expr} (h : PFA G X W es rs) : PFL G X W (.List es pos) (rlLst rs) :=
  pe_imp (pe_lst h) fun σ H Q ⟨μ, O, env, S, R, h⟩ => bindLA R h fun ps vs S1 H1 μ1 f1 R1 rp h1 => by
    by_cases hz : ps.length ≤ sizeLine
    · rw [if_pos hz] at h1
      exact ⟨by rw [rp.length]; exact hz, fun p hp => h1.new R1 hp rp⟩
    · rw [if_neg hz] at h1
      exact h1.elim
def rlList (ra : RE) : RA := fun env => M.bind (ra env) opSeqL
theorem pfl_list (hK : G.K = X.K) (hg : Gl X "list") (hm : X.mg "list" = none) (ha : PF G X W true e1 ra)
    (he : starEach (e1 :: []) X.env = (false, eval e1 X.env) :: starEach [] X.env := by rfl) (hpl : (backTo pos (starEach [] X.env)).any (·.1) = false := by rfl) : PFL G X W (.Call (.Name "list" p0) [e1] [] pos) (rlList ra) :=
  pe_imp (pe_callTy call_list_of hg hm (by decide +kernel) (pa_one ha he) (by decide) (by decide) he hpl) fun σ H Q ⟨μ, O, env, S, R, h⟩ => bindL R h fun p v S1 H1 μ1 f1 R1 rp h1 => by
    unfold opSeqL at h1
    cases e : seqPV p with
    | some kp =>
      obtain ⟨k, ps⟩ := kp
      rw [e] at h1
      obtain ⟨a, xs, rfl, hsq, l⟩ := rp.seq e
      rw [hK] at hsq
      exact ⟨a, xs, rfl, hsq, fun p hp => h1.new R1 hp l⟩
    | none => rw [e] at h1; exact h1.elim
/-- [..] * n -/
def rlRep (ra rb : RE) : RA := fun env => M.bind (ra env) fun p => M.bind (rb env) fun q => match p, q with
  | .lst xs, .int k => if 0 ≤ k ∧ k < 2 ^ 20 ∧ xs.length * k.toNat ≤ sizeLine then M.ret (List.replicate k.toNat xs).flatten else M.stuck
  | _, _ => M.stuck
theorem bindL2 {α β : Type} {b : Bool} {ra : RE} {f : PV → M (List PV)} {Q : VK} {P : V → Hp → Prop} (R : Rel G H μ O σ env S) (h : PostL G W σ O H μ (M.bind (ra env) f S) Q)
    (k : ∀ p v S1 H1 μ1, Fr H μ H1 μ1 → Rel G H1 μ1 O σ env S1 → RpB G μ1 H1 O b v p → PostL G W σ O H1 μ1 (f p S1) Q → P v H1) : rdE G W b ra σ H P := bindL R h k
theorem pfl_rep (ha : PF G X W true e1 ra) (hb : PF G X W true e2 rb) : PFL G X W (.BinOp e1 .Mult e2 pos) (rlRep ra rb) :=
  pe_imp (pe_op op_rep ha hb) fun σ H Q ⟨μ, O, env, S, R, h⟩ => bindL R h fun p v S1 H1 μ1 f1 R1 rp h1 => bindL R1 h1 fun q u S2 H2 μ2 f2 R2 rq h2 => by
    have rp2 := rp.fr f2 fun a ha => (R1.sto.hid a ha).1
    split at h2
    · rename_i xs k
      split at h2
      · rename_i hz
        obtain ⟨a, as, rfl, ha, la⟩ := rp2.lst
        have e1 := la.length
        exact ⟨a, k, as, rfl, rq.int, ha, by omega, by omega, by rw [e1]; exact hz.2.2, fun p hp => h2.new R2 hp (la.rep _)⟩
      · exact h2.elim
    · exact h2.elim

/-! ### x = a new list, owned -/
def sOwn (i : Nat) (r : RA) : RS := sBind r fun ps env S => .nx (env.set i (.own ps)) S
theorem own_end {p : Addr} {vs : List V} {ps : List PV} {S1 : Store} {D : Ends} {i : Nat} (R : Rel G H μ O σ env S) (hi : i ≠ dz) (hl : i < σ.length) (f : Fr H μ H1 μ1) (s : StoR G μ1 H1 (p :: Ow.ad O) S1) (hp : H p = none) (e : H1 p = some (.lst vs)) (l : RpL G μ1 (view H1 (μ1 ++ (p :: Ow.ad O))) vs ps)
    (h : PostS G W H μ O (.nx (env.set i (.own ps)) S1) D) : D.nx (σ.set i (some (.ref p))) H1 := by
  have nO : ∀ j a, (j, a) ∈ O → a ≠ p := fun j a hm z => R.tracked a (List.mem_append_right _ (Ow.ad_mem.mpr ⟨j, hm⟩)) (by rw [z]; exact hp)
  have adE : ∀ a, a ∈ Ow.ad ((i, p) :: O.without i) → a ∈ p :: Ow.ad O := fun a ha => by
    rcases List.mem_cons.mp (show a ∈ p :: Ow.ad (O.without i) from ha) with z | z
    · rw [z]; exact List.mem_cons_self
    · exact List.mem_cons_of_mem _ (without_sub a z)
  have v0 : Same (view H1 (μ1 ++ (p :: Ow.ad O))) (view H1 (μ1 ++ Ow.ad ((i, p) :: O.without i))) := view_anti fun a ha => by
    rcases List.mem_append.mp ha with z | z
    · exact List.mem_append_left _ z
    · exact List.mem_append_right _ (adE a z)
  have v1 : Same (view H (μ ++ Ow.ad O)) (view H1 (μ1 ++ (p :: Ow.ad O))) := fun a o eo => by
    obtain ⟨h1, h2, h3⟩ := view_some eo
    obtain ⟨k1, k2, k3⟩ := view_some (f.view (Z := Ow.ad O) a o eo)
    refine view_of k1 (fun z => ?_) h3
    rcases List.mem_append.mp z with z | z
    · exact k2 (List.mem_append_left _ z)
    · rcases List.mem_cons.mp z with z | z
      · rw [z, hp] at h1; cases h1
      · exact k2 (List.mem_append_right _ z)
  have v := v1.trans v0
  refine h _ H1 μ1 ((i, p) :: O.without i) ⟨v, f.pre, fun a ha => ⟨List.mem_cons_of_mem _ (Ow.mem_without.mpr ⟨ha, fun z => hi z.symm⟩), fun o eo => ?_⟩, f.new, fun j a ha => ?_, f.there⟩
    ⟨⟨by rw [List.length_set, List.length_set]; exact R.env.len, fun j x ex => ?_, fun j k a h1 h2 => ?_⟩, ⟨s.len, s.nd, fun j c ec => ?_, fun a ha => s.hid a (adE a ha), s.tabs⟩⟩
  · obtain ⟨n1, u, hu, t⟩ := R.sto.hid a (Ow.ad_mem.mpr ⟨dz, ha⟩)
    rw [hu] at eo
    cases eo
    exact f.keep a _ hu (ld_tbl t) n1
  · rcases List.mem_cons.mp ha with z | z
    · cases z; exact .inr hp
    · exact .inl ⟨j, (Ow.mem_without.mp z).1⟩
  · by_cases z : j = i
    · subst z
      rw [List.getElem?_set_self (by rw [R.env.len]; exact hl)] at ex
      cases ex
      exact ⟨_, List.getElem?_set_self hl, .own List.mem_cons_self e (RpL.mono v0 (Pre.refl _) _ _ l)⟩
    · rw [List.getElem?_set_ne (Ne.symm z)] at ex
      obtain ⟨w, h1, h2⟩ := R.env.slot j x ex
      refine ⟨w, by rw [List.getElem?_set_ne (Ne.symm z)]; exact h1, ?_⟩
      cases h2 with
      | no => exact .no _
      | val h => exact .val (Rp.mono v f.pre _ _ h)
      | exc q z h => exact .exc q z (h.mono v f.pre)
      | @own a xs qs h k l2 => exact .own (List.mem_cons_of_mem _ (Ow.mem_without.mpr ⟨h, z⟩)) (f.keep a _ k rfl (R.hid a (Ow.ad_mem.mpr ⟨j, h⟩))) (RpL.mono v f.pre _ _ l2)
  · rcases List.mem_cons.mp h1 with e1 | h1
    · rcases List.mem_cons.mp h2 with e2 | h2
      · cases e1; cases e2; rfl
      · cases e1; exact absurd rfl (nO _ _ (Ow.mem_without.mp h2).1)
    · rcases List.mem_cons.mp h2 with e2 | h2
      · cases e2; exact absurd rfl (nO _ _ (Ow.mem_without.mp h1).1)
      · exact R.env.inj j k a (Ow.mem_without.mp h1).1 (Ow.mem_without.mp h2).1
  · obtain ⟨a, kvs, h1, h2, h4⟩ := s.cell j c ec
    exact ⟨a, kvs, h1, h2, h4.mono v0 (Pre.refl _)⟩
theorem sbind_excL {f : List PV → RS} {D : Ends} {m : RA} {P : VK} (R : Rel G H μ O σ env S) (h : PostS G W H μ O (sBind m f env S) D)
    (k : ∀ ps p vs S1 H1 μ1, m env S = .ok ps S1 → Fr H μ H1 μ1 → StoR G μ1 H1 (p :: Ow.ad O) S1 → H p = none → H1 p = some (.lst vs) → RpL G μ1 (view H1 (μ1 ++ (p :: Ow.ad O))) vs ps → PostS G W H μ O (f ps env S1) D → P (.ref p) H1) : PostL G W σ O H μ (m env S) P := by
  unfold sBind at h
  cases e : m env S with
  | ok ps S1 => rw [e] at h; exact fun p vs H1 μ1 fr st hp hl l => k ps p vs S1 H1 μ1 e fr st hp hl l h
  | exc c ns ps S1 => rw [e] at h; exact fun d H' μ' fr st x => h d σ H' μ' O (sfr_of R fr) (R.step fr st) x
  | stuck => rw [e] at h; exact h
theorem pfs_own (i : Nat) {x : Str} {pos' : Pos} (hN : X.N.Nodup) (hi : X.N[i]? = some x) (hx : Loc X.env.scope x) (he : PFL G X W e1 rs) (hs : swapsWith e1 (some (.Name x pos')) pos.line X.env = pure false := by rfl)
    (hf : X.fn x = true ∨ X.env.scope.names.lookup x = some .local := by first | exact .inl rfl | exact .inr rfl | assumption) (hz : i ≠ dz := by decide) : PFS G X W (.Assign [.Name x pos'] e1 pos) (sOwn i rs) := by
  refine ⟨fun pins s σ H D I h => ?_⟩
  have hlen : i < σ.length := by rw [I.len]; exact (List.getElem?_eq_some_iff.mp hi).1
  obtain ⟨μ, O, env, S, R, h⟩ := h
  exact (ps_set (i := i) hN hi hx he hs hf).run pins s σ H D I ⟨μ, O, env, S, R, sbind_excL R h fun ps p vs S1 H1 μ1 _ fr st hp hl l h1 => own_end R hz hlen fr st hp hl l h1⟩

/-! ### methods that change an owned list -/
def sAppend (i : Nat) (r : RE) : RS := fun env S => match env[i]? with
  | some (.own _) => sBind r (fun p env S => match env[i]? with
    | some (.own xs) => if xs.length < sizeLine then .nx (env.set i (.own (xs ++ [p]))) S else .stuck
    | _ => .stuck) env S
  | _ => .stuck
theorem pfs_append (i : Nat) {x : Str} {e : Expr} {r : RE} {p1 p2 p3 : Pos} (hN : X.N[i]? = some x) (hv : Vis X.env.scope x) (he : PF G X W false e r) (hs : swapsWith (.Call (.Attribute (.Name x p1) "append" p2) [e] [] p3) none pos.line X.env = pure false := by rfl)
    (hbase : attributeBase (.Name x p1) "append" X.env (eval (.Name x p1) X.env) = eval (.Name x p1) X.env := by rfl)
    (hfew : ((backTo p3 (starEach (e :: []) X.env)).all (fun x => !x.1) && (backToKw p3 (keywordEach [] X.env)).all (fun x => x.1.isSome) && decide ((e :: []).length + ([] : List Keyword).length + (if ([] : List Keyword).isEmpty then 0 else 1) < 30)) = true := by rfl)
    (hline : (p2.endLine == p3.line) = true := by rfl) (hse : starEach (e :: []) X.env = (false, eval e X.env) :: starEach [] X.env := by rfl) (hpl : (backTo p3 (starEach [] X.env)).any (·.1) = false := by rfl)
    (hd : (x == ("__debug__" : Str)) = false := by decide) (hcd : (x == ("__classdict__" : Str)) = false := by decide) (hz : i ≠ dz := by decide) :
    PFS G X W (.Expr (.Call (.Attribute (.Name x p1) "append" p2) [e] [] p3) pos) (sAppend i r) :=
  ps_imp (ps_expr (pe_bm PySem.F.plainAttrs_list PySem.F.slot_list_append PySem.F.type_list_append mt_append (pe_var (i := i) hN hv hd hcd) (pa_one he hse) hbase hfew hline hse hpl) hs) fun D σ H ⟨μ, O, env, S, R, h⟩ => by
    unfold sAppend at h
    cases ei : env[i]? with
    | none => rw [ei] at h; exact h.elim
    | some sl =>
      cases sl with
      | no => rw [ei] at h; exact h.elim
      | val => rw [ei] at h; exact h.elim
      | exc => rw [ei] at h; exact h.elim
      | own xs =>
        rw [ei] at h
        dsimp only at h
        obtain ⟨a, vs, h1, hm, hH, l⟩ := R.owned ei
        refine ⟨.ref a, h1, .inl ⟨rfl, _, SqL.of hH⟩, μ, O, env, S, R, sbind_exc R h fun p v S1 H1 μ1 fr R1 rp h2 => ?_⟩
        rw [ei] at h2
        dsimp only at h2
        by_cases hl : xs.length < sizeLine
        · rw [if_pos hl] at h2
          have hH1 := fr.keep a _ hH rfl (R.hid a (Ow.ad_mem.mpr ⟨i, hm⟩))
          have l1 := RpL.mono fr.view fr.pre _ _ l
          refine ⟨a, vs, v, rfl, rfl, hH1, by rw [l.length]; exact hl, ?_⟩
          obtain ⟨R2, f2⟩ := R1.mut hz hm h1 (l1.append (.cons (RpB.keep rp) .nil))
          exact h2 _ _ μ1 O f2 R2
        · rw [if_neg hl] at h2
          exact h2.elim
def sSetIx (i : Nat) (rk rv : RE) : RS := sBind rv fun p env S => match env[i]? with
  | some (.own _) => sBind rk (fun k env S => match env[i]?, k with
    | some (.own xs), .int n => match ixN xs.length n with
      | some j => .nx (env.set i (.own (xs.set j p))) S
      | none => .stuck
    | _, _ => .stuck) env S
  | _ => .stuck
theorem pfs_setix (i : Nat) {x : Str} {ek ev : Expr} {rk rv : RE} {p1 p2 : Pos} (hN : X.N[i]? = some x) (hv : Vis X.env.scope x) (hk : PF G X W false ek rk) (he : PF G X W false ev rv)
    (ha : ∀ v, assign (.Subscript (.Name x p1) ek p2) X.env v = (do
      let ov ← holding [v] (eval (.Name x p1) X.env)
      let iv ← holding [v, ov] (eval ek X.env)
      standAt p2
      holding [v, ov, iv] (setItem ov iv v)
      release [v, ov, iv] []) := by intro _; rfl)
    (h1 : swapsWithSole [.Subscript (.Name x p1) ek p2] ev pos.line X.env = pure false := by rfl) (h2 : swappedStores [.Subscript (.Name x p1) ek p2] ev X.env = pure none := by rfl) (h3 : (assignEach [.Subscript (.Name x p1) ek p2] X.env).map (·.2) = [assign (.Subscript (.Name x p1) ek p2) X.env] := by rfl)
    (hd : (x == ("__debug__" : Str)) = false := by decide) (hcd : (x == ("__classdict__" : Str)) = false := by decide) (hz : i ≠ dz := by decide) :
    PFS G X W (.Assign [.Subscript (.Name x p1) ek p2] ev pos) (sSetIx i rk rv) :=
  ps_imp (ps_asg he (pg_sub (pe_var (i := i) hN hv hd hcd) hk set_list ha) h1 h2 h3) fun D σ H ⟨μ, O, env, S, R, h⟩ => ⟨μ, O, env, S, R, sbind_exc R h fun p v S1 H1 μ1 fr R1 rp h2 => by
    cases ei : env[i]? with
    | none => rw [ei] at h2; exact h2.elim
    | some sl =>
      cases sl with
      | no => rw [ei] at h2; exact h2.elim
      | val => rw [ei] at h2; exact h2.elim
      | exc => rw [ei] at h2; exact h2.elim
      | own xs =>
        rw [ei] at h2
        dsimp only at h2
        obtain ⟨a, vs, h1, hm, hH, l⟩ := R1.owned ei
        refine ⟨.ref a, h1, μ1, O, env, S1, R1, sbind_exc R1 h2 fun k u S2 H2 μ2 fr2 R2 rk h3 => ?_⟩
        rw [ei] at h3
        cases k with
        | int n =>
          dsimp only at h3
          cases ej : ixN xs.length n with
          | none => rw [ej] at h3; exact h3.elim
          | some j =>
            rw [ej] at h3
            have hH1 := fr2.keep a _ hH rfl (R1.hid a (Ow.ad_mem.mpr ⟨i, hm⟩))
            have l1 := RpL.mono fr2.view fr2.pre _ _ l
            refine ⟨a, vs, n, j, rfl, RpB.int rk, hH1, by rw [l.length]; exact ej, ?_⟩
            obtain ⟨R3, f3⟩ := R2.mut hz hm h1 (l1.set (Rp.mono fr2.view fr2.pre _ _ (RpB.keep rp)) j)
            exact h3 _ _ μ2 O f3 R3
        | _ => exact h3.elim⟩
/-- the ghost step: an owned list is kept from now on -/
def sFrz (i : Nat) (r : RS) : RS := fun env S => match env[i]? with
  | some (.own xs) => r (env.set i (.val (.lst xs))) S
  | _ => .stuck
theorem Rel.frz {i : Nat} {xs : List PV} (R : Rel G H μ O σ env S) (hz : i ≠ dz) (e : env[i]? = some (.own xs)) : Rel G H μ (O.without i) σ (env.set i (.val (.lst xs))) S ∧ Sfr H μ O H μ (O.without i) := by
  obtain ⟨a, vs, h1, hm, hH, l⟩ := R.owned e
  have hl : i < env.length := (List.getElem?_eq_some_iff.mp e).1
  have va : Same (view H (μ ++ Ow.ad O)) (view H (μ ++ Ow.ad (O.without i))) := view_anti fun a h => by
    rcases List.mem_append.mp h with h | h
    · exact List.mem_append_left _ h
    · exact List.mem_append_right _ (without_sub a h)
  refine ⟨⟨⟨by rw [List.length_set]; exact R.env.len, fun j s ej => ?_, fun j k b h1 h2 => R.env.inj j k b (Ow.mem_without.mp h1).1 (Ow.mem_without.mp h2).1⟩, ⟨R.sto.len, R.sto.nd, fun j c ec => ?_, fun b h => R.sto.hid b (without_sub b h), R.sto.tabs⟩⟩,
    ⟨va, Pre.refl _, fun b h => ⟨Ow.mem_without.mpr ⟨h, fun z => hz z.symm⟩, fun _ e => e⟩, fun _ h nn => absurd h nn, fun j b h => .inl ⟨j, (Ow.mem_without.mp h).1⟩, fun _ h => h⟩⟩
  · by_cases z : j = i
    · subst z
      rw [List.getElem?_set_self hl] at ej
      cases ej
      refine ⟨_, h1, .val (.lst (view_of hH (fun q => ?_) rfl) (RpL.mono va (Pre.refl _) _ _ l))⟩
      rcases List.mem_append.mp q with q | q
      · exact R.hid a (Ow.ad_mem.mpr ⟨j, hm⟩) q
      · obtain ⟨k, hk⟩ := Ow.ad_mem.mp q
        obtain ⟨k1, k2⟩ := Ow.mem_without.mp hk
        exact k2 (R.env.inj k j a k1 hm)
    · rw [List.getElem?_set_ne (Ne.symm z)] at ej
      obtain ⟨v, h1, h2⟩ := R.env.slot j s ej
      refine ⟨v, h1, ?_⟩
      cases h2 with
      | no => exact .no _
      | val h => exact .val (Rp.mono va (Pre.refl _) _ _ h)
      | exc q z h => exact .exc q z (h.mono va (Pre.refl _))
      | own h k l => exact .own (Ow.mem_without.mpr ⟨h, z⟩) k (RpL.mono va (Pre.refl _) _ _ l)
  · obtain ⟨b, kvs, h1, h2, h4⟩ := R.sto.cell j c ec
    exact ⟨b, kvs, h1, h2, h4.mono va (Pre.refl _)⟩
theorem pfss_frz (i : Nat) {st : List Stmt} {r : RS} (h : PFSs G X W st r) (hz : i ≠ dz := by decide) : PFSs G X W st (sFrz i r) :=
  pss_imp h fun D σ H ⟨μ, O, env, S, R, h⟩ => by
    unfold sFrz at h
    cases ei : env[i]? with
    | none => rw [ei] at h; exact h.elim
    | some sl =>
      cases sl with
      | no => rw [ei] at h; exact h.elim
      | val => rw [ei] at h; exact h.elim
      | exc => rw [ei] at h; exact h.elim
      | own xs =>
        rw [ei] at h
        obtain ⟨R2, f2⟩ := R.frz hz ei
        exact ⟨μ, _, _, S, R2, h.from f2⟩
end
end Fx

/-! FxI: the store's dicts; comprehensions; repr. -/
namespace Fx
open PySem PySem.Spec PyProof.Rows L2

/-! ### cells -/
def cget (c : Cell) (k : Key) : Option PV := (c.find? fun kv => decide (kv.1 = k)).map (·.2)
def cput (c : Cell) (k : Key) (p : PV) : Cell := if (c.any fun kv => decide (kv.1 = k)) = true then c.map (fun kv => if kv.1 = k then (kv.1, p) else kv) else c ++ [(k, p)]
section
variable {G : Cfg} {μ : List Addr} {H : Hp}
theorem CellR.get {kvs : List (Key × V)} {c : Cell} {k : Key} {p : PV} (h : CellR G μ H kvs c) (e : cget c k = some p) : ∃ v, valV kvs k = some v ∧ Rp G μ H v p := by
  induction h with
  | nil => cases e
  | @cons k' v p' kvs c hp hc ih =>
    by_cases z : k' = k
    · subst z
      have e2 : p' = p := by
        unfold cget at e
        simpa [List.find?_cons] using e
      subst e2
      exact ⟨v, valV_pos rfl, hp⟩
    · have e2 : cget c k = some p := by
        unfold cget at e ⊢
        simpa [List.find?_cons, z] using e
      obtain ⟨u, h1, h2⟩ := ih e2
      exact ⟨u, by rw [valV_neg z]; exact h1, h2⟩
theorem CellR.any {kvs : List (Key × V)} {c : Cell} {k : Key} (h : CellR G μ H kvs c) : (kvs.any fun kv => decide (kv.1 = k)) = (c.any fun kv => decide (kv.1 = k)) := by
  induction h with
  | nil => rfl
  | cons hp hc ih => rw [List.any_cons, List.any_cons, ih]
theorem CellR.len {kvs : List (Key × V)} {c : Cell} (h : CellR G μ H kvs c) : kvs.length = c.length := by
  induction h with
  | nil => rfl
  | cons hp hc ih => rw [List.length_cons, List.length_cons, ih]
theorem CellR.snoc {kvs : List (Key × V)} {c : Cell} {k : Key} {v : V} {p : PV} (h : CellR G μ H kvs c) (r : Rp G μ H v p) : CellR G μ H (kvs ++ [(k, v)]) (c ++ [(k, p)]) := by
  induction h with
  | nil => exact .cons r .nil
  | cons hp hc ih => exact .cons hp ih
theorem CellR.repl {kvs : List (Key × V)} {c : Cell} {k : Key} {v : V} {p : PV} (h : CellR G μ H kvs c) (r : Rp G μ H v p) : CellR G μ H (kvs.map fun kv => if kv.1 = k then (kv.1, v) else kv) (c.map fun kv => if kv.1 = k then (kv.1, p) else kv) := by
  induction h with
  | nil => exact .nil
  | @cons k' v' p' kvs c hp hc ih =>
    rw [List.map_cons, List.map_cons]
    by_cases z : k' = k
    · simp only [z, if_true]
      exact .cons r (by simpa [z] using ih)
    · simp only [if_neg z]
      exact .cons hp ih
theorem CellR.put {kvs : List (Key × V)} {c : Cell} {k : Key} {v : V} {p : PV} (h : CellR G μ H kvs c) (r : Rp G μ H v p) : CellR G μ H (putK kvs k v) (cput c k p) := by
  unfold putK cput
  rw [h.any]
  split
  · exact h.repl r
  · exact h.snoc r
end
def keyOf : PV → Option Key
  | .int i => some (.inl i)
  | .str x => some (.inr x)
  | _ => none
section
variable {G : Cfg} {X : Cx} {W : WX} {H H1 : Hp} {μ μ1 : List Addr} {O : Ow} {σ : L2.St} {env : En} {S : Store} {e1 e2 : Expr} {ra rb : RE} {rs : RA} {pos p0 : Pos} {b : Bool}
theorem keyOf_kV {v : V} {p : PV} {k : Key} {b : Bool} (h : RpB G μ H O b v p) (e : keyOf p = some k) : v = kV k := by
  unfold keyOf at e
  split at e
  · cases e; exact h.int
  · cases e; exact h.str
  · cases e
/-- the cell of a ref -/
theorem Rel.ref {n : Nat} {v : V} {c : Cell} {b : Bool} (R : Rel G H μ O σ env S) (h : RpB G μ H O b v (.ref n)) (e : S[n]? = some c) : ∃ a kvs, v = .ref a ∧ μ[n]? = some a ∧ H a = some (.dK kvs) ∧ CellR G μ (view H (μ ++ Ow.ad O)) kvs c := by
  cases h with
  | kept h =>
    cases h with
    | ref h =>
      obtain ⟨a, kvs, h1, h2, h3⟩ := R.sto.cell n c e
      rw [h] at h1
      cases h1
      exact ⟨_, kvs, rfl, h, h2, h3⟩
def opDGet (p q : PV) : M PV := fun S => match p, keyOf q with
  | .ref n, some k => match S[n]? with
    | some c => match cget c k with
      | some x => .ok x S
      | none => .stuck
    | none => .stuck
  | _, _ => .stuck
def rDGet (ra rb : RE) : RE := rOp opDGet ra rb
theorem pf_dget (hu : X.A.units + 1 < cLine) (ha : PF G X W true e1 ra) (hb : PF G X W true e2 rb) (hs : NoSl e2 := by exact fun _ _ => rfl) : PF G X W b (.Subscript e1 e2 pos) (rDGet ra rb) :=
  pe_imp (pe_dget hu ha hb hs) fun σ H Q ⟨μ, O, env, S, R, h⟩ => bindE R h fun p v S1 H1 μ1 f1 R1 rp h1 => bindE R1 h1 fun q u S2 H2 μ2 f2 R2 rq h2 => by
    have rp2 := rp.fr f2 fun a ha => (R1.sto.hid a ha).1
    unfold opDGet at h2
    cases p with
    | ref n =>
      cases ek : keyOf q with
      | none => rw [ek] at h2; exact h2.elim
      | some k =>
        rw [ek] at h2
        dsimp only at h2
        cases ec : S2[n]? with
        | none => rw [ec] at h2; exact h2.elim
        | some c =>
          rw [ec] at h2
          dsimp only at h2
          cases ex : cget c k with
          | none => rw [ex] at h2; exact h2.elim
          | some x =>
            rw [ex] at h2
            obtain ⟨a, kvs, rfl, hm, hH, hc⟩ := R2.ref rp2 ec
            obtain ⟨w, hw, rw'⟩ := hc.get ex
            refine ⟨a, w, rfl, .inl ⟨kvs, k, .inl hH, keyOf_kV rq ek, hw.symm⟩, h2 _ H2 μ2 (Fr.refl _ _) R2.sto (.kept rw')⟩
    | _ => exact h2.elim
/-- a cell is changed -/
theorem Rel.put {n : Nat} {a : Addr} {kvs : List (Key × V)} {c : Cell} (R : Rel G H μ O σ env S) (hm : μ[n]? = some a) (hc : CellR G μ (view H (μ ++ Ow.ad O)) kvs c) : Rel G (upd H a (.dK kvs)) μ O σ env (S.set n c) ∧ Sfr H μ O (upd H a (.dK kvs)) μ O := by
  have ham : a ∈ μ := List.mem_of_getElem? hm
  have vw : Same (view H (μ ++ Ow.ad O)) (view (upd H a (.dK kvs)) (μ ++ Ow.ad O)) := fun b o e => by
    obtain ⟨h1, h2, h3⟩ := view_some e
    have nb : b ≠ a := fun z => h2 (List.mem_append_left _ (by rw [z]; exact ham))
    exact view_of (by rw [upd_ne nb]; exact h1) h2 h3
  have nO : ∀ j b, (j, b) ∈ O → b ≠ a := fun j b h z => R.hid b (Ow.ad_mem.mpr ⟨j, h⟩) (by rw [z]; exact ham)
  have tr := R.tracked a (List.mem_append_left _ ham)
  obtain ⟨i0, hi0⟩ : ∃ i : Nat, i = n := ⟨n, rfl⟩
  have hl : n < S.length := by rw [← R.sto.len]; exact (List.getElem?_eq_some_iff.mp hm).1
  obtain ⟨a', kvs0, k1, k2, _⟩ := R.sto.cell n S[n] (by simp [hl])
  rw [hm] at k1
  cases k1
  refine ⟨⟨⟨R.env.len, fun j s e => ?_, R.env.inj⟩, ⟨by rw [List.length_set]; exact R.sto.len, R.sto.nd, fun j d ej => ?_, fun b h => ?_, fun q hq => ?_⟩⟩,
    ⟨vw, Pre.refl _, fun b h => ⟨h, fun o e => ?_⟩, fun _ h nn => absurd h nn, fun j b h => .inl ⟨j, h⟩, fun b h => ?_⟩⟩
  · obtain ⟨v, h1, h2⟩ := R.env.slot j s e
    refine ⟨v, h1, ?_⟩
    cases h2 with
    | no => exact .no _
    | val h => exact .val (Rp.mono vw (Pre.refl _) _ _ h)
    | exc q z h => exact .exc q z (h.mono vw (Pre.refl _))
    | own h k l => exact .own h (by rw [upd_ne (nO _ _ h)]; exact k) (RpL.mono vw (Pre.refl _) _ _ l)
  · by_cases z : j = n
    · subst z
      rw [List.getElem?_set_self hl] at ej
      cases ej
      exact ⟨a, kvs, hm, upd_same, hc.mono vw (Pre.refl _)⟩
    · rw [List.getElem?_set_ne (Ne.symm z)] at ej
      obtain ⟨b, kv, h1, h2, h4⟩ := R.sto.cell j d ej
      have nb : b ≠ a := fun y => by
        rw [y] at h1
        exact z (nodup_at R.sto.nd h1 hm)
      exact ⟨b, kv, h1, by rw [upd_ne nb]; exact h2, h4.mono vw (Pre.refl _)⟩
  · obtain ⟨h1, u, h2, h3⟩ := R.sto.hid b h
    obtain ⟨j, hj⟩ := Ow.ad_mem.mp h
    exact ⟨h1, u, by rw [upd_ne (nO j b hj)]; exact h2, h3⟩
  · obtain ⟨qs, h1, h2, h3⟩ := R.sto.tabs q hq
    have na : q.1 ≠ a := fun z => by
      rw [z, k2] at h1
      cases h1
    refine ⟨qs, by rw [upd_ne na]; exact h1, h2, fun pos cv hc => ?_⟩
    obtain ⟨cc, e1, e2⟩ := h3 pos cv hc
    refine ⟨cc, e1, ?_⟩
    have nc : cc ≠ a := fun z => by
      rw [z, k2] at e2
      cases e2
    rw [upd_ne nc]
    exact e2
  · rw [upd_ne (nO _ _ h)]
    exact e
  · by_cases z : b = a
    · subst z; rw [upd_same]; intro q; cases q
    · rw [upd_ne z]; exact h
where
  nodup_at {μ : List Addr} (nd : μ.Nodup) {i j : Nat} {a : Addr} (h1 : μ[i]? = some a) (h2 : μ[j]? = some a) : i = j := by
    obtain ⟨l1, e1⟩ := List.getElem?_eq_some_iff.mp h1
    obtain ⟨l2, e2⟩ := List.getElem?_eq_some_iff.mp h2
    exact (List.getElem_inj nd).mp (e1.trans e2.symm)
def sDPut (rd rk rv : RE) : RS := sBind rv fun p => sBind rd fun d => sBind rk fun q env S => match d, keyOf q with
  | .ref n, some k => match S[n]? with
    | some c => if c.length < sizeLine then .nx env (S.set n (cput c k p)) else .stuck
    | none => .stuck
  | _, _ => .stuck
theorem pfs_dput {od ok ov : Expr} {rd rk rv : RE} {pos' : Pos} (hu : X.A.units + 1 < cLine) (hd : PF G X W false od rd) (hk : PF G X W false ok rk) (hv : PF G X W false ov rv) (hs : swapsWith ov (some (.Subscript od ok pos')) pos.line X.env = pure false := by rfl) :
    PFS G X W (.Assign [.Subscript od ok pos'] ov pos) (sDPut rd rk rv) :=
  ps_imp (ps_dput hu hd hk hv hs) fun D σ H ⟨μ, O, env, S, R, h⟩ => ⟨μ, O, env, S, R, sbind_exc R h fun p v S1 H1 μ1 f1 R1 rp h1 => ⟨μ1, O, env, S1, R1, sbind_exc R1 h1 fun d x S2 H2 μ2 f2 R2 rd h2 => ⟨μ2, O, env, S2, R2, sbind_exc R2 h2 fun q y S3 H3 μ3 f3 R3 rq h3 => by
    have rd3 := RpB.fr rd f3 fun a ha => (R2.sto.hid a ha).1
    have f23 := f2.trans f3
    cases d with
    | ref n =>
      cases ek : keyOf q with
      | none => rw [ek] at h3; exact h3.elim
      | some k =>
        rw [ek] at h3
        dsimp only at h3
        cases ec : S3[n]? with
        | none => rw [ec] at h3; exact h3.elim
        | some c =>
          rw [ec] at h3
          dsimp only at h3
          by_cases hl : c.length < sizeLine
          · rw [if_pos hl] at h3
            obtain ⟨a, kvs, rfl, hm, hH, hc⟩ := R3.ref rd3 ec
            obtain ⟨R4, f4⟩ := R3.put hm (hc.put (k := k) (Rp.mono f23.view f23.pre _ _ (RpB.keep rp)))
            exact ⟨a, _, rfl, .inl ⟨kvs, k, hH, keyOf_kV rq ek, by rw [hc.len]; exact hl, rfl⟩, h3 _ _ μ3 O f4 R4⟩
          · rw [if_neg hl] at h3
            exact h3.elim
    | _ => exact h3.elim⟩⟩⟩
end
end Fx

/-! FxJ: dicts made, texts of values. -/
namespace Fx
open PySem PySem.Spec PyProof.Rows L2

/-! ### {k: v, ..} with constant keys -/
structure PFP (G : Cfg) (X : Cx) (W : WX) (pos : Pos) (keys : List (Option Expr)) (values : List Expr) (ks : List Key) (rs : RA) : Prop where
  ex : ∃ trs, PPs X pos keys values trs ∧ ∀ (σ : L2.St) (H : Hp) (Q : List (V × V) → Hp → Prop), rdA G W rs σ H (fun vs H' => Q ((ks.map kV).zip vs) H') → tPairs trs σ H Q
section
variable {G : Cfg} {X : Cx} {W : WX} {H H1 : Hp} {μ μ1 : List Addr} {O : Ow} {σ : L2.St} {env : En} {S : Store} {e1 e2 : Expr} {ra rb : RE} {rs : RA} {pos p0 : Pos} {b : Bool}
theorem pfp_nil : PFP G X W pos [] [] [] raNil := ⟨[], pps_nil, fun σ H Q ⟨μ, O, env, S, R, h⟩ => by
  have h2 := h.now R (v := ([] : List V)) .nil
  exact h2⟩
theorem pfp_cons {k : Expr} {kk : Key} {v : Expr} {keys : List (Option Expr)} {values : List Expr} {ks : List Key} (hk : PE X k (tC (kV kk))) (hv : PF G X W false v ra) (hr : PFP G X W pos keys values ks rs) : PFP G X W pos (some k :: keys) (v :: values) (kk :: ks) (raCons ra rs) := by
  obtain ⟨trs, h1, h2⟩ := hr.ex
  refine ⟨_, pps_cons hk hv h1, fun σ H Q ⟨μ, O, env, S, R, h⟩ => ?_⟩
  show rdE G W false ra σ H fun y H2 => tPairs trs σ H2 fun ps H3 => Q ((kV kk, y) :: ps) H3
  exact bindE R h fun p u S1 H1 μ1 f R1 rp k1 => h2 _ _ _ (bindA R1 k1 fun ps vs S2 H2 μ2 f2 R2 rps k2 =>
    k2.now R2 (v := u :: vs) (.cons (Rp.mono f2.view f2.pre _ _ rp.keep) rps))
theorem key_str {x : Str} {j pos} : PE X (.Constant (.str x) j pos) (tC (kV (.inr x))) := pe_str
theorem key_int {i : Int} {j pos} : PE X (.Constant (.int i) j pos) (tC (kV (.inl i))) := pe_int
theorem any_key {κ α : Type} [DecidableEq κ] (k : κ) : ∀ l : List (κ × α), (l.any fun kv => decide (kv.1 = k)) = true → k ∈ l.map (·.1)
  | [], h => by cases h
  | p :: l, h => by
    rw [List.any_cons, Bool.or_eq_true] at h
    rcases h with h | h
    · have e : p.1 = k := by simpa using h
      rw [← e]; exact List.mem_cons_self
    · exact List.mem_cons_of_mem _ (any_key k l h)
theorem merge_new : ∀ (more acc : List (Key × V)), (acc.map (·.1) ++ more.map (·.1)).Nodup → mergeK acc more = acc ++ more
  | [], acc, _ => (List.append_nil acc).symm
  | p :: r, acc, h => by
    have hn : (acc.any fun kv => decide (kv.1 = p.1)) = false := by
      cases e : (acc.any fun kv => decide (kv.1 = p.1)) with
      | false => rfl
      | true =>
        have := any_key _ _ e
        rw [List.map_cons] at h
        exact absurd rfl ((List.nodup_append.mp h).2.2 _ this _ List.mem_cons_self)
    have e1 : putK acc p.1 p.2 = acc ++ [p] := by
      unfold putK
      rw [hn]
      rfl
    show mergeK (putK acc p.1 p.2) r = _
    rw [e1, merge_new r (acc ++ [p]) (by rw [List.map_append, List.append_assoc]; exact h), List.append_assoc]
    rfl
theorem zip_fst {α β : Type} : ∀ (xs : List α) (ys : List β), xs.length = ys.length → (xs.zip ys).map (·.1) = xs
  | [], _, _ => rfl
  | x :: xs, [], h => by cases h
  | x :: xs, y :: ys, h => by
    rw [List.zip_cons_cons, List.map_cons, zip_fst xs ys (by simpa using h)]
theorem zip_snd {α β : Type} : ∀ (xs : List α) (ys : List β), xs.length = ys.length → (xs.zip ys).map (·.2) = ys
  | [], [], _ => rfl
  | [], _ :: _, h => by cases h
  | x :: xs, [], h => by cases h
  | x :: xs, y :: ys, h => by
    rw [List.zip_cons_cons, List.map_cons, zip_snd xs ys (by simpa using h)]
theorem zip_kv : ∀ (ks : List Key) (vs : List V), (ks.map kV).zip vs = (ks.zip vs).map fun kv => (kV kv.1, kv.2)
  | [], _ => rfl
  | k :: ks, [] => rfl
  | k :: ks, v :: vs => by
    rw [List.map_cons, List.zip_cons_cons, List.zip_cons_cons, List.map_cons, zip_kv ks vs]
theorem zip_len {α β : Type} {xs : List α} {ys : List β} (h : xs.length = ys.length) : (xs.zip ys).length = xs.length := by
  rw [List.length_zip, h]; omega
theorem cellR_of {μ : List Addr} {H : Hp} : ∀ {ks : List Key} {vs : List V} {ps : List PV}, ks.length = vs.length → RpL G μ H vs ps → CellR G μ H (ks.zip vs) (ks.zip ps)
  | [], [], [], _, _ => .nil
  | [], _ :: _, _, h, _ => by cases h
  | _ :: _, [], _, h, _ => by cases h
  | k :: ks, v :: vs, _, h, .cons a l => .cons a (cellR_of (by simpa using h) l)
  | [], [], _ :: _, _, l => by cases l
/-- what a display's evaluation leaves: p stands, hidden, empty -/
theorem disp_run {α : Type} {rel : List Addr → Hp → V → α → Prop} {f : List PV → M α} {Q : VK} {P : List V → Hp → Prop} {p : Addr} (R : Rel G H μ O σ env S) (hp : H p = none) (h : Post G W σ O H μ rel (M.bind (rs env) f S) Q)
    (k : ∀ ps vs S1 H1 μ1, Fr (upd H p (.dK [])) μ H1 μ1 → StoR G μ1 H1 (p :: Ow.ad O) S1 → p ∉ Ow.ad O → H1 p = some (.dK []) → RpL G μ1 (view H1 (μ1 ++ (p :: Ow.ad O))) vs ps → Post G W σ O H μ rel (f ps S1) Q → P vs H1) : rdA G W rs σ (upd H p (.dK [])) P := by
  obtain ⟨v0, R2⟩ := R.hide (i := dz) (o := .dK []) hp rfl
  have hn : p ∉ Ow.ad O := fun z => R.tracked p (List.mem_append_right _ z) hp
  have hm : p ∉ μ := fun z => R.tracked p (List.mem_append_left _ z) hp
  refine ⟨μ, (dz, p) :: O, env, S, R2, ?_⟩
  unfold M.bind at h
  cases e : rs env S with
  | ok ps S1 =>
    rw [e] at h
    intro vs H1 μ1 f1 s1 l
    exact k ps vs S1 H1 μ1 f1 s1 hn (f1.keep p _ upd_same rfl hm) l h
  | exc c ns ps S1 =>
    rw [e] at h
    intro d H1 μ1 f1 s1 x
    have hp1 : H1 p = some (.dK []) := f1.keep p _ upd_same rfl hm
    obtain ⟨v1, s2, _⟩ := unhide (u := .dK []) s1 hn rfl
    have eu : upd H1 p (.dK []) = H1 := by
      funext a
      by_cases z : a = p
      · rw [z, upd_same, hp1]
      · rw [upd_ne z]
    rw [eu] at v1 s2
    exact h d H1 μ1 ((Fr.laid hp).trans f1) s2 (x.mono v1 (Pre.refl _))
  | stuck => rw [e] at h; exact h
theorem fr_fix {H H1 : Hp} {μ μ1 : List Addr} {p : Addr} {u0 u : HO} (hp : H p = none) (f : Fr (upd H p u0) μ H1 μ1) : Fr H μ (upd H1 p u) μ1 where
  keep := fun a o e t n => by
    have na : a ≠ p := ne_of_none e hp
    rw [upd_ne na]
    exact f.keep a o (by rw [upd_ne na]; exact e) t n
  pre := f.pre
  new := fun a h n => by
    have := f.new a h n
    by_cases z : a = p
    · rw [z]; exact hp
    · rw [upd_ne z] at this; exact this
  there := fun a h => by
    by_cases z : a = p
    · rw [z, upd_same]; intro q; cases q
    · rw [upd_ne z]
      exact f.there a (by rw [upd_ne z]; exact h)
/-- a frozen dict -/
def rDct (ks : List Key) (rs : RA) : RE := fun env => M.bind (rs env) fun ps => if ks.length = ps.length then M.ret (.dct ks ps) else M.stuck
theorem pf_dct {keys : List (Option Expr)} {values : List Expr} {ks : List Key} (h : PFP G X W pos keys values ks rs) (hall : keys.all (·.isSome) = true := by rfl) (hl : keys.length = values.length := by rfl) (h0 : keys ≠ [] := by intro z; cases z) (h15 : keys.length ≤ 15 := by decide) (hk15 : ks.length ≤ 15 := by decide) (hnd : ks.Nodup := by decide) :
    PF G X W b (.Dict keys values pos) (rDct ks rs) := by
  obtain ⟨trs, h1, h2⟩ := h.ex
  refine pe_imp (pe_disp h1 hall hl h0 h15) fun σ H Q ⟨μ, O, env, S, R, h⟩ p hp => h2 _ _ _ (disp_run R hp h fun ps vs S1 H1 μ1 f1 s1 hn hp1 l k => ?_)
  by_cases hlen : ks.length = ps.length
  · rw [if_pos hlen] at k
    have hv : ks.length = vs.length := by rw [l.length]; exact hlen
    refine ⟨hp1, ks.zip vs, zip_kv ks vs, by rw [zip_len hv]; exact hk15, ?_⟩
    rw [merge_new (ks.zip vs) [] (by rw [zip_fst ks vs hv]; exact hnd), List.nil_append]
    obtain ⟨v1, s2, v2⟩ := unhide (u := .dK (ks.zip vs)) s1 hn rfl
    exact k _ _ _ (fr_fix hp f1) s2 (.kept (.dct v2 hv (RpL.mono v1 (Pre.refl _) _ _ l)))
  · rw [if_neg hlen] at k
    exact k.elim
theorem pf_dct0 : PF G X W b (.Dict [] [] pos) (rC (.dct [] [])) :=
  pe_imp pe_dnewK fun σ H Q ⟨μ, O, env, S, R, h⟩ p hp => h.new R hp fun f => .kept (.dct (xs := []) (new_view R hp rfl) rfl .nil)
/-- a new cell of the store -/
def rCell (ks : List Key) (rs : RA) : RE := fun env => M.bind (rs env) fun ps S => if ks.length = ps.length then .ok (.ref S.length) (S ++ [ks.zip ps]) else .stuck
theorem newcell {H2 : Hp} {μ2 : List Addr} {p : Addr} {kvs : List (Key × V)} {c : Cell} {S2 : Store} (s : StoR G μ2 H2 (p :: Ow.ad O) S2) (hn : p ∉ Ow.ad O) (hc : CellR G μ2 (view H2 (μ2 ++ (p :: Ow.ad O))) kvs c) :
    StoR G (μ2 ++ [p]) (upd H2 p (.dK kvs)) (Ow.ad O) (S2 ++ [c]) ∧ (μ2 ++ [p])[S2.length]? = some p ∧ Pre μ2 (μ2 ++ [p]) := by
  obtain ⟨np, u0, hp, ht⟩ := s.hid p List.mem_cons_self
  have pr : Pre μ2 (μ2 ++ [p]) := fun n a e => by
    rw [List.getElem?_append_left (List.getElem?_eq_some_iff.mp e).1]; exact e
  have vs : Same (view H2 (μ2 ++ (p :: Ow.ad O))) (view (upd H2 p (.dK kvs)) ((μ2 ++ [p]) ++ Ow.ad O)) := fun a o e => by
    obtain ⟨h1, h2, h3⟩ := view_some e
    have na : a ≠ p := fun z => h2 (List.mem_append_right _ (by rw [z]; exact List.mem_cons_self))
    refine view_of (by rw [upd_ne na]; exact h1) (fun z => h2 ?_) h3
    rw [List.append_assoc] at z
    exact z
  have at_end : (μ2 ++ [p])[S2.length]? = some p := by
    rw [← s.len, List.getElem?_append_right (Nat.le_refl _)]
    simp
  refine ⟨⟨by simp [s.len], ?_, fun j d e => ?_, fun a h => ?_, ?_⟩, at_end, pr⟩
  · rw [List.nodup_append]
    exact ⟨s.nd, by simp, fun a ha b hb => by
      have : b = p := by simpa using hb
      rw [this]; intro z; exact np (by rw [← z]; exact ha)⟩
  · by_cases hj : j < S2.length
    · rw [List.getElem?_append_left hj] at e
      obtain ⟨a, kv, h1, h2, h4⟩ := s.cell j d e
      have na : a ≠ p := fun z => np (by rw [← z]; exact List.mem_of_getElem? h1)
      exact ⟨a, kv, pr _ _ h1, by rw [upd_ne na]; exact h2, h4.mono vs pr⟩
    · have ej : j = S2.length := by
        have := (List.getElem?_eq_some_iff.mp e).1
        simp at this; omega
      subst ej
      rw [List.getElem?_append_right (Nat.le_refl _)] at e
      simp at e
      subst e
      exact ⟨p, kvs, at_end, upd_same, hc.mono vs pr⟩
  · obtain ⟨h1, u2, h2, h3⟩ := s.hid a (List.mem_cons_of_mem _ h)
    have na : a ≠ p := fun z => hn (by rw [← z]; exact h)
    refine ⟨fun z => ?_, u2, by rw [upd_ne na]; exact h2, h3⟩
    rcases List.mem_append.mp z with z | z
    · exact h1 z
    · exact na (by simpa using z)
  · intro q hq
    obtain ⟨ps, h1, h2, h3⟩ := s.tabs q hq
    have na : q.1 ≠ p := fun z => by
      rw [z, hp] at h1
      cases h1
      cases ht
    refine ⟨ps, by rw [upd_ne na]; exact h1, h2, fun pos cv hc => ?_⟩
    obtain ⟨c, e1, e2⟩ := h3 pos cv hc
    refine ⟨c, e1, ?_⟩
    have nc : c ≠ p := fun z => by
      rw [z, hp] at e2
      cases e2
      cases ht
    rw [upd_ne nc]
    exact e2
theorem fr_more {H H1 : Hp} {μ μ1 : List Addr} {p : Addr} (f : Fr H μ H1 μ1) (hp : H p = none) : Fr H μ H1 (μ1 ++ [p]) where
  keep := f.keep
  pre := fun n a e => by
    have := f.pre n a e
    rw [List.getElem?_append_left (List.getElem?_eq_some_iff.mp this).1]; exact this
  new := fun a h n => by
    rcases List.mem_append.mp h with z | z
    · exact f.new a z n
    · have : a = p := by simpa using z
      rw [this]; exact hp
  there := f.there
theorem pf_cell {keys : List (Option Expr)} {values : List Expr} {ks : List Key} (h : PFP G X W pos keys values ks rs) (hall : keys.all (·.isSome) = true := by rfl) (hl : keys.length = values.length := by rfl) (h0 : keys ≠ [] := by intro z; cases z) (h15 : keys.length ≤ 15 := by decide) (hk15 : ks.length ≤ 15 := by decide) (hnd : ks.Nodup := by decide) :
    PF G X W b (.Dict keys values pos) (rCell ks rs) := by
  obtain ⟨trs, h1, h2⟩ := h.ex
  refine pe_imp (pe_disp h1 hall hl h0 h15) fun σ H Q ⟨μ, O, env, S, R, h⟩ p hp => h2 _ _ _ (disp_run R hp h fun ps vs S1 H1 μ1 f1 s1 hn hp1 l k => ?_)
  by_cases hlen : ks.length = ps.length
  · rw [if_pos hlen] at k
    have hv : ks.length = vs.length := by rw [l.length]; exact hlen
    refine ⟨hp1, ks.zip vs, zip_kv ks vs, by rw [zip_len hv]; exact hk15, ?_⟩
    rw [merge_new (ks.zip vs) [] (by rw [zip_fst ks vs hv]; exact hnd), List.nil_append]
    obtain ⟨s2, e2, pr⟩ := newcell s1 hn (cellR_of hv l)
    exact k _ _ _ (fr_more (fr_fix hp f1) hp) s2 (.kept (.ref e2))
  · rw [if_neg hlen] at k
    exact k.elim
/-- {} as a cell -/
def rCell0 : RE := fun _ S => .ok (.ref S.length) (S ++ [[]])
theorem pf_cell0 : PF G X W b (.Dict [] [] pos) rCell0 :=
  pe_imp pe_dnewK fun σ H Q ⟨μ, O, env, S, R, h⟩ p hp => by
    obtain ⟨v0, R2⟩ := R.hide (i := dz) (o := .dK []) hp rfl
    have hn : p ∉ Ow.ad O := fun z => R.tracked p (List.mem_append_right _ z) hp
    obtain ⟨s2, e2, pr⟩ := newcell (c := []) (kvs := []) R2.sto hn .nil
    have eu : upd (upd H p (.dK [])) p (.dK []) = upd H p (.dK []) := by
      funext a
      by_cases z : a = p
      · rw [z, upd_same, upd_same]
      · rw [upd_ne z]
    rw [eu] at s2
    exact h _ _ _ (fr_more (Fr.laid hp) hp) s2 (.kept (.ref e2))

/-! ### repr -/
def keyD : Key → PyData
  | .inl i => .int i
  | .inr x => .str x
mutual
def toR : PV → Option PyData
  | .non => some .none
  | .bl b => some (.bool b)
  | .int i => some (.int i)
  | .str x => some (.str x)
  | .tup xs => (toRs xs).map .tuple
  | .lst xs => (toRs xs).map .list
  | .dct ks xs => if ks.length = xs.length then (toRs xs).map fun ds => .dict ((ks.map keyD).zip ds) else none
  | _ => none
def toRs : List PV → Option (List PyData)
  | [] => some []
  | x :: xs => match toR x, toRs xs with
    | some d, some ds => some (d :: ds)
    | _, _ => none
end
theorem toRs_len : ∀ {xs : List PV} {ds : List PyData}, toRs xs = some ds → xs.length = ds.length
  | [], ds, h => by unfold toRs at h; cases h; rfl
  | x :: xs, ds, h => by
    unfold toRs at h
    cases e1 : toR x with
    | none => rw [e1] at h; cases h
    | some d =>
      cases e2 : toRs xs with
      | none => rw [e1, e2] at h; cases h
      | some es =>
        rw [e1, e2] at h
        cases h
        rw [List.length_cons, List.length_cons, toRs_len e2]
theorem keys_read {P : Program} {w : World} {h : Heap} : ∀ {es : List DictEntry} {kvs : List (Key × Value)}, Pairs (mixKind P w) es kvs → ReadsAll h (es.map (·.key)) (kvs.map fun kv => keyD kv.1) []
  | _, _, .nil => .nil
  | _, _, .cons (e := e) (kv := kv) h1 h2 l => by
    rw [List.map_cons, List.map_cons]
    refine ReadsAll.cons (as := []) (bs := []) ?_ (keys_read l)
    rcases keyIs_shape h1 with ⟨i, t, e1, e2⟩ | ⟨x, t, e1, e2⟩
    · rw [e1, e2]; exact .int i t
    · rw [e1, e2]; exact .str x t
theorem vals_of {P : Program} {w : World} : ∀ {es : List DictEntry} {kvs : List (Key × Value)}, Pairs (mixKind P w) es kvs → es.map (·.val) = kvs.map (·.2)
  | _, _, .nil => rfl
  | _, _, .cons h1 h2 l => by rw [List.map_cons, List.map_cons, h2, vals_of l]
theorem kv_keys : ∀ {kvs : List (Key × V)} {vs : List (Key × Value)}, KV kvs vs → kvs.map (·.1) = vs.map (·.1) ∧ Vals (kvs.map (·.2)) (vs.map (·.2))
  | _, _, .nil => ⟨rfl, .nil⟩
  | _, _, .cons h t => by
    obtain ⟨e1, e2⟩ := kv_keys t
    exact ⟨by rw [List.map_cons, List.map_cons, e1, h.1], .cons h.2 e2⟩
/-- what stands for a plain value is read; what it holds of lists and dicts is not sys.modules -/
def NoSys (X : Cx) : Prop := ∃ o, X.base.get? sysModules = some o
section
variable {pins : List (Addr × Obj)} {s : Shared} {L : List Addr}
theorem nosys_at (hs : NoSys X) (I : Inv X pins σ H s) {a : Addr} {o : HO} (h : view H L a = some o) : a ≠ sysModules := fun z => by
  obtain ⟨o', ho⟩ := hs
  have h2 := (I.bs _ _ ho).2
  have h1 := (view_some h).1
  rw [z, h2] at h1
  cases h1
mutual
theorem r_reads (hK : G.K = X.K) (I : Inv X pins σ H s) : ∀ (p : PV) (v : V) (u : Value) (d : PyData), Rp G μ (view H L) v p → toR p = some d → RelV v u → ∃ as, Reads s.heap u d as ∧ (NoSys X → sysModules ∉ as)
  | .non, _, u, d, .non, e, r => by unfold toR at e; cases e; cases r; exact ⟨_, Reads.none, fun _ => by simp⟩
  | .bl b, _, u, d, .bl _, e, r => by unfold toR at e; cases e; cases r; exact ⟨_, Reads.bool b, fun _ => by simp⟩
  | .int i, _, u, d, .int _, e, r => by unfold toR at e; cases e; obtain ⟨t, rfl⟩ := r; exact ⟨_, Reads.int i t, fun _ => by simp⟩
  | .str x, _, u, d, .str _, e, r => by unfold toR at e; cases e; obtain ⟨t, rfl⟩ := r; exact ⟨_, Reads.str x t, fun _ => by simp⟩
  | .tup ps, _, u, d, .tup h l, e, r => by
    unfold toR at e
    obtain ⟨ds, e1, e2⟩ := Option.map_eq_some_iff.mp e
    subst e2
    cases r
    have h' := same_sqT (view_sub _ _) h
    rw [hK] at h'
    obtain ⟨its, rv, ⟨o, ho, hc, n, hd⟩, _⟩ := I.tuple h'
    obtain ⟨as, hr, hn⟩ := rs_reads hK I ps _ its ds l e1 rv
    exact ⟨_, Reads.tuple ho hc hd hr, hn⟩
  | .lst ps, _, u, d, .lst h l, e, r => by
    unfold toR at e
    obtain ⟨ds, e1, e2⟩ := Option.map_eq_some_iff.mp e
    subst e2
    cases r
    obtain ⟨its, rv, ⟨o, n, ho, hc, _, hd⟩, _⟩ := I.list (SqL.of (K := X.K) (view_some h).1)
    obtain ⟨as, hr, hn⟩ := rs_reads hK I ps _ its ds l e1 rv
    exact ⟨_, Reads.list ho hc hd hr, fun hs => by
      intro z
      rcases List.mem_cons.mp z with z | z
      · exact nosys_at hs I h z.symm
      · exact hn hs z⟩
  | .dct ks ps, _, u, d, .dct (xs := xs) h z l, e, r => by
    unfold toR at e
    by_cases hl : ks.length = ps.length
    · rw [if_pos hl] at e
      obtain ⟨ds, e1, e2⟩ := Option.map_eq_some_iff.mp e
      subst e2
      cases r
      obtain ⟨_, _, vs, rel, o, es, ep, ho, hx, hd, hk, hp, hnd⟩ := dk_of I.hok (view_some h).1
      obtain ⟨k1, k2⟩ := kv_keys rel
      rw [zip_fst ks xs z] at k1
      rw [zip_snd ks xs z] at k2
      obtain ⟨as, hr, hn⟩ := rs_reads hK I ps _ _ ds l e1 k2
      have hdl := toRs_len e1
      have ek : (vs.map fun kv => keyD kv.1) = ks.map keyD := by
        rw [k1, List.map_map]; rfl
      have r1 := keys_read (h := s.heap) hp
      rw [ek] at r1
      rw [← vals_of hp] at hr
      refine ⟨_, Reads.dict (kvs := (ks.map keyD).zip ds) ho hx.1 hd (by rw [zip_fst _ _ (by rw [List.length_map, hl, hdl])]; exact r1) (by rw [zip_snd _ _ (by rw [List.length_map, hl, hdl])]; exact hr), fun hs => ?_⟩
      intro y
      rw [List.cons_append, List.nil_append] at y
      rcases List.mem_cons.mp y with y | y
      · exact nosys_at hs I h y.symm
      · exact hn hs y
    · rw [if_neg hl] at e
      cases e
theorem rs_reads (hK : G.K = X.K) (I : Inv X pins σ H s) : ∀ (ps : List PV) (vs : List V) (us : List Value) (ds : List PyData), RpL G μ (view H L) vs ps → toRs ps = some ds → Vals vs us → ∃ as, ReadsAll s.heap us ds as ∧ (NoSys X → sysModules ∉ as)
  | [], _, us, ds, .nil, e, r => by unfold toRs at e; cases e; cases r; exact ⟨_, ReadsAll.nil, fun _ => by simp⟩
  | p :: ps, _, us, ds, .cons h l, e, r => by
    unfold toRs at e
    cases e1 : toR p with
    | none => rw [e1] at e; cases e
    | some d =>
      cases e2 : toRs ps with
      | none => rw [e1, e2] at e; cases e
      | some es =>
        rw [e1, e2] at e
        cases e
        cases r with
        | cons r1 r2 =>
          obtain ⟨as, q1, n1⟩ := r_reads hK I p _ _ d h e1 r1
          obtain ⟨bs, q2, n2⟩ := rs_reads hK I ps _ _ es l e2 r2
          exact ⟨_, ReadsAll.cons q1 q2, fun hs z => (List.mem_append.mp z).elim (n1 hs) (n2 hs)⟩
end
end
/-- sy: sys.modules is known to stand apart -/
def reprPV (sy : Bool) (p : PV) : Option Str := match toR p with
  | some d => if d.showable = true ∧ (d.hasDict = true → sy = true) ∧ d.depth ≤ 60 ∧ d.shown.length ≤ sizeLine then some d.shown else none
  | none => none
def opRepr (sy : Bool) (p : PV) : M PV := match reprPV sy p with
  | some x => M.ret (.str x)
  | none => M.stuck
def rRepr (sy : Bool) (ra : RE) : RE := fun env => M.bind (ra env) (opRepr sy)
/-- what a plain value's text is -/
def rReprR (G : Cfg) (sy : Bool) : List V → Hp → VK → Prop := fun xs H Q => ∃ (x : V) (p : PV) (d : PyData) (L μ : List Addr), xs = [x] ∧ Rp G μ (view H L) x p ∧ toR p = some d ∧ d.showable = true ∧ (d.hasDict = true → sy = true) ∧ d.depth ≤ 60 ∧ d.shown.length ≤ sizeLine ∧ Q (.str d.shown) H
theorem call_reprV {sy : Bool} (hK : G.K = X.K) (hgd : X.A.guards = some []) (hu : X.A.units + 64 < cLine) (hs : sy = true → NoSys X) : CallR X (.builtin "repr") (rReprR G sy) := by
  intro pins s σ H xs us Q I r h
  obtain ⟨x, p, d, L, μ, rfl, rp, e, hsh, hd, hdp, hz, q⟩ := h
  cases r with
  | cons r rr =>
    cases rr
    rename_i u
    obtain ⟨as, rd, hn⟩ := r_reads hK I p x u d rp e r
    cases rd with
    | none => exact PySem.P.repr_of_none ⟨.str _, H, I.tok _, ⟨_, rfl⟩, q⟩
    | bool b => exact PySem.P.repr_of_bool ⟨.str _, H, I.tok _, ⟨_, rfl⟩, q⟩
    | int i t => exact PySem.P.repr_of_int (by simpa [PyData.showable] using hsh) ⟨.str _, H, I.tok _, ⟨_, rfl⟩, q⟩
    | str y t => exact PySem.P.repr_of_str ⟨.str _, H, I.tok _, ⟨_, rfl⟩, q⟩ hz
    | list h1 h2 h3 h4 => exact repr_of_reads' (.list h1 h2 h3 h4) hsh (fun z => hn (hs (hd z))) hgd (by omega) (fun _ _ e => e) (fun h' u' tk hk => ⟨.str _, H, I.kept (t' := tk) hk, ⟨_, rfl⟩, q⟩) hz
    | tuple h1 h2 h3 h4 => exact repr_of_reads' (.tuple h1 h2 h3 h4) hsh (fun z => hn (hs (hd z))) hgd (by omega) (fun _ _ e => e) (fun h' u' tk hk => ⟨.str _, H, I.kept (t' := tk) hk, ⟨_, rfl⟩, q⟩) hz
    | dict h1 h2 h3 h4 h5 => exact repr_of_reads' (.dict h1 h2 h3 h4 h5) hsh (fun z => hn (hs (hd z))) hgd (by omega) (fun _ _ e => e) (fun h' u' tk hk => ⟨.str _, H, I.kept (t' := tk) hk, ⟨_, rfl⟩, q⟩) hz
theorem reprPV_some {sy : Bool} {p : PV} {x : Str} (h : reprPV sy p = some x) : ∃ d, toR p = some d ∧ d.showable = true ∧ (d.hasDict = true → sy = true) ∧ d.depth ≤ 60 ∧ d.shown.length ≤ sizeLine ∧ x = d.shown := by
  unfold reprPV at h
  split at h
  · rename_i d e
    split at h
    · rename_i hc
      cases h
      exact ⟨d, e, hc.1, hc.2.1, hc.2.2.1, hc.2.2.2, rfl⟩
    · cases h
  · cases h
theorem pf_repr {sy : Bool} (hK : G.K = X.K) (hgd : X.A.guards = some []) (hu : X.A.units + 64 < cLine) (hs : sy = true → NoSys X) (hg : Gl X "repr") (hm : X.mg "repr" = none) (ha : PF G X W false e1 ra)
    (he : starEach (e1 :: []) X.env = (false, eval e1 X.env) :: starEach [] X.env := by rfl) (hpl : (backTo pos (starEach [] X.env)).any (·.1) = false := by rfl) : PF G X W b (.Call (.Name "repr" p0) [e1] [] pos) (rRepr sy ra) :=
  pe_imp (pe_callB (call_reprV hK hgd hu hs) hg hm (by decide +kernel) (pa_one ha he) (by decide) (by decide) he hpl) fun σ H Q ⟨μ, O, env, S, R, h⟩ => bindE R h fun p v S1 H1 μ1 f1 R1 rp h1 => by
    unfold opRepr at h1
    cases e : reprPV sy p with
    | none => rw [e] at h1; exact h1.elim
    | some x =>
      rw [e] at h1
      obtain ⟨d, e1, c1, c2, c3, c4, rfl⟩ := reprPV_some e
      exact ⟨v, p, d, _, μ1, rfl, rp.keep, e1, c1, c2, c3, c4, h1.now R1 (.kept (.str _))⟩
end
end Fx

/-! FxK: own errors: made, raised, caught. -/
namespace Fx
open PySem PySem.Spec PyProof.Rows L2

/-! ### an __init__ that keeps its arguments -/
/-- it stores its arguments as the fields fs, in this order -/
def spIni (C : Addr) (fs : List Str) : Sp := fun vs H Q _ => ∃ (a : Addr) (ys : List V), vs = .ref a :: ys ∧ ys.length = fs.length ∧ H a = some (exo a C none) ∧
  ∀ (H' : Hp) (d : Addr), H d = none → d ≠ a → H' a = some (exo a C (some d)) → H' d = some (exd d (fs.zip ys).reverse) → (∀ b, b ≠ a → b ≠ d → H' b = H b) → Q .non H'
theorem spIni.len {C : Addr} {fs : List Str} {vs : List V} {H : Hp} {Q : VK} {E : XK} (h : spIni C fs vs H Q E) : vs.length = fs.length + 1 := by
  obtain ⟨a, ys, rfl, e, _⟩ := h
  rw [List.length_cons, e]
section
variable {K : PySem.W.Frag} {C : Addr} {vs : List V} {H : Hp} {Q : VK} {E : XK}
theorem two_ne {a d : Addr} {o u : HO} (hd : d ≠ a) : upd (upd H d o) a u d = some o := by rw [upd_ne hd, upd_same]
theorem pure_ini1 {N : List Str} {f1 : Str} (hN : N.length = 2) (T : OexC K C) (h1 : PySem.W.findIn K (.ref C) f1 = some none) (h : spIni C [f1] vs H Q E) : tOst K f1 (tVar 0) (tVar 1) { nx := fun _ H' => Q .non H', rt := Q } (L2.start N vs) H := by
  obtain ⟨a, ys, rfl, e, ha, k⟩ := h
  match ys, e with
  | [y1], _ =>
    match N, hN with
    | [_, _], _ =>
      refine ⟨y1, rfl, .ref a, rfl, a, C, rfl, T, h1, .inl ⟨ha, fun dx hd hn => k _ dx hd hn upd_same (two_ne hn) fun b h2 h3 => ?_⟩⟩
      rw [upd_ne h2, upd_ne h3]
theorem pure_ini2 {N : List Str} {f1 f2 : Str} (hN : N.length = 3) (T : OexC K C) (h1 : PySem.W.findIn K (.ref C) f1 = some none) (h2 : PySem.W.findIn K (.ref C) f2 = some none) (h : spIni C [f1, f2] vs H Q E) :
    tSeq (tOst K f1 (tVar 0) (tVar 1)) (tOst K f2 (tVar 0) (tVar 2)) { nx := fun _ H' => Q .non H', rt := Q } (L2.start N vs) H := by
  obtain ⟨a, ys, rfl, e, ha, k⟩ := h
  match ys, e with
  | [y1, y2], _ =>
    match N, hN with
    | [_, _, _], _ =>
      refine ⟨y1, rfl, .ref a, rfl, a, C, rfl, T, h1, .inl ⟨ha, fun dx hd hn => ?_⟩⟩
      refine ⟨y2, rfl, .ref a, rfl, a, C, rfl, T, h2, .inr ⟨dx, _, upd_same, two_ne hn, by simp, k _ dx hd hn ?_ upd_same fun b h2 h3 => ?_⟩⟩
      · rw [upd_ne (Ne.symm hn), upd_same]
      · rw [upd_ne h3, upd_ne h2, upd_ne h3]
theorem pure_ini3 {N : List Str} {f1 f2 f3 : Str} (hN : N.length = 4) (T : OexC K C) (h1 : PySem.W.findIn K (.ref C) f1 = some none) (h2 : PySem.W.findIn K (.ref C) f2 = some none) (h3 : PySem.W.findIn K (.ref C) f3 = some none) (h : spIni C [f1, f2, f3] vs H Q E) :
    tSeq (tOst K f1 (tVar 0) (tVar 1)) (tSeq (tOst K f2 (tVar 0) (tVar 2)) (tOst K f3 (tVar 0) (tVar 3))) { nx := fun _ H' => Q .non H', rt := Q } (L2.start N vs) H := by
  obtain ⟨a, ys, rfl, e, ha, k⟩ := h
  match ys, e with
  | [y1, y2, y3], _ =>
    match N, hN with
    | [_, _, _, _], _ =>
      refine ⟨y1, rfl, .ref a, rfl, a, C, rfl, T, h1, .inl ⟨ha, fun dx hd hn => ?_⟩⟩
      refine ⟨y2, rfl, .ref a, rfl, a, C, rfl, T, h2, .inr ⟨dx, _, upd_same, two_ne hn, by simp, ?_⟩⟩
      refine ⟨y3, rfl, .ref a, rfl, a, C, rfl, T, h3, .inr ⟨dx, _, ?_, upd_same, by simp, k _ dx hd hn ?_ upd_same fun b h2 h3 => ?_⟩⟩
      · rw [upd_ne (Ne.symm hn), upd_same]
      · first | (rw [upd_ne (Ne.symm hn), upd_ne (Ne.symm hn), upd_same]) | (rw [upd_ne (Ne.symm hn), upd_same])
      · rw [upd_ne h3, upd_ne h3, upd_ne h2, upd_ne h3]
end

/-! ### raise -/
def sRaise (c : Nat) (fs : List Str) (rs : RA) : RS := sBind rs fun ps env S => if ps.length = fs.length ∧ ps.length ≤ 1000 then .exc c fs.reverse ps.reverse env S else .stuck
def sRaise0 (c : Nat) : RS := fun env S => .exc c [] [] env S
theorem reverse_zip' {α β : Type} {xs : List α} {ys : List β} (h : xs.length = ys.length) : (xs.zip ys).reverse = xs.reverse.zip ys.reverse := by
  show (List.zipWith Prod.mk xs ys).reverse = List.zipWith Prod.mk xs.reverse ys.reverse
  exact List.reverse_zipWith h
theorem passes0 {X : Cx} : Passes (L2.CX X.prog X.w) X (fun _ _ _ => False) := fun _ _ _ _ _ _ _ c => by
  obtain ⟨_, _, _, _, _, _, _, _, _, _, _, _, z⟩ := c
  exact z.elim
section
variable {G : Cfg} {X : Cx} {W : WX} {H H1 : Hp} {μ μ1 : List Addr} {O : Ow} {σ : L2.St} {env : En} {S : Store} {e : Expr} {es : List Expr} {rs : RA} {pos pos2 p : Pos} {x : Str} {c : Nat} {fI : Addr} {fd : FuncData} {ps fs : List Str}
theorem pfs_raise (hc : X.calm = true) (tk : Takes X W) (T : OexC X.K (G.ca c)) (iC : PySem.W.findIn X.K (.ref (G.ca c)) "__init__" = some (some (.ref fI))) (tI : PySem.W.typeIn X.K (.ref fI) = some (.type "function"))
    (F1 : FnOk X.prog X.w X.K X.mg X.base (L2.CX X.prog X.w) 1 fI fd ps (spIni (G.ca c) fs)) (hr : Room 2 X.A) (hb : Binds X.K fd ps []) (hg : Gl X x) (hm : X.mg x = some (.ref (G.ca c))) (ha : PFA G X W (e :: es) rs)
    (hdb : (x == ("__debug__" : Str)) = false := by decide) (he : starEach (e :: es) X.env = (false, eval e X.env) :: starEach es X.env := by rfl) (hpl : (backTo pos (starEach es X.env)).any (·.1) = false := by rfl) :
    PFS G X W (.Raise (some (.Call (.Name x p) (e :: es) [] pos)) none pos2) (sRaise c fs rs) :=
  ps_imp (ps_raise hc tk (pmk_oex T iC tI F1 hr hb (.nil) passes0 hg hm ha hdb he hpl)) fun D σ H ⟨μ, O, env, S, R, h⟩ =>
    ⟨μ, O, env, S, R, sbind_exc R h fun ps vs S1 H1 μ1 f R1 rp h1 => by
      have rp : RpL G μ1 (view H1 (μ1 ++ Ow.ad O)) vs ps := rp
      by_cases hl : ps.length = fs.length ∧ ps.length ≤ 1000
      · rw [if_pos hl] at h1
        have ev := rp.length
        refine ⟨by rw [ev]; exact hl.2, fun a ha => ⟨a, vs ++ [], rfl, by rw [List.append_nil, ev]; exact hl.1, upd_same, fun H' d hd dne e1 e2 e3 => ?_⟩⟩
        rw [upd_ne dne] at hd
        refine ⟨rfl, d, _, e1, e2, hd, ?_⟩
        have eh : upd (del H' a) d (.xd (fs.zip (vs ++ [])).reverse) = upd H1 d (.xd (fs.reverse.zip vs.reverse)) := by
          rw [List.append_nil, reverse_zip' (by rw [ev]; exact hl.1.symm)]
          funext b
          by_cases hbd : b = d
          · rw [hbd, upd_same, upd_same]
          · rw [upd_ne hbd, upd_ne hbd]
            by_cases hba : b = a
            · rw [hba, del_same, ha]
            · rw [del_ne hba, e3 b hba hbd, upd_ne hba]
        rw [eh]
        refine h1 _ σ _ μ1 O (sfr_of R1 (Fr.laid hd)) (R1.new hd) (.some (new_view R1 hd rfl) ?_ (RpL.mono (Fr.laid hd).view (Pre.refl _) _ _ rp.rev))
        rw [List.length_reverse, List.length_reverse, ev]; exact hl.1.symm
      · rw [if_neg hl] at h1
        exact h1.elim⟩
/-- X() of a class without an own __init__ -/
theorem pmk_own0 {C : Addr} {bmB : List Value} {B newId initId : String} (F : ExcBaseFacts B newId initId bmB) (q : PySem.W.excIn X.K C bmB newId = true) (gC : X.mg x = some (.ref C)) (kC : PySem.W.keepIn X.K (.ref C) = true) (r : Raises X (.ref C)) (hg : Gl X x)
    (hdb : (x == ("__debug__" : Str)) = false := by decide) : PMk X (.Call (.Name x p) [] [] pos) (fun _ H Q => Q (.ref C) none H) := by
  intro pins s σ H Q I h
  refine wpAny_Call_Name_kw (ld_glob I hg gC ?_ hdb)
  refine PySem.W.callWith_K0 I.kIn kC ?_
  show wpAny _ _ (call (.ref C) []) _ _ _
  obtain ⟨bm, N, nm, qn, bs, hdct, sn, sub, ab, col, dd, k0, k1, k2, k3, k5, mN, hC, hN, hni, T⟩ := exc_obj I.kIn q
  refine wpAny_call_exc_subT F T hC hN hni (fun h' e hm => ?_) (by show 0 ≤ sizeLine; exact Nat.zero_le _)
  exact mk_of I hm r h (I.hok.gone hm.new)
theorem pfs_raise0 {bmB : List Value} {B newId initId : String} (hc : X.calm = true) (tk : Takes X W) (F : ExcBaseFacts B newId initId bmB) (q : PySem.W.excIn X.K (G.ca c) bmB newId = true) (gC : X.mg x = some (.ref (G.ca c))) (kC : PySem.W.keepIn X.K (.ref (G.ca c)) = true)
    (h1 : PySem.W.subIn X.K (.ref (G.ca c)) (.type "BaseException") = some true) (h2 : PySem.W.typeIn X.K (.ref (G.ca c)) = some (.type "type")) (hg : Gl X x) (hdb : (x == ("__debug__" : Str)) = false := by decide) :
    PFS G X W (.Raise (some (.Call (.Name x p) [] [] pos)) none pos2) (sRaise0 c) :=
  ps_imp (ps_raise hc tk (pmk_own0 F q gC kC (raises_own h1 h2) hg hdb)) fun D σ H ⟨μ, O, env, S, R, h⟩ => h none σ H μ O (Sfr.refl _ _ _) R .none

/-! ### another pinned exception -/
section
variable {G G' : Cfg} {μ : List Addr} {H : Hp}
mutual
theorem Rp.cfg (hK : G.K = G'.K) (hc : G.ca = G'.ca) (hf : G.fa = G'.fa) : ∀ (p : PV) (v : V), Rp G μ H v p → Rp G' μ H v p
  | _, _, .non => .non
  | _, _, .bl b => .bl b
  | _, _, .int i => .int i
  | _, _, .str x => .str x
  | _, _, .tup h l => .tup (by rw [← hK]; exact h) (RpL.cfg hK hc hf _ _ l)
  | _, _, .lst h l => .lst h (RpL.cfg hK hc hf _ _ l)
  | _, _, .scr h => .scr (by rw [← hK]; exact h)
  | _, _, .dct h z l => .dct h z (RpL.cfg hK hc hf _ _ l)
  | _, _, .ins h z l => .ins (by rw [← hc]; exact h) z (RpL.cfg hK hc hf _ _ l)
  | _, _, .ref h => .ref h
  | _, _, .fn n => by rw [hf]; exact .fn n
theorem RpL.cfg (hK : G.K = G'.K) (hc : G.ca = G'.ca) (hf : G.fa = G'.fa) : ∀ (ps : List PV) (vs : List V), RpL G μ H vs ps → RpL G' μ H vs ps
  | _, _, .nil => .nil
  | _, _, .cons h l => .cons (Rp.cfg hK hc hf _ _ h) (RpL.cfg hK hc hf _ _ l)
end
theorem ExcR.cfg (hK : G.K = G'.K) (hc : G.ca = G'.ca) (hf : G.fa = G'.fa) {d : Option Addr} {ns : List Str} {ps : List PV} (h : ExcR G μ H d ns ps) : ExcR G' μ H d ns ps := by
  cases h with
  | none => exact .none
  | some a b l => exact .some a b (RpL.cfg hK hc hf _ _ l)
theorem CellR.cfg (hK : G.K = G'.K) (hc : G.ca = G'.ca) (hf : G.fa = G'.fa) {kvs : List (Key × V)} {c : Cell} (h : CellR G μ H kvs c) : CellR G' μ H kvs c := by
  induction h with
  | nil => exact .nil
  | cons a l ih => exact .cons (Rp.cfg hK hc hf _ _ a) ih
theorem StoR.cfg (hK : G.K = G'.K) (hc : G.ca = G'.ca) (hf : G.fa = G'.fa) (hT : G.T = G'.T) {Z : List Addr} {S : Store} (s : StoR G μ H Z S) : StoR G' μ H Z S :=
  ⟨s.len, s.nd, fun i c e => let ⟨a, kvs, h1, h2, h4⟩ := s.cell i c e; ⟨a, kvs, h1, h2, h4.cfg hK hc hf⟩, s.hid, by rw [← hT]; exact s.tabs⟩
end
abbrev Cfg.at (G : Cfg) (x : Addr × Obj) : Cfg := { G with px := some x }
def slotOk : Slot → Bool
  | .exc _ _ _ => false
  | _ => true
/-- no slot holds an exception -/
def clean (env : En) : Bool := env.all slotOk
theorem Rel.toX {y : Addr × Obj} (R : Rel G H μ O σ env S) (hp : G.px = none) : Rel (G.at y) H μ O σ env S where
  sto := R.sto.cfg (G := G) (G' := G.at y) rfl rfl rfl rfl
  env := ⟨R.env.len, fun i s e => by
    obtain ⟨v, h1, h2⟩ := R.env.slot i s e
    refine ⟨v, h1, ?_⟩
    cases h2 with
    | no => exact .no _
    | val h => exact .val (Rp.cfg (G := G) (G' := G.at y) rfl rfl rfl _ _ h)
    | exc q z h => rw [hp] at q; cases q
    | own h k l => exact .own h k (RpL.cfg (G := G) (G' := G.at y) rfl rfl rfl _ _ l), R.env.inj⟩
theorem Rel.ofX {y : Addr × Obj} (R : Rel (G.at y) H μ O σ env S) (hc : clean env = true) : Rel G H μ O σ env S where
  sto := R.sto.cfg (G := G.at y) (G' := G) rfl rfl rfl rfl
  env := ⟨R.env.len, fun i s e => by
    obtain ⟨v, h1, h2⟩ := R.env.slot i s e
    refine ⟨v, h1, ?_⟩
    cases h2 with
    | no => exact .no _
    | val h => exact .val (Rp.cfg (G := G.at y) (G' := G) rfl rfl rfl _ _ h)
    | exc q z h =>
      have := List.all_eq_true.mp hc _ (List.mem_of_getElem? e)
      cases this
    | own h k l => exact .own h k (RpL.cfg (G := G.at y) (G' := G) rfl rfl rfl _ _ l), R.env.inj⟩
/-- slot i holds the exception -/
theorem Rel.setX {i : Nat} {y : Addr × Obj} {d : Option Addr} {ns : List Str} {qs : List PV} (R : Rel G H μ O σ env S) (hp : G.px = some y) (hz : Zc (.ref (G.ca c)) d y.2) (x : ExcR G μ (view H (μ ++ Ow.ad O)) d ns qs) :
    Rel G H μ O (σ.set i (some (.ref y.1))) (env.set i (.exc c ns qs)) S where
  sto := R.sto
  env := ⟨by rw [List.length_set, List.length_set]; exact R.env.len, fun j s e => by
    by_cases z : j = i
    · subst z
      by_cases hl : j < env.length
      · rw [List.getElem?_set_self hl] at e
        cases e
        exact ⟨_, by rw [List.getElem?_set_self (by rw [← R.env.len]; exact hl)], .exc hp hz x⟩
      · rw [List.getElem?_eq_none (by rw [List.length_set]; omega)] at e
        cases e
    · rw [List.getElem?_set_ne (Ne.symm z)] at e
      obtain ⟨u, h1, h2⟩ := R.env.slot j s e
      exact ⟨u, by rw [List.getElem?_set_ne (Ne.symm z)]; exact h1, h2⟩, R.env.inj⟩
/-- slot i is empty -/
theorem Rel.setNo {i : Nat} {v : Option V} (R : Rel G H μ O σ env S) : Rel G H μ O (σ.set i v) (env.set i .no) S where
  sto := R.sto
  env := ⟨by rw [List.length_set, List.length_set]; exact R.env.len, fun j s e => by
    by_cases z : j = i
    · subst z
      by_cases hl : j < env.length
      · rw [List.getElem?_set_self hl] at e
        cases e
        exact ⟨v, by rw [List.getElem?_set_self (by rw [← R.env.len]; exact hl)], .no _⟩
      · rw [List.getElem?_eq_none (by rw [List.length_set]; omega)] at e
        cases e
    · rw [List.getElem?_set_ne (Ne.symm z)] at e
      obtain ⟨u, h1, h2⟩ := R.env.slot j s e
      exact ⟨u, by rw [List.getElem?_set_ne (Ne.symm z)]; exact h1, h2⟩, R.env.inj⟩
theorem set_nox {i : Nat} {s : Slot} (hs : ∀ xs, s ≠ .own xs) {xs : List PV} : (env.set i s)[i]? ≠ some (.own xs) := by
  by_cases hl : i < env.length
  · rw [List.getElem?_set_self hl]
    intro z; exact hs xs (Option.some.inj z)
  · rw [List.getElem?_eq_none (by rw [List.length_set]; omega)]
    intro z; cases z

/-! ### try: .. except C as n: .. -/
/-- behind the suite: its name goes -/
def endTry (i : Nat) (f : En → Store → SOut) (env : En) (S : Store) : SOut := if clean (env.set i .no) then f (env.set i .no) S else .stuck
def sTry (sub : Nat → Option Bool) (i : Nat) (body suite : RS) : RS := fun env S => match body env S with
  | .exc c ns ps env1 S1 => match sub c with
    | some true => match suite (env1.set i (.exc c ns ps)) S1 with
      | .nx e2 S2 => endTry i .nx e2 S2
      | .bk e2 S2 => endTry i .bk e2 S2
      | .ct e2 S2 => endTry i .ct e2 S2
      | .rt p S2 => .rt p S2
      | _ => .stuck
    | some false => .exc c ns ps env1 S1
    | none => .stuck
  | o => o
theorem pfs_try {sub : Nat → Option Bool} {i : Nat} {x n : Str} {cv : Value} {body suite : List Stmt} {b₀ : Stmt} {np pos pos' : Pos} {rb rs : RS} (hpx : G.px = none) (hs : X.stack = X.env :: X.outer) (hf : X.env.frame = some X.env.locals) (hN : X.N.Nodup) (hi : X.N[i]? = some n) (hln : X.env.kindOf n = some .local)
    (hc : Names X x cv) (tk : Takes X W) (hsub : ∀ c b, sub c = some b → PySem.W.exmOne X.K (.ref (G.ca c)) cv = some b)
    (hb : ∀ (W' : WX) (pn : List (Addr × Obj)) (xe : Value → Shared → Prop), Takes (X.tr pn xe) W' → PassesOwn (model X.prog X.w) X.A X.env xe → PFSs G (X.tr pn xe) W' body rb)
    (hsu : ∀ (a : Addr) (oe : Obj) (pn : List (Addr × Obj)), (∃ vs, oe.data = .fields vs) → PFSs (G.at (a, oe)) (X.suite a ((a, oe) :: pn)) (fun _ _ _ _ => False) (b₀ :: suite) rs) (hz : i ≠ dz := by decide) :
    PFS G X W (.Try body [.ExceptHandler (some (.Name x np)) (some n) (b₀ :: suite) pos'] [] [] pos) (sTry sub i rb rs) := by
  refine ps_imp (ps_try_as (tb := fun W' => rdS G W' rb) (ts := fun a cls d D σ H => ∀ oe, Zc cls d oe → (∃ vs, oe.data = .fields vs) → rdS (G.at (a, oe)) (fun _ _ _ _ => False) rs D σ H) (Wout := W) hs hf hN hi hln hc tk hb
    (fun a oe cls d pn z hfi => pss_imp (hsu a oe pn hfi) fun D σ H h => h oe z hfi)) fun D σ H ⟨μ, O, env, S, R, h⟩ => ⟨μ, O, env, S, R, ?_⟩
  unfold sTry at h
  cases eb : rb env S with
  | nx env1 S1 => rw [eb] at h; exact h
  | bk env1 S1 => rw [eb] at h; exact h
  | ct env1 S1 => rw [eb] at h; exact h
  | rt p S1 => rw [eb] at h; exact h
  | stuck => rw [eb] at h; exact h
  | exc c ns ps env1 S1 =>
    rw [eb] at h
    dsimp only at h
    intro d σ' H' μ' O' f R' x
    cases ec : sub c with
    | none => rw [ec] at h; exact h.elim
    | some b =>
      rw [ec] at h
      refine ⟨b, hsub c b ec, fun hb1 a ha oe hzc hfi => ?_, fun hb0 => ?_⟩
      · subst hb1
        dsimp only at h
        have R2 : Rel (G.at (a, oe)) H' μ' O' (σ'.set i (some (.ref a))) (env1.set i (.exc c ns ps)) S1 := (R'.toX (y := (a, oe)) hpx).setX (y := (a, oe)) rfl hzc (x.cfg (G := G) (G' := G.at (a, oe)) rfl rfl rfl)
        obtain ⟨R3, f3⟩ := R2.lose i hz fun xs => set_nox fun ys q => (by cases q)
        refine ⟨μ', _, _, S1, R3, ?_⟩
        -- behind the suite
        have fin : ∀ {e2 : En} {S2 : Store} {σ2 : L2.St} {H2 : Hp} {μ2 : List Addr} {O2 : Ow}, clean (e2.set i .no) = true → Sfr H' μ' (Ow.without O' i) H2 μ2 O2 → Rel (G.at (a, oe)) H2 μ2 O2 σ2 e2 S2 →
            ∃ O3, Sfr H μ O H2 μ2 O3 ∧ Rel G H2 μ2 O3 (σ2.set i none) (e2.set i .no) S2 := fun {e2 S2 σ2 H2 μ2 O2} hcl fs Rs => by
          obtain ⟨R5, f5⟩ := (Rs.setNo (i := i) (v := none)).lose i hz fun xs => set_nox fun ys q => (by cases q)
          exact ⟨_, (f.trans f3).trans (fs.trans f5), R5.ofX hcl⟩
        cases es : rs (env1.set i (.exc c ns ps)) S1 with
        | nx e2 S2 =>
          rw [es] at h
          dsimp only [endTry] at h
          by_cases hcl : clean (e2.set i .no) = true
          · rw [if_pos hcl] at h
            exact fun σ2 H2 μ2 O2 fs Rs => let ⟨O3, f4, R4⟩ := fin hcl fs Rs; h _ H2 μ2 O3 f4 R4
          · rw [if_neg hcl] at h; exact h.elim
        | bk e2 S2 =>
          rw [es] at h
          dsimp only [endTry] at h
          by_cases hcl : clean (e2.set i .no) = true
          · rw [if_pos hcl] at h
            exact fun σ2 H2 μ2 O2 fs Rs => let ⟨O3, f4, R4⟩ := fin hcl fs Rs; h _ H2 μ2 O3 f4 R4
          · rw [if_neg hcl] at h; exact h.elim
        | ct e2 S2 =>
          rw [es] at h
          dsimp only [endTry] at h
          by_cases hcl : clean (e2.set i .no) = true
          · rw [if_pos hcl] at h
            exact fun σ2 H2 μ2 O2 fs Rs => let ⟨O3, f4, R4⟩ := fin hcl fs Rs; h _ H2 μ2 O3 f4 R4
          · rw [if_neg hcl] at h; exact h.elim
        | rt p S2 =>
          rw [es] at h
          exact fun v H2 μ2 O2 fs st rp => h v H2 μ2 O2 ((f.trans f3).trans fs) (st.cfg (G := G.at (a, oe)) (G' := G) rfl rfl rfl rfl) (Rp.cfg (G := G.at (a, oe)) (G' := G) rfl rfl rfl _ _ rp)
        | exc c2 ns2 ps2 e2 S2 => rw [es] at h; exact h.elim
        | stuck => rw [es] at h; exact h.elim
      · subst hb0
        exact h d σ' H' μ' O' f R' x
end
end Fx

/-! FxL: what is asked of a caught error; defs called within an except suite. -/
namespace Fx
open PySem PySem.Spec PyProof.Rows L2

/-- what an own error class must have -/
structure ErrI (K : PySem.W.Frag) (C : Addr) : Prop where
  cl : (PySem.W.clsIn K C).isSome = true
  ga : PySem.W.findIn K (.ref C) "__getattribute__" = some (some (.builtin "BaseException.__getattribute__"))
  gg : PySem.W.findIn K (.ref C) "__getattr__" = some none
  sb : PySem.W.subIn K (.ref C) (.type "BaseException") = some true
  ca : PySem.W.findIn K (.ref C) "__class__" = some (some (.builtin "object.__class__"))
  mr : PySem.W.mroIn K C (.type "object") = some true
  hd : PySem.W.hasDictIn K C = true
  gs : PySem.W.specialIn K (.builtin "object.__class__") "__get__" = some (some (.builtin "getset_descriptor.__get__"))
  tk : PySem.W.takesIn K (.builtin "object.__class__") = some true
/-- the pinned exception -/
def Pinned (G : Cfg) (X : Cx) : Prop := ∀ y, G.px = some y → y ∈ X.pn ∧ ∃ vs, y.2.data = .fields vs
theorem pinned_none {G : Cfg} {X : Cx} (h : G.px = none) : Pinned G X := fun y e => by rw [h] at e; cases e
section
variable {G : Cfg} {X : Cx} {W : WX} {H H1 : Hp} {μ μ1 : List Addr} {O : Ow} {σ : L2.St} {env : En} {S : Store} {e1 e2 : Expr} {pos p0 p1 p2 : Pos} {b : Bool} {pins : List (Addr × Obj)} {s : Shared} {x y : Str}
theorem lookup_rel {L : List Addr} : ∀ {ns : List Str} {xs : List V} {ps : List PV} {f : Str} {p : PV}, RpL G μ (view H L) xs ps → (ns.zip ps).lookup f = some p → ∃ v, (ns.zip xs).lookup f = some v ∧ Rp G μ (view H L) v p
  | [], _, _, f, p, _, h => by cases h
  | n :: ns, _, _, f, p, .nil, h => by cases h
  | n :: ns, _, _, f, p, .cons (v := v) (p := q) a l, h => by
    rw [List.zip_cons_cons] at h ⊢
    unfold List.lookup at h ⊢
    cases e : f == n with
    | true =>
      rw [e] at h
      cases h
      exact ⟨v, rfl, a⟩
    | false =>
      rw [e] at h
      exact lookup_rel l h
/-- the pinned exception in the state -/
theorem inst_of {y : Addr × Obj} {C : Addr} {d : Option Addr} {ns : List Str} {ps : List PV} {L : List Addr} (hp : Pinned G X) (e : G.px = some y) (I : Inv X pins σ H s) (hz : Zc (.ref C) d y.2) (x : ExcR G μ (view H L) d ns ps) :
    ∃ od, PySem.W.InstAt s.heap y.1 y.2 C od ∧ ∀ (f : Str) (p : PV), (ns.zip ps).lookup f = some p → ∃ (v : V) (u : Value) (o : Obj), od = some o ∧ Rp G μ (view H L) v p ∧ RelV v u ∧ PySem.W.lookIn f o = some (some u) := by
  obtain ⟨hpn, vs, hd⟩ := hp y e
  obtain ⟨ha, _⟩ := I.pin y (List.mem_append_left _ hpn)
  have hno : PySem.W.notCls y.2 = true := by unfold PySem.W.notCls; rw [hd]
  cases x with
  | none => exact ⟨none, ⟨ha, hz.1, hno, by rw [hz.2]; trivial⟩, fun f p h => by cases h⟩
  | @some dd _ xs _ h1 _ hl =>
    have hx : ObjOk X.prog X.w H s.heap dd (.xd (ns.zip xs)) := I.hok dd _ (view_some h1).1
    obtain ⟨mA, hns, hr⟩ := hx
    obtain ⟨od, ho, hlk⟩ := lookIn_ns hns
    refine ⟨some od, ⟨ha, hz.1, hno, by rw [hz.2]; exact ho⟩, fun f p h => ?_⟩
    obtain ⟨v, hv, rv⟩ := lookup_rel hl h
    obtain ⟨u, hu, ru⟩ := RelO.some_of (v := v) (o := mA f) (by rw [← hv]; exact hr f)
    exact ⟨v, u, od, rfl, rv, ru, by rw [hlk, hu]⟩

/-! ### isinstance(e, C) -/
def rIsX (G : Cfg) (K : PySem.W.Frag) : List V → Hp → VK → Prop := fun xs H Q => ∃ (y : Addr × Obj) (C : Addr) (d : Option Addr) (ns : List Str) (ps : List PV) (L μ : List Addr) (c : V) (cv : Value) (b : Bool),
  G.px = some y ∧ xs = [.ref y.1, c] ∧ Zc (.ref C) d y.2 ∧ ExcR G μ (view H L) d ns ps ∧ (∀ u, RelV c u → u = cv) ∧ PySem.W.kitOne K (.ref C) cv = some b ∧ ErrI K C ∧ Q (.bl b) H
theorem call_isX (hp : Pinned G X) : CallR X (.builtin "isinstance") (rIsX G X.K) := by
  intro pins s σ H xs us Q I r h
  obtain ⟨y, C, d, ns, ps, L, μ, c, cv, b, e, rfl, hz, x, hcv, hk, T, q⟩ := h
  cases r with
  | cons rx rr =>
    cases rr with
    | cons rt rr =>
      cases rr
      cases rx
      have ec := hcv _ rt
      subst ec
      obtain ⟨od, J, _⟩ := inst_of hp e I hz x
      exact PySem.W.kia_one (PySem.W.kitx_exc T.cl T.ga T.gg T.sb T.ca T.gs T.tk T.mr) I.kIn J hk (fun z => nomatch z) fun tk => ⟨.bl b, H, I.kept (t' := tk) fun _ _ z => z, rfl, q⟩
def rXIs (i : Nat) (f : Nat → Option Bool) : RE := fun env => match env[i]? with
  | some (.exc c _ _) => match f c with
    | some r => M.ret (.bl r)
    | none => M.stuck
  | _ => M.stuck
/-- what an except clause's name holds -/
theorem Rel.caught {i : Nat} {c : Nat} {ns : List Str} {ps : List PV} (R : Rel G H μ O σ env S) (e : env[i]? = some (.exc c ns ps)) : ∃ (y : Addr × Obj) (d : Option Addr), σ[i]? = some (some (.ref y.1)) ∧ G.px = some y ∧ Zc (.ref (G.ca c)) d y.2 ∧ ExcR G μ (view H (μ ++ Ow.ad O)) d ns ps := by
  obtain ⟨v, h1, h2⟩ := R.env.slot i _ e
  cases h2 with
  | exc q z x => exact ⟨_, _, h1, q, z, x⟩
theorem pf_xis (i : Nat) {f : Nat → Option Bool} {cv : V} {cu : Value} (hp : Pinned G X) (hg : Gl X "isinstance") (hm : X.mg "isinstance" = none) (hN : X.N[i]? = some x) (hv : Vis X.env.scope x) (hy : PE X (.Name y p1) (tC cv)) (hcv : ∀ u, RelV cv u → u = cu)
    (hf : ∀ c r, f c = some r → PySem.W.kitOne X.K (.ref (G.ca c)) cu = some r ∧ ErrI X.K (G.ca c)) (hd : (x == ("__debug__" : Str)) = false := by decide) (hcd : (x == ("__classdict__" : Str)) = false := by decide)
    (he : starEach [.Name x p0, .Name y p1] X.env = (false, eval (.Name x p0) X.env) :: starEach [.Name y p1] X.env := by rfl) (hpl : (backTo pos (starEach [.Name y p1] X.env)).any (·.1) = false := by rfl) :
    PF G X W b (.Call (.Name "isinstance" p2) [.Name x p0, .Name y p1] [] pos) (rXIs i f) :=
  pe_imp (pe_callB (call_isX hp) hg hm (by decide +kernel) (pa_cons (pe_var hN hv hd hcd) (pa_cons hy pa_nil) he) (by decide) (by decide) he hpl) fun σ H Q ⟨μ, O, env, S, R, h⟩ => by
    unfold rXIs at h
    cases ei : env[i]? with
    | none => rw [ei] at h; exact h.elim
    | some sl =>
      cases sl with
      | no => rw [ei] at h; exact h.elim
      | val => rw [ei] at h; exact h.elim
      | own => rw [ei] at h; exact h.elim
      | exc c ns ps =>
        rw [ei] at h
        dsimp only at h
        obtain ⟨y, d, h1, q, z, xr⟩ := R.caught ei
        cases ef : f c with
        | none => rw [ef] at h; exact h.elim
        | some r =>
          rw [ef] at h
          obtain ⟨k1, k2⟩ := hf c r ef
          exact ⟨_, h1, y, _, d, ns, ps, _, μ, cv, cu, r, q, rfl, z, xr, hcv, k1, k2, h.now R (.kept (.bl r))⟩

/-! ### e.f -/
def rXF (i : Nat) (flds : Nat → List Str) (f : Str) : RE := fun env => match env[i]? with
  | some (.exc c ns ps) => if f ∈ flds c then match (ns.zip ps).lookup f with
      | some p => M.ret p
      | none => M.stuck
    else M.stuck
  | _ => M.stuck
theorem pf_xf (i : Nat) {flds : Nat → List Str} {f : Str} (hp : Pinned G X) (hN : X.N[i]? = some x) (hv : Vis X.env.scope x) (hf : ∀ c, f ∈ flds c → PySem.W.findIn X.K (.ref (G.ca c)) f = some none ∧ ErrI X.K (G.ca c))
    (hb : attributeBase (.Name x p0) f X.env (eval (.Name x p0) X.env) = eval (.Name x p0) X.env := by rfl) (hd : (x == ("__debug__" : Str)) = false := by decide) (hcd : (x == ("__classdict__" : Str)) = false := by decide) :
    PF G X W b (.Attribute (.Name x p0) f pos) (rXF i flds f) := by
  refine ⟨fun pins s σ H Q I h => ?_⟩
  obtain ⟨μ, O, env, S, R, h⟩ := h
  unfold rXF at h
  cases ei : env[i]? with
  | none => rw [ei] at h; exact h.elim
  | some sl =>
    cases sl with
    | no => rw [ei] at h; exact h.elim
    | val => rw [ei] at h; exact h.elim
    | own => rw [ei] at h; exact h.elim
    | exc c ns ps =>
      rw [ei] at h
      dsimp only at h
      by_cases hm : f ∈ flds c
      · rw [if_pos hm] at h
        obtain ⟨hno, T⟩ := hf c hm
        cases el : (ns.zip ps).lookup f with
        | none => rw [el] at h; exact h.elim
        | some p =>
          rw [el] at h
          obtain ⟨y, d, h1, q, z, xr⟩ := R.caught ei
          obtain ⟨od, J, lk⟩ := inst_of hp q I z xr
          obtain ⟨v, u, o, rfl, rv, ru, hu⟩ := lk f p el
          refine attr_of hb (thn ((pe_var (i := i) hN hv hd hcd).run pins s σ H (fun v' H' => v' = .ref y.1 ∧ H' = H) I ⟨_, h1, rfl, rfl⟩) fun w s1 ⟨v', H1, I1, r1, e1, e2⟩ => ?_)
          subst e1 e2
          obtain rfl : w = Value.ref y.1 := r1
          obtain ⟨od1, J1, lk1⟩ := inst_of hp q I1 z xr
          obtain ⟨v2, u2, o2, rfl, rv2, ru2, hu2⟩ := lk1 f p el
          exact HandSPX.exc_get I1.kIn J1 T.ga T.gg T.sb (PySem.W.findObj_own T.hd hno rfl hu2) (handed_of ru2) ⟨v2, _, I1.tok _, ru2, h.now R (.kept rv2)⟩
      · rw [if_neg hm] at h
        exact h.elim
end

/-! ### a def of one parameter, the caught exception -/
structure RoomX (k : Nat) (A : Around) : Prop where
  dp : A.depth + 3 * k + 5 < recursionLimit
  un : A.units + 16 * k + 200 < cLine
  gd : A.guards = some []
theorem RoomX.mono {j k : Nat} {A : Around} (r : RoomX k A) (h : j ≤ k) : RoomX j A := ⟨by have := r.dp; omega, by have := r.un; omega, r.gd⟩
theorem RoomX.deeper {k : Nat} {A : Around} (r : RoomX (k + 1) A) (env : Env) : RoomX k (A.deeper env) :=
  ⟨by have := r.dp; show A.depth + 1 + 3 * k + 5 < _; omega, by have := r.un; show A.units + 3 + 16 * k + 200 < _; omega, r.gd⟩
theorem RoomX.mark {k : Nat} {A : Around} (r : Room k A) (g : A.guards = some []) (h : Option Value) : RoomX k (A.mark h) := ⟨r.dp, r.un, g⟩
abbrev XFn := Nat → List Str → List PV → M PV
def spHF (G : Cfg) (F : XFn) (y : Addr × Obj) : Sp := fun vs H Q _ => ∃ c d ns qs μ Z S, vs = [.ref y.1] ∧ (∃ fv, y.2.data = .fields fv) ∧ Zc (.ref (G.ca c)) d y.2 ∧ StoR G μ H Z S ∧ ExcR G μ (view H (μ ++ Z)) d ns qs ∧
  match F c ns qs S with
  | .ok r S' => ∀ v H' μ', Fr H μ H' μ' → StoR G μ' H' Z S' → Rp G μ' (view H' (μ' ++ Z)) v r → Q v H'
  | _ => False
structure FnHF (G : Cfg) (P : Program) (w : World) (mg : Str → Option Value) (base : Heap) (k : Nat) (f : Addr) (fd : FuncData) (x : Str) (F : XFn) : Prop where
  run : ∀ (A : Around) (outer : List Env) (s : Shared) (H : Hp) (args : Args) (us : List Value) (vs : List V) (Q : VK) (E : XK) (y : Addr × Obj), RoomX k A → L2H.PinOk outer H s y → Env0 P w G.K mg base A outer s H → BindsTo s fd args ([x].zip us) → Vals vs us → spHF G F y vs H Q E →
    codeAny (model P w) A (.call (.ref f) args) (CR (L2.CX P w) outer P w H s Q E) s
theorem FnHF.mono {G : Cfg} {P : Program} {w : World} {mg : Str → Option Value} {base : Heap} {j k : Nat} {f : Addr} {fd : FuncData} {x : Str} {F : XFn} (h : FnHF G P w mg base j f fd x F) (hk : j ≤ k) : FnHF G P w mg base k f fd x F :=
  ⟨fun A outer s H args us vs Q E y hr => h.run A outer s H args us vs Q E y (hr.mono hk)⟩
def runH (n : Nat) (r : RS) : XFn := fun c ns qs S => match r (.exc c ns qs :: List.replicate (n - 1) .no) S with
  | .rt p S' => .ok p S'
  | .nx _ S' => .ok .non S'
  | _ => .stuck
section
variable {G : Cfg} {P : Program} {w : World} {mg : Str → Option Value} {base : Heap} {k : Nat}
theorem enter_relX {μ Z : List Addr} {S : Store} {c : Nat} {d : Option Addr} {ns : List Str} {qs : List PV} {y : Addr × Obj} {H : Hp} {N : List Str} (s : StoR G μ H Z S) (hz : Zc (.ref (G.ca c)) d y.2) (x : ExcR G μ (view H (μ ++ Z)) d ns qs) (hn : 1 ≤ N.length) :
    Rel (G.at y) H μ (Z.map fun a => (dz, a)) (L2.start N [.ref y.1]) (.exc c ns qs :: List.replicate (N.length - 1) .no) S := by
  have ez : Ow.ad (Z.map fun a => (dz, a)) = Z := by
    unfold Ow.ad
    rw [List.map_map]
    exact List.map_id Z
  have R0 := enter_rel (G := G) (ps := []) (vs := []) (N := N) s .nil (Nat.zero_le _)
  refine ⟨⟨?_, fun i t e => ?_, R0.env.inj⟩, by rw [ez]; exact s.cfg (G := G) (G' := G.at y) rfl rfl rfl rfl⟩
  · unfold L2.start
    simp only [List.length_cons, List.length_append, List.length_map, List.length_replicate, List.length_nil]
    omega
  · cases i with
    | zero =>
      have e' : Slot.exc c ns qs = t := by simpa using e
      subst e'
      exact ⟨_, rfl, .exc (x := y) rfl hz (by rw [ez]; exact x.cfg (G := G) (G' := G.at y) rfl rfl rfl)⟩
    | succ i =>
      rw [List.getElem?_cons_succ, List.getElem?_replicate] at e
      split at e
      · rename_i hlt
        cases e
        refine ⟨none, ?_, .no _⟩
        unfold L2.start
        rw [List.map_cons, List.map_nil, List.singleton_append, List.getElem?_cons_succ, List.getElem?_replicate]
        rw [if_pos (by simpa using hlt)]
      · cases e
theorem fnHF_of {x qual : Str} {st : Stmt} {f : Addr} {fd : FuncData} {N : List Str} {v : Str} {r : RS} (F : Fun G.K x qual st f fd) (Sc : FnScope N [v] (defScope st))
    (hbody : ∀ (cdv : Value) (A : Around) (outer : List Env) (s : Shared) (H : Hp) (E : XK) (y : Addr × Obj), RoomX k (A.deeper (envOfC qual (defScope st) s.heap.objs.size f cdv)) → (∃ fv, y.2.data = .fields fv) →
      PFSs (G.at y) (L2H.cxH (L2.CX P w) P w G.K mg base N qual (defScope st) f cdv A outer s H E y) (fun _ _ _ _ => False) (defBody st) r) : FnHF G P w mg base (k + 1) f fd v (runH N.length r) := by
  refine ⟨fun A outer s H args us vs Q E y hr hpin e0 hb rv hsp => ?_⟩
  obtain ⟨oc, od, kV, doc, pm, an, cdv, ct, osl, rfl, lk, hcd⟩ := F.ex
  obtain ⟨c, d, ns, qs, μ, Z, S, rfl, hfv, hz, sto, xr, hF⟩ := hsp
  have kin : G.K.In s.heap := e0.mod.kin.keeps fun b o e => (e0.bs b o e).1
  have nol : s.heap.NoLimit := e0.mod.nolimit.keeps fun b o e => (e0.bs b o e).1
  have hN1 : 1 ≤ N.length := by
    have := congrArg List.length Sc.pre
    rw [List.length_take] at this
    simp at this
    omega
  have kd : ∀ z ∈ [v].zip us, (defScope st).names.lookup z.1 = some .local ∨ ((defScope st).names.lookup z.1 = some .cell ∧ ((cellsFrom (s.heap.objs.size + 1) (defScope st).names []).lookup z.1).isSome = true) := fun z hm =>
    (Sc.par z.1 (List.of_mem_zip (a := z.1) (b := z.2) hm).1).imp id fun q => ⟨q, PySem.W.cellsFrom_some _ _ _ (.inl q)⟩
  refine codeAny_call_function (by have := hr.dp; omega) (kin _ _ lk) rfl Sc.co Sc.gen rfl (PySem.W.codeRec_of kin hcd) (hb _ _ _ _ (wpAny_newFunctionEnv_cells Sc.kind kd fun env he s1 x1 => ?_))
  subst he
  refine ⟨nol.keeps x1.toInCall.keep, codeAny_func ?_⟩
  have I := L2H.inv_startH (CX := L2.CX P w) (N := N) (E := E) (qual := qual) Sc hpin e0 (vs := [.ref y.1]) rfl rv x1
  have T : rdS (G.at y) (fun _ _ _ _ => False) r { nx := fun _ H' => Q .non H', rt := Q } (L2.start N [.ref y.1]) H := by
    refine ⟨μ, _, _, S, enter_relX sto hz xr hN1, ?_⟩
    unfold runH at hF
    cases e : r (.exc c ns qs :: List.replicate (N.length - 1) .no) S with
    | rt p S' =>
      rw [e] at hF
      exact fun v H' μ' O' f' s' r' => hF v H' μ' (sfr_fr f' fun a ha => (sto.hid a ha).1) ((sfr_sto f' s').cfg (G := G.at y) (G' := G) rfl rfl rfl rfl) (Rp.cfg (G := G.at y) (G' := G) rfl rfl rfl _ _ (Rp.mono (sfr_view f') (Pre.refl _) _ _ r'))
    | nx env' S' =>
      rw [e] at hF
      exact fun σ' H' μ' O' f' R' => hF .non H' μ' (sfr_fr f' fun a ha => (sto.hid a ha).1) ((sfr_sto f' R'.sto).cfg (G := G.at y) (G' := G) rfl rfl rfl rfl) .non
    | exc c ns ps' env' S' => rw [e] at hF; exact hF.elim
    | bk env' S' => rw [e] at hF; exact hF.elim
    | ct env' S' => rw [e] at hF; exact hF.elim
    | stuck => rw [e] at hF; exact hF.elim
  refine wpAny_mono ((hbody cdv A outer s H E y (hr.deeper _) hfv).run [] s1 _ H _ I T) (fun fl s' hs => ?_) fun e s' hs => hs
  cases fl with
  | ret u => exact let ⟨v, σ', H', J, rv, q⟩ := hs; ⟨v, H', J.os, J.bare, J.base, J.hok, rv, q⟩
  | next => exact let ⟨σ', H', J, q⟩ := hs; ⟨.non, H', J.os, J.bare, J.base, J.hok, rfl, q⟩
  | brk => exact let ⟨_, _, _, q⟩ := hs; False.elim q
  | cont => exact let ⟨_, _, _, q⟩ := hs; False.elim q
end
section
variable {G : Cfg} {X : Cx} {W : WX} {k : Nat} {f : Addr} {fd : FuncData} {v x n : Str} {F : XFn} {p pos p0 : Pos} {b : Bool}
def rCallX (F : XFn) (i : Nat) : RE := fun env S => match env[i]? with
  | some (.exc c ns ps) => match F c ns ps S with
    | .ok r S' => .ok r S'
    | _ => .stuck
  | _ => .stuck
/-- f(e), e the caught exception -/
theorem pf_callX (i : Nat) (h : FnHF { G with px := none } X.prog X.w X.mg X.base k f fd v F) (hK : G.K = X.K) (hp : Pinned G X) (hr : RoomX k X.A) (hg : Gl X x) (hm : X.mg x = some (.ref f)) (hk : PySem.W.keepIn X.K (.ref f) = true) (hb : Binds X.K fd [v] [])
    (hN : X.N[i]? = some n) (hv : Vis X.env.scope n) (hd : (n == ("__debug__" : Str)) = false := by decide) (hcd : (n == ("__classdict__" : Str)) = false := by decide)
    (hdb : (x == ("__debug__" : Str)) = false := by decide) (he : starEach (.Name n p0 :: []) X.env = (false, eval (.Name n p0) X.env) :: starEach [] X.env := by rfl) (hpl : (backTo pos (starEach [] X.env)).any (·.1) = false := by rfl) :
    PF G X W b (.Call (.Name x p) [.Name n p0] [] pos) (rCallX F i) := by
  refine ⟨fun pins s σ H Q I hq => ?_⟩
  obtain ⟨μ, O, env, S, R, hq⟩ := hq
  unfold rCallX at hq
  cases ei : env[i]? with
  | none => rw [ei] at hq; exact hq.elim
  | some sl =>
    cases sl with
    | no => rw [ei] at hq; exact hq.elim
    | val => rw [ei] at hq; exact hq.elim
    | own => rw [ei] at hq; exact hq.elim
    | exc c ns ps =>
      rw [ei] at hq
      dsimp only at hq
      obtain ⟨y, d, h1, q, z, xr⟩ := R.caught ei
      obtain ⟨hpn, hfv⟩ := hp y q
      refine wpAny_Call_Name_kw (ld_glob I hg hm ?_ hdb)
      refine PySem.W.callWith_K (h₀ := X.base) I.ok.mod.kin hk (thn ((pa_one (pe_var (i := i) hN hv hd hcd) he).run pos pins s σ H (fun vs H1 => vs = [.ref y.1] ∧ H1 = H) I ⟨_, h1, rfl, rfl⟩) fun us s1 ⟨vs, H1, I1, r, e1, e2⟩ => ⟨I1.kIn, ?_⟩) he hpl
      subst e1 e2
      have hl : us.length = [v].length := by rw [← r.length]; rfl
      have bb := hb s1 us I1.kIn (by rw [List.append_nil]; exact hl)
      rw [List.append_nil] at bb
      have P1 := I1.pin y (List.mem_append_left _ hpn)
      have hpin : L2H.PinOk X.stack H1 s1 y := ⟨P1.1, P1.2.1, fun hmm => (List.mem_cons.mp (I1.stkSub y.1 hmm)).elim P1.2.2.1 P1.2.2.2.1, P1.2.2.2.2⟩
      have sp : spHF { G with px := none } F y [.ref y.1] H1 Q (fun _ _ _ => False) := by
        refine ⟨c, d, ns, ps, μ, Ow.ad O, S, rfl, hfv, z, R.sto.cfg (G := G) (G' := { G with px := none }) rfl rfl rfl rfl, xr.cfg (G := G) (G' := { G with px := none }) rfl rfl rfl, ?_⟩
        cases ef : F c ns ps S with
        | ok r S' =>
          rw [ef] at hq
          exact fun v' H' μ' f' s' r' => hq v' H' μ' f' (s'.cfg (G := { G with px := none }) (G' := G) rfl rfl rfl rfl) (.kept (Rp.cfg (G := { G with px := none }) (G' := G) rfl rfl rfl _ _ r'))
        | exc c2 ns2 ps2 S' => rw [ef] at hq; exact hq.elim
        | stuck => rw [ef] at hq; exact hq.elim
      refine wpAny_call (codeAny_mono (h.run X.A X.stack s1 H1 ⟨us, []⟩ us _ Q (fun _ _ _ => False) y hr hpin (by show Env0 X.prog X.w G.K _ _ _ _ _ _; rw [hK]; exact I1.env0) bb r sp) fun r' s' hq' => ?_)
      cases r' with
      | error er => exact passes0 pins σ H1 s1 er s' I1 hq'
      | ok fl =>
        cases fl with
        | ret u => exact I1.after hq'
        | next => exact False.elim hq'
        | brk => exact False.elim hq'
        | cont => exact False.elim hq'
end
end Fx

/-! FxM: the end of a law row. -/
namespace Fx
open PySem PySem.Spec PyProof.Rows L2

/-- what is tracked when the law is called: the tables of code objects, empty; the script -/
def startH (K : PySem.W.Frag) (T : List Addr) (a : Addr) (ob : Obj) (ns : List Int) : Hp := fun b =>
  if b ∈ T then some (.tbl #[]) else if b = a ∧ (K.lookup a).isNone = true then some (.frz ob (.lst (ns.map V.int))) else none
section
variable {K : PySem.W.Frag} {T : List Addr} {a b : Addr} {ob : Obj} {ns : List Int}
theorem startH_tab (h : b ∈ T) : startH K T a ob ns b = some (.tbl #[]) := if_pos h
theorem startH_scr (h : a ∉ T) (hk : K.lookup a = none) : startH K T a ob ns a = some (.frz ob (.lst (ns.map V.int))) := by
  unfold startH
  rw [if_neg h, if_pos ⟨rfl, by rw [hk]; rfl⟩]
theorem startH_none (h : b ∉ T) (hb : b = a → K.lookup a ≠ none) : startH K T a ob ns b = none := by
  unfold startH
  rw [if_neg h, if_neg]
  rintro ⟨e, hk⟩
  exact hb e (by simpa using hk)
theorem startH_some {u : HO} (h : startH K T a ob ns b = some u) : (b ∈ T ∧ u = .tbl #[]) ∨ (b ∉ T ∧ b = a ∧ K.lookup a = none ∧ u = .frz ob (.lst (ns.map V.int))) := by
  unfold startH at h
  by_cases hb : b ∈ T
  · rw [if_pos hb] at h; exact .inl ⟨hb, (Option.some.inj h).symm⟩
  · rw [if_neg hb] at h
    split at h
    · rename_i c; exact .inr ⟨hb, c.1, by simpa using c.2, (Option.some.inj h).symm⟩
    · cases h
end
/-- the law's def is called -/
theorem law_callF {P : Program} {w : World} {K : PySem.W.Frag} {mg mb : Str → Option Value} {k : Nat} {fa a : Addr} {cs : List (Addr × Addr)} {fd : FuncData} {x : Str} {s₁ : Shared} {vs : List Value} {ns : List Int} {G : Cfg} {F : List PV → M PV} {sy : Bool}
    (hK : G.K = K) (hGT : ∀ p ∈ G.T, p.1 ∈ cs.map (·.2)) (KX : K.In s₁.heap) (hns : s₁.heap.Ns mainGlobals mg) (hb : s₁.heap.Ns builtinsNs mb) (hbb : ∀ x : Str, x ≠ "__name__" → mb x = bootBuiltins x) (hlim : s₁.heap.NoLimit) (hg : s₁.gens = #[])
    (hT : ∀ p ∈ cs, s₁.heap.get? p.2 = some { cls := .none, data := .fields #[] }) (nT : ∀ p ∈ cs, K.lookup p.2 = none) (C : ∀ p ∈ cs, PySem.W.CodeHd s₁.heap p.1 p.2)
    (hbm : ∃ (bm : Addr) (ob : Obj), mg "__builtins__" = some (.ref bm) ∧ bm ≠ builtinsNs ∧ s₁.heap.get? bm = some ob ∧ ob.cls = .type "module" ∧ ob.dict = some builtinsNs ∧ ob.data = .plain) (hsy : sy = true → ∃ m, s₁.heap.Ns sysModules m)
    (ha : s₁.heap.get? a = some { cls := .type "list", data := .seq vs.toArray }) (hi : IntsAre vs ns) (hl : ns.length ≤ sizeLine) (hr : Room k callerA)
    (hF : ∀ base : Heap, K.In base → base.Ns mainGlobals mg → (∀ p ∈ cs, LamX.TabB base mg p.1 p.2) → (sy = true → ∃ o, base.get? sysModules = some o) → FnF G P w mg base k fa fd [x] F) (hbind : ∀ (s : Shared) (u : Value), BindsTo s fd ⟨[u], []⟩ [(x, u)])
    (hlaw : ∃ S, F [.scr ns] [] = .ok (.bl true) S) :
    codeAny (model P w) callerA (.call (.ref fa) ⟨[.ref a], []⟩) (fun r s' => r = .ok (.ret (.bool true)) ∧ OldK s₁.heap s'.heap ∧ s'.os = s₁.os ∧ AllBare s'.gens) s₁ := by
  have rv := vals_ints hi
  have lenV := hi.length
  generalize hob : ({ cls := .type "list", data := .seq vs.toArray } : Obj) = ob at ha
  generalize hTT : cs.map (·.2) = T at hGT
  have isT : ∀ b ∈ T, s₁.heap.get? b = some { cls := .none, data := .fields #[] } := fun b hb => by
    rw [← hTT] at hb
    obtain ⟨p, hp, e⟩ := List.mem_map.mp hb
    rw [← e]
    exact hT p hp
  have inT : ∀ p ∈ cs, p.2 ∈ T := fun p hp => by rw [← hTT]; exact List.mem_map.mpr ⟨p, hp, rfl⟩
  have dT : ∀ {b : Addr} {o : Obj}, s₁.heap.get? b = some o → o.data ≠ .fields #[] → b ∉ T := fun {b o} e n z => by
    rw [isT b z] at e
    cases e
    exact n rfl
  have dA : ∀ {b : Addr} {o : Obj}, s₁.heap.get? b = some o → (∀ xs n, o.data ≠ .seq xs n) → b ≠ a := fun {b o} e n z => by
    rw [z, ha] at e
    cases e
    rw [← hob] at n
    exact n _ _ rfl
  have aT : a ∉ T := dT ha (by rw [← hob]; intro z; cases z)
  generalize hH : startH K T a ob ns = H
  have free : ∀ {b : Addr} {o : Obj}, s₁.heap.get? b = some o → o.data ≠ .fields #[] → (∀ xs n, o.data ≠ .seq xs n) → H b = none := fun {b o} e n1 n2 => by
    rw [← hH]
    exact startH_none (dT e n1) fun z => absurd z (dA e n2)
  have freeD : ∀ {b : Addr} {o : Obj} {es : Array DictEntry} {ep : Nat}, s₁.heap.get? b = some o → o.data = .dict es ep → H b = none := fun {b o es ep} e d =>
    free e (by rw [d]; intro z; cases z) fun xs n => by rw [d]; intro z; cases z
  have under : ∀ {b : Addr} {o : Obj}, s₁.heap.get? b = some o → H b = none → (hidT s₁.heap H).get? b = some o := fun e n => hidT_get e n
  have nsB : ∀ {b : Addr} {m : Str → Option Value}, s₁.heap.Ns b m → (hidT s₁.heap H).Ns b m := fun {b m} ⟨o, es, ep, e, d, r⟩ => ⟨o, es, ep, under e (freeD e d), d, r⟩
  have kB : K.In (hidT s₁.heap H) := fun b o e => under (KX b o e) (by
    rw [← hH]
    refine startH_none (fun z => ?_) fun z n => ?_
    · rw [← hTT] at z
      obtain ⟨p, hp, ep⟩ := List.mem_map.mp z
      rw [← ep, nT p hp] at e
      cases e
    · rw [z, n] at e
      cases e)
  have md : Mod K mg (hidT s₁.heap H) := ⟨kB, nsB hns, ⟨mb, nsB hb, hbb⟩, let ⟨mc, h1, h2⟩ := hlim; ⟨mc, nsB h1, h2⟩⟩
  have tB : ∀ p ∈ cs, LamX.TabB (hidT s₁.heap H) mg p.1 p.2 := fun p hp => by
    have hTp := hT p hp
    refine ⟨?_, ?_, fun z => ?_⟩
    · obtain ⟨o, us, file, tf, flags, tg, inF, text, tt, e1, r1, r2, r3, r4, r5, r6, r7, r8, hne⟩ := C p hp
      refine ⟨o, us, file, tf, flags, tg, inF, text, tt, under e1 (free e1 ?_ ?_), r1, r2, r3, r4, r5, r6, r7, r8, hne⟩
      · intro z
        rw [r2] at z
        cases z
        simp at r3
      · intro xs n z
        rw [r2] at z
        cases z
    · obtain ⟨bm, o, b1, b2, b3, b4, b5, b6⟩ := hbm
      have nG : bm ≠ mainGlobals := fun q => by
        obtain ⟨o2, es, ep, e, hd, _⟩ := hns
        rw [q, e] at b3
        cases b3
        rw [hd] at b6
        cases b6
      have nP : bm ≠ p.2 := fun q => by
        rw [q, hTp] at b3
        cases b3
        cases b6
      exact ⟨bm, o, b1, b2, nG, nP, under b3 (free b3 (by rw [b6]; intro z; cases z) fun xs n => by rw [b6]; intro z; cases z), b4, b5, b6⟩
    · obtain ⟨o, es, ep, e, hd, _⟩ := hns
      rw [z, hTp] at e
      cases e
      cases hd
  have hok : HOk P w H s₁.heap := fun b u e => by
    rw [← hH] at e
    rcases startH_some e with ⟨h1, h2⟩ | ⟨_, h1, _, h2⟩
    · subst h2
      exact isT b h1
    · subst h2 h1
      have ha2 := ha
      rw [← hob] at ha2
      exact ⟨ha, by rw [List.length_map]; exact hl, vs, _, rv, ha2⟩
  have e0 : Env0 P w K mg (hidT s₁.heap H) callerA [] s₁ H := ⟨rfl, md, fun b o e => of_hidT e, Nat.le_of_eq (hidT_size _ _), trivial, fun b hb => absurd (show b ∈ ([] : List Addr) from hb) (by simp), hok, .of_eq hg⟩
  -- the promise
  obtain ⟨Sf, hS⟩ := hlaw
  have scr : SqL G.K (view H ([] ++ [])) a (ns.map V.int) := by
    rw [hK]
    cases hk : K.lookup a with
    | none => exact .inl (.inr ⟨ob, view_of (by rw [← hH]; exact startH_scr aT hk) (by simp) rfl⟩)
    | some o =>
      have e := KX a o hk
      rw [ha] at e
      cases e
      subst hob
      exact .inr ⟨_, vs.toArray, _, hk, rfl, rfl, rfl, by rw [List.size_toArray, lenV]; exact hl, by simpa using rv⟩
  have sp : spOf G F 1 [.ref a] H (fun v _ => v = .bl true) (fun _ _ _ => False) := by
    refine ⟨[], [], [], [.scr ns], ⟨rfl, List.nodup_nil, fun i c e => (by simp at e), fun b hb => (by simp at hb), fun p hp => ?_⟩, .cons (.scr scr) .nil, rfl, ?_⟩
    · exact LamX.TabS.nil (by rw [← hH]; exact startH_tab (hGT p hp))
    · rw [hS]
      intro v H' μ' f s' r
      cases r
      rfl
  refine codeAny_mono ((hF _ kB (nsB hns) tB fun e => ?_).run callerA [] s₁ H ⟨[.ref a], []⟩ [.ref a] [.ref a] _ _ hr rfl (by rw [hK]; exact e0) (hbind s₁ (.ref a)) (.cons rfl .nil) sp) fun r s' h => ?_
  · obtain ⟨m, o, es, ep, h1, h2, _⟩ := hsy e
    exact ⟨o, under h1 (freeD h1 h2)⟩
  · cases r with
    | error e =>
      obtain ⟨_, _, _, _, _, _, _, _, _, _, _, _, z⟩ := h
      exact z.elim
    | ok fl =>
      cases fl with
      | next => exact False.elim h
      | brk => exact False.elim h
      | cont => exact False.elim h
      | ret u =>
        obtain ⟨v, H', os, bare, un, hok', r', q⟩ := h
        have q' : v = .bl true := q
        subst q'
        obtain rfl : u = Value.bool true := r'
        have old : ∀ b o, b ∉ T → s₁.heap.get? b = some o → s'.heap.get? b = some o := fun b o nb e => by
          cases q : H b with
          | none => exact un.keep b o e q (by intro z; exact absurd (show b ∈ ([] : List Addr) from z) (by simp)) (by simp)
          | some u =>
            have z := q
            rw [← hH] at z
            rcases startH_some z with ⟨h1, _⟩ | ⟨_, _, _, h2⟩
            · exact absurd h1 nb
            · subst h2
              have z2 := un.frzs b ob _ q
              have e1 := (hok b _ q).1
              rw [e] at e1
              cases e1
              exact (hok' b _ z2).1
        have grown : ∀ p ∈ cs, ∃ more : Array Value, s'.heap.get? p.2 = some { cls := .none, data := .fields more } := fun p hp => by
          obtain ⟨more, z⟩ := un.tbls p.2 #[] (by rw [← hH]; exact startH_tab (inT p hp))
          exact ⟨_, hok' p.2 _ z⟩
        refine ⟨rfl, ⟨fun b o e => ?_, fun b o e => ?_⟩, os, bare⟩
        · by_cases hb : b ∈ T
          · have hb' := hb
            rw [← hTT] at hb'
            obtain ⟨p, hp, ep⟩ := List.mem_map.mp hb'
            obtain ⟨more, hm⟩ := grown p hp
            rw [← ep] at e ⊢
            rw [hT p hp] at e
            cases e
            exact .inr (.inl ⟨((C p hp).tab (hT p hp)).isCodeTable, rfl, #[], more, rfl, by rw [Array.empty_append]; exact hm⟩)
          · exact .inl (old b o hb e)
        · by_cases hb : b ∈ T
          · have hb' := hb
            rw [← hTT] at hb'
            obtain ⟨p, hp, ep⟩ := List.mem_map.mp hb'
            obtain ⟨more, hm⟩ := grown p hp
            rw [← ep]
            exact ⟨_, hm⟩
          · exact ⟨o, old b o hb e⟩
/-- what must be known of the law's def at the head's heap h -/
structure LawF (l : PySem.W.OpenLaw) (w : World) (K : PySem.W.Frag) (k : Nat) (x : Str) (mg : Str → Option Value) (fa : Addr) (h : Heap) (sy : Bool) (F : List PV → M PV) : Prop where
  ex : ∃ (fd : FuncData) (cs : List (Addr × Addr)) (G : Cfg), G.K = K ∧ (∀ p ∈ G.T, p.1 ∈ cs.map (·.2)) ∧ (∀ p ∈ cs, h.get? p.2 = some { cls := .none, data := .fields #[] }) ∧ (∀ p ∈ cs, K.lookup p.2 = none) ∧ (∀ p ∈ cs, PySem.W.CodeHd h p.1 p.2) ∧ (∀ (s : Shared) (u : Value), BindsTo s fd ⟨[u], []⟩ [(x, u)]) ∧
    ∀ base : Heap, K.In base → base.Ns mainGlobals mg → (∀ p ∈ cs, LamX.TabB base mg p.1 p.2) → (sy = true → ∃ o, base.get? sysModules = some o) → FnF G l.prog w mg base k fa fd [x] F
/-- the goal that k_head leaves (case hc) -/
theorem walk_ofF {l : PySem.W.OpenLaw} {n k : Nat} {q : Program} {loose : List Str} {XP : (Str → Option Value) → Heap → Prop} {YP : World → Heap → Prop} {d : DefRec} {K : Params → PySem.W.Frag} {x : Str} {sy : Bool} {F : List PV → M PV}
    (hn : l.most = some n) (hn2 : n ≤ sizeLine) (hdf : d.params.defaults = []) (hr : Room k callerA) (hY : ∀ (w : World) (h : Heap), YP w h → (K w.params).In h) (hsy : sy = true → importsNone q = true)
    (hF : ∀ (w : World) (mg : Str → Option Value) (fa : Addr) (h : Heap), YP w h → (K w.params).In h → h.Ns mainGlobals mg → mg d.name = some (.ref fa) → LawF l w (K w.params) k x mg fa h sy F)
    (hlaw : ∀ ns : List Int, ns.length ≤ n → (∀ z ∈ ns, Builtin.Int.intBits z ≤ 1048576) → ∃ S, F [.scr ns] [] = .ok (.bl true) S) :
    PySem.W.WalkO q loose XP YP l.row.toRowW d [] (fun f vs => PySem.call f vs) := by
  refine Att.attach_callB hn hdf fun w s₀ s₁ mg mb fa o pm cd doc a vs ns G Y ho hd hcd hmg hobj hints hlen hbits hg => ?_
  have KX := hY w _ Y
  obtain ⟨fd, cs, Gc, hK, hGT, hT, nT, C, hb, hFn⟩ := (hF w mg fa _ Y KX G.T.g hmg).ex
  exact law_callF hK hGT KX G.T.g G.T.b G.T.builtins G.T.nolimit hg hT nT C G.T.bmain (fun e => let ⟨m, h, _⟩ := (G.T.seer (hsy e)).2; ⟨m, h⟩) hobj hints (Nat.le_trans hlen hn2) hr hFn hb (hlaw ns hlen hbits)
end Fx

/-! FxN: what a law's text must say of its defs and error classes. -/
namespace Fx
open PySem PySem.Spec PyProof.Rows L2

/-- a def of the module -/
structure GFn (K : PySem.W.Frag) (mg : Str → Option Value) (x : Str) (st : Stmt) (ps : List Str) (f : Addr) (fd : FuncData) : Prop where
  fn : Fun K x x st f fd
  gl : mg x = some (.ref f)
  bi : Binds K fd ps []
abbrev GFn.kp {K : PySem.W.Frag} {mg : Str → Option Value} {x : Str} {st : Stmt} {ps : List Str} {f : Addr} {fd : FuncData} (g : GFn K mg x st ps f fd) : PySem.W.keepIn K (.ref f) = true := g.fn.kp

/-- the facts of one error class, C0 its base (the class of all errors, itself over ValueError) -/
def errB (K : PySem.W.Frag) (C : Addr) : Bool := (PySem.W.clsIn K C).isSome && (decide (PySem.W.findIn K (.ref C) "__getattribute__" = some (some (.builtin "BaseException.__getattribute__"))) && (decide (PySem.W.findIn K (.ref C) "__getattr__" = some none) && (decide (PySem.W.subIn K (.ref C) (.type "BaseException") = some true) &&
  (decide (PySem.W.findIn K (.ref C) "__class__" = some (some (.builtin "object.__class__"))) && (decide (PySem.W.mroIn K C (.type "object") = some true) && (PySem.W.hasDictIn K C && (decide (PySem.W.findIn K (.ref C) "__setattr__" = some (some (.builtin "object.__setattr__"))) && (decide (PySem.W.typeIn K (.ref C) = some (.type "type")) && PySem.W.keepIn K (.ref C)))))))))
structure ErrF (K : PySem.W.Frag) (C : Addr) : Prop where
  cl : (PySem.W.clsIn K C).isSome = true
  ga : PySem.W.findIn K (.ref C) "__getattribute__" = some (some (.builtin "BaseException.__getattribute__"))
  gg : PySem.W.findIn K (.ref C) "__getattr__" = some none
  sb : PySem.W.subIn K (.ref C) (.type "BaseException") = some true
  ca : PySem.W.findIn K (.ref C) "__class__" = some (some (.builtin "object.__class__"))
  mr : PySem.W.mroIn K C (.type "object") = some true
  hd : PySem.W.hasDictIn K C = true
  sa : PySem.W.findIn K (.ref C) "__setattr__" = some (some (.builtin "object.__setattr__"))
  ty : PySem.W.typeIn K (.ref C) = some (.type "type")
  kp : PySem.W.keepIn K (.ref C) = true
theorem errB_ok {K : PySem.W.Frag} {C : Addr} (h : errB K C = true) : ErrF K C := by
  unfold errB at h
  simp only [Bool.and_eq_true, decide_eq_true_eq] at h
  obtain ⟨h1, h2, h3, h4, h5, h6, h7, h8, h9, h10⟩ := h
  exact ⟨h1, h2, h3, h4, h5, h6, h7, h8, h9, h10⟩
/-- the chain of bases behind C -/
def MroIs (K : PySem.W.Frag) (C : Addr) (l : List Value) : Prop := ∃ cd, PySem.W.clsIn K C = some cd ∧ cd.mro = l
theorem mro_sub {K : PySem.W.Frag} {C : Addr} {l : List Value} {base : Value} (h : MroIs K C l) (hl : l.isEmpty = false) : PySem.W.subIn K (.ref C) base = some (l.contains base) := by
  obtain ⟨cd, h1, rfl⟩ := h
  show PySem.W.mroIn K C base = _
  unfold PySem.W.mroIn
  rw [h1, Option.bind_some, if_neg (by rw [hl]; exact Bool.false_ne_true)]
abbrev veT : List Value := [.type "ValueError", .type "Exception", .type "BaseException", .type "object"]
/-- the error classes of a program: 0 is the base of all -/
structure ErrTab (G : Cfg) (n : Nat) : Prop where
  pos : 0 < n
  f : ∀ i, i < n → ErrF G.K (G.ca i)
  m : ∀ i, i < n → i ≠ 0 → MroIs G.K (G.ca i) (.ref (G.ca i) :: .ref (G.ca 0) :: veT)
  inj : ∀ i j, i < n → j < n → G.ca i = G.ca j → i = j
  gs : PySem.W.specialIn G.K (.builtin "object.__class__") "__get__" = some (some (.builtin "getset_descriptor.__get__"))
  tk : PySem.W.takesIn G.K (.builtin "object.__class__") = some true
section
variable {G : Cfg} {n : Nat}
theorem ErrTab.errI (E : ErrTab G n) {c : Nat} (h : c < n) : ErrI G.K (G.ca c) :=
  let f := E.f c h
  ⟨f.cl, f.ga, f.gg, f.sb, f.ca, f.mr, f.hd, E.gs, E.tk⟩
/-- is an instance of c one of D -/
def isE (n D c : Nat) : Option Bool := if c < n ∧ D < n ∧ c ≠ 0 then some (decide (c = D) || decide (D = 0)) else none
/-- of ValueError -/
def isV (n c : Nat) : Option Bool := if c < n ∧ c ≠ 0 then some true else none
theorem ErrTab.cls (E : ErrTab G n) {c D : Nat} (hc : c < n) (hD : D < n) (h0 : c ≠ 0) : PySem.W.kitCls G.K (.ref (G.ca c)) (.ref (G.ca D)) = some (decide (c = D) || decide (D = 0)) := by
  have fD := E.f D hD
  unfold PySem.W.kitCls
  have e1 : ((PySem.W.clsIn G.K (G.ca D)).isSome && PySem.W.typeIn G.K (.ref (G.ca D)) == some (.type "type")) = true := by rw [fD.cl, fD.ty] <;> rfl
  dsimp only
  rw [if_pos e1, mro_sub (E.m c hc h0) rfl]
  congr 1
  have key : ∀ i j, i < n → j < n → ((Value.ref (G.ca i) == Value.ref (G.ca j)) = decide (i = j)) := fun i j hi hj => by
    by_cases e : i = j
    · subst e; simp
    · have : Value.ref (G.ca i) ≠ Value.ref (G.ca j) := fun z => e (E.inj i j hi hj (Value.ref.inj z))
      rw [decide_eq_false e]
      exact beq_eq_false_iff_ne.mpr this
  rw [List.contains_cons, List.contains_cons, key D c hD hc, key D 0 hD E.pos]
  have ev : veT.contains (Value.ref (G.ca D)) = false := by
    simp [veT]
  rw [ev, Bool.or_false]
  congr 1
  by_cases e : D = c
  · rw [e]
  · rw [decide_eq_false e, decide_eq_false fun z => e z.symm]
theorem ErrTab.isE (E : ErrTab G n) {c D : Nat} {b : Bool} (h : isE n D c = some b) : PySem.W.kitOne G.K (.ref (G.ca c)) (.ref (G.ca D)) = some b ∧ ErrI G.K (G.ca c) := by
  unfold Fx.isE at h
  split at h
  · rename_i hc
    cases h
    refine ⟨?_, E.errI hc.1⟩
    unfold PySem.W.kitOne
    split
    · rename_i e
      have := E.inj c D hc.1 hc.2.1 (Value.ref.inj (beq_iff_eq.mp e))
      rw [decide_eq_true this]
      rfl
    · exact E.cls hc.1 hc.2.1 hc.2.2
  · cases h
theorem ErrTab.isV (E : ErrTab G n) {c : Nat} {b : Bool} (h : isV n c = some b) : PySem.W.kitOne G.K (.ref (G.ca c)) (.type "ValueError") = some b ∧ ErrI G.K (G.ca c) := by
  unfold Fx.isV at h
  split at h
  · rename_i hc
    cases h
    refine ⟨?_, E.errI hc.1⟩
    unfold PySem.W.kitOne
    rw [if_neg (by intro z; cases z)]
    unfold PySem.W.kitCls
    dsimp only
    rw [if_pos (by decide +kernel), mro_sub (E.m c hc.1 hc.2) rfl]
    rfl
  · cases h
theorem ErrTab.exm (E : ErrTab G n) {D : Nat} (c : Nat) (b : Bool) (h : Fx.isE n D c = some b) : PySem.W.exmOne G.K (.ref (G.ca c)) (.ref (G.ca D)) = some b := by
  unfold Fx.isE at h
  split at h
  · rename_i hc
    cases h
    unfold PySem.W.exmOne
    rw [(E.f D hc.2.1).sb, if_pos (by decide)]
    exact E.cls hc.1 hc.2.1 hc.2.2
  · cases h
end
/-- an error class with its own __init__ that keeps its arguments -/
structure ErrMk (K : PySem.W.Frag) (mg : Str → Option Value) (C : Addr) (x qu : Str) (st : Stmt) (ps fs : List Str) (fI : Addr) (fd : FuncData) : Prop where
  gl : mg x = some (.ref C)
  cls : ∃ nm q N bs bm sn sub ab col dd k0 k1 k2 k3 k5, K.lookup C = some (excClassObj nm q C N bs bm true sn sub ab col dd k0 k1 k2 k3 k5 "ValueError.__new__") ∧ PySem.HandSPX.refsVE bm = true
  ini : PySem.W.findIn K (.ref C) "__init__" = some (some (.ref fI))
  tI : PySem.W.typeIn K (.ref fI) = some (.type "function")
  fn : Fun K "__init__" qu st fI fd
  bi : Binds K fd ps []
  nof : ∀ f ∈ fs, PySem.W.findIn K (.ref C) f = some none
/-- .. and one without -/
structure ErrM0 (K : PySem.W.Frag) (mg : Str → Option Value) (C : Addr) (x : Str) : Prop where
  gl : mg x = some (.ref C)
  q : PySem.W.excIn K C [.type "ValueError", .type "Exception", .type "BaseException", .type "object"] "ValueError.__new__" = true
theorem ErrMk.oex {K : PySem.W.Frag} {mg : Str → Option Value} {C : Addr} {x qu : Str} {st : Stmt} {ps fs : List Str} {fI : Addr} {fd : FuncData} (m : ErrMk K mg C x qu st ps fs fI fd) (f : ErrF K C) : OexC K C := ⟨m.cls, f.sa, f.sb, f.ty, f.kp⟩
theorem mro_of {K : PySem.W.Frag} {C N : Addr} {nm q : Str} {bs bm : List Value} {h : Bool} {sn : List Str} {sub : List Value} {ab : Bool} {col : Option Bool} {dd : Option Addr} {m0 m1 m2 m3 m5 : Option Value} {nw : String}
    (l : K.lookup C = some (excClassObj nm q C N bs bm h sn sub ab col dd m0 m1 m2 m3 m5 nw)) : MroIs K C (.ref C :: bm) := by
  have e : PySem.W.clsIn K C = some { name := nm, bases := bs, mro := .ref C :: bm, ns := N, qualname := q, hasDict := h, slotNames := sn, subclasses := sub, abstract := ab, collection := col, hasDel := false } := by unfold PySem.W.clsIn; rw [l] <;> rfl
  exact ⟨_, e, rfl⟩
/-- C's own record: an error class over ValueError, its bases bm -/
def clsB (K : PySem.W.Frag) (C : Addr) (bm : List Value) : Bool := match K.lookup C with
  | some ⟨.type "type", _, .cls cd, sl⟩ => (match cd.mro, sl.toList with
    | .ref C' :: bm', [_, _, _, _, some (.builtin n), _] => C' == C && (bm' == bm && (n == "ValueError.__new__" && (cd.hasDict && !cd.hasDel)))
    | _, _ => false)
  | _ => false
theorem clsB_ok {K : PySem.W.Frag} {C : Addr} {bm : List Value} (h : clsB K C bm = true) :
    ∃ nm q N bs sn sub ab col dd k0 k1 k2 k3 k5, K.lookup C = some (excClassObj nm q C N bs bm true sn sub ab col dd k0 k1 k2 k3 k5 "ValueError.__new__") := by
  unfold clsB at h
  split at h
  · rename_i dd cd sl ho
    split at h
    · rename_i C' bm' k0 k1 k2 k3 n k5 hm hs
      simp only [Bool.and_eq_true, beq_iff_eq, Bool.not_eq_true'] at h
      obtain ⟨e1, e2, e3, hd, hdel⟩ := h
      obtain ⟨nm, bs, mro, ns, qn, hdt, sn, sub, ab, col, del⟩ := cd
      dsimp only at hm hd hdel
      subst e1 e2 e3 hm hd hdel
      have hsl : sl = #[k0, k1, k2, k3, some (.builtin "ValueError.__new__"), k5] := by
        obtain ⟨l⟩ := sl
        simp only at hs
        rw [hs]
      subst hsl
      exact ⟨nm, qn, ns, bs, sn, sub, ab, col, dd, k0, k1, k2, k3, k5, ho⟩
    · cases h
  · cases h
def nofB (K : PySem.W.Frag) (C : Addr) (fs : List Str) : Bool := fs.all fun f => decide (PySem.W.findIn K (.ref C) f = some none)
theorem nofB_ok {K : PySem.W.Frag} {C : Addr} {fs : List Str} (h : nofB K C fs = true) : ∀ f ∈ fs, PySem.W.findIn K (.ref C) f = some none := fun f hf => of_decide_eq_true (List.all_eq_true.mp h f hf)
/-- all of one error class but its name and its __init__ -/
def eclB (K : PySem.W.Frag) (C C0 : Addr) (fs : List Str) : Bool := errB K C && (clsB K C (.ref C0 :: veT) && nofB K C fs)
theorem eclB_ok {K : PySem.W.Frag} {C C0 : Addr} {fs : List Str} (h : eclB K C C0 fs = true) : ErrF K C ∧ (∃ nm q N bs sn sub ab col dd k0 k1 k2 k3 k5, K.lookup C = some (excClassObj nm q C N bs (.ref C0 :: veT) true sn sub ab col dd k0 k1 k2 k3 k5 "ValueError.__new__")) ∧ ∀ f ∈ fs, PySem.W.findIn K (.ref C) f = some none := by
  unfold eclB at h
  obtain ⟨h1, h⟩ := Bool.and_eq_true_iff.mp h
  obtain ⟨h2, h3⟩ := Bool.and_eq_true_iff.mp h
  exact ⟨errB_ok h1, clsB_ok h2, nofB_ok h3⟩
theorem ecl_mro {K : PySem.W.Frag} {C C0 : Addr} {fs : List Str} (h : eclB K C C0 fs = true) : MroIs K C (.ref C :: .ref C0 :: veT) := by
  obtain ⟨_, ⟨_, _, _, _, _, _, _, _, _, _, _, _, _, _, l⟩, _⟩ := eclB_ok h
  exact mro_of l
theorem errMk_of {K : PySem.W.Frag} {mg : Str → Option Value} {C C0 : Addr} {x qu : Str} {st : Stmt} {ps fs : List Str} {fI : Addr} {fd : FuncData} (gl : mg x = some (.ref C)) (e : eclB K C C0 fs = true) (ini : PySem.W.findIn K (.ref C) "__init__" = some (some (.ref fI)))
    (tI : PySem.W.typeIn K (.ref fI) = some (.type "function")) (fn : Fun K "__init__" qu st fI fd) (bi : Binds K fd ps []) : ErrMk K mg C x qu st ps fs fI fd := by
  obtain ⟨_, ⟨nm, q, N, bs, sn, sub, ab, col, dd, k0, k1, k2, k3, k5, l⟩, nf⟩ := eclB_ok e
  exact ⟨gl, ⟨nm, q, N, bs, _, sn, sub, ab, col, dd, k0, k1, k2, k3, k5, l, rfl⟩, ini, tI, fn, bi, nf⟩
theorem getD_inj {l : List Nat} (h : l.Nodup) {i j : Nat} (hi : i < l.length) (hj : j < l.length) (e : l.getD i 0 = l.getD j 0) : i = j := by
  rw [List.getD_eq_getElem?_getD, List.getD_eq_getElem?_getD, List.getElem?_eq_getElem hi, List.getElem?_eq_getElem hj] at e
  exact (List.getElem_inj h).mp e
end Fx

/-! FxR: the programs run, as rewritings. -/
namespace Fx
open PySem PySem.Spec PyProof.Rows L2

def Out.bind {α β : Type} (o : Out α) (f : α → Store → Out β) : Out β := match o with
  | .ok a S => f a S
  | .exc c ns vs S => .exc c ns vs S
  | .stuck => .stuck
def Out.toS {α : Type} (o : Out α) (env : En) (f : α → Store → SOut) : SOut := match o with
  | .ok a S => f a S
  | .exc c ns vs S => .exc c ns vs env S
  | .stuck => .stuck
def SOut.then (o : SOut) (b : RS) : SOut := match o with
  | .nx env S => b env S
  | o => o
def SOut.toO (o : SOut) : Out PV := match o with
  | .rt p S => .ok p S
  | .nx _ S => .ok .non S
  | .exc c ns qs _ S => .exc c ns qs S
  | _ => .stuck
def slotV : Option Slot → Store → Out PV
  | some (.val p), S => .ok p S
  | _, _ => .stuck
def slotB : Option Slot → Store → Out PV
  | some (.val p), S => .ok p S
  | some (.own xs), S => .ok (.lst xs) S
  | _, _ => .stuck
def optV : Option PV → Store → Out PV
  | some p, S => .ok p S
  | none, _ => .stuck
def optB : Option Bool → Store → Out Bool
  | some p, S => .ok p S
  | none, _ => .stuck
def blV : PV → Store → Out Bool
  | .bl b, S => .ok b S
  | _, _ => .stuck
section
variable {α β : Type} {a : α} {S S1 : Store} {env : En} {c n i : Nat} {ns : List Str} {vs : List PV} {p q : PV} {xs ys ps : List PV} {x y : Str}
theorem ob_ok (f : α → Store → Out β) : (Out.ok a S).bind f = f a S := rfl
theorem ob_exc (f : α → Store → Out β) : (Out.exc c ns vs S : Out α).bind f = .exc c ns vs S := rfl
theorem ob_stuck (f : α → Store → Out β) : (Out.stuck : Out α).bind f = .stuck := rfl
theorem ob_ite {P : Prop} [Decidable P] (a b : Out α) (f : α → Store → Out β) : (if P then a else b).bind f = if P then a.bind f else b.bind f := by split <;> rfl
theorem os_ok (f : α → Store → SOut) : (Out.ok a S).toS env f = f a S := rfl
theorem os_exc (f : α → Store → SOut) : (Out.exc c ns vs S : Out α).toS env f = .exc c ns vs env S := rfl
theorem os_stuck (f : α → Store → SOut) : (Out.stuck : Out α).toS env f = .stuck := rfl
theorem os_ite {P : Prop} [Decidable P] (a b : Out α) (f : α → Store → SOut) : (if P then a else b).toS env f = if P then a.toS env f else b.toS env f := by split <;> rfl
theorem st_nx (b : RS) : (SOut.nx env S).then b = b env S := rfl
theorem st_rt (b : RS) : (SOut.rt p S).then b = .rt p S := rfl
theorem st_bk (b : RS) : (SOut.bk env S).then b = .bk env S := rfl
theorem st_ct (b : RS) : (SOut.ct env S).then b = .ct env S := rfl
theorem st_exc (b : RS) : (SOut.exc c ns vs env S).then b = .exc c ns vs env S := rfl
theorem st_stuck (b : RS) : SOut.stuck.then b = .stuck := rfl
theorem st_ite {P : Prop} [Decidable P] (a b : SOut) (r : RS) : (if P then a else b).then r = if P then a.then r else b.then r := by split <;> rfl
theorem so_rt : (SOut.rt p S).toO = .ok p S := rfl
theorem so_nx : (SOut.nx env S).toO = .ok .non S := rfl
theorem so_exc : (SOut.exc c ns vs env S).toO = .exc c ns vs S := rfl
theorem so_stuck : SOut.stuck.toO = .stuck := rfl
theorem so_ite {P : Prop} [Decidable P] (a b : SOut) : (if P then a else b).toO = if P then a.toO else b.toO := by split <;> rfl
theorem sv_val : slotV (some (.val p)) S = .ok p S := rfl
theorem sb_val : slotB (some (.val p)) S = .ok p S := rfl
theorem sb_own : slotB (some (.own xs)) S = .ok (.lst xs) S := rfl
theorem ov_some : optV (some p) S = .ok p S := rfl
theorem obb_some {b : Bool} : optB (some b) S = .ok b S := rfl
theorem bl_run {b : Bool} : blV (.bl b) S = .ok b S := rfl
/-! expressions -/
theorem rC_run : rC p env S = .ok p S := rfl
theorem rVar_run : rVar i env S = slotV env[i]? S := by
  unfold rVar slotV
  cases env[i]? with
  | none => rfl
  | some s => cases s <;> rfl
theorem rBor_run : rBor i env S = slotB env[i]? S := by
  unfold rBor slotB
  cases env[i]? with
  | none => rfl
  | some s => cases s <;> rfl
theorem rOp_run {op : PV → PV → M PV} {ra rb : RE} : rOp op ra rb env S = (ra env S).bind fun p S1 => (rb env S1).bind fun q S2 => op p q S2 := by
  unfold rOp M.bind Out.bind
  cases ra env S <;> rfl
theorem rDGet_run {ra rb : RE} : rDGet ra rb env S = (ra env S).bind fun p S1 => (rb env S1).bind fun q S2 => opDGet p q S2 := rOp_run
theorem rIx_run {ra rb : RE} : rIx ra rb env S = (ra env S).bind fun p S1 => (rb env S1).bind fun q S2 => opIx p q S2 := rOp_run
theorem raNil_run : raNil env S = .ok [] S := rfl
theorem raCons_run {r : RE} {rs : RA} : raCons r rs env S = (r env S).bind fun p S1 => (rs env S1).bind fun ps S2 => .ok (p :: ps) S2 := by
  unfold raCons M.bind Out.bind
  cases r env S with
  | ok a S1 =>
    dsimp only
    cases rs env S1 <;> rfl
  | exc => rfl
  | stuck => rfl
theorem mb_run {m : En → M α} {f : α → M β} : M.bind (m env) f S = (m env S).bind f := by
  unfold M.bind Out.bind
  cases m env S <;> rfl
theorem ite_run {P : Prop} [Decidable P] {a b : M α} : (if P then a else b) S = if P then a S else b S := by split <;> rfl
theorem rTup_run {rs : RA} : rTup rs env S = (rs env S).bind fun ps S1 => if ps.length ≤ sizeLine then .ok (.tup ps) S1 else .stuck := by
  unfold rTup
  rw [mb_run]
  congr 1
  funext ps S1
  rw [ite_run]; rfl
theorem rLst_run {rs : RA} : rLst rs env S = (rs env S).bind fun ps S1 => if ps.length ≤ sizeLine then .ok (.lst ps) S1 else .stuck := by
  unfold rLst
  rw [mb_run]
  congr 1
  funext ps S1
  rw [ite_run]; rfl
theorem rDct_run {ks : List Key} {rs : RA} : rDct ks rs env S = (rs env S).bind fun ps S1 => if ks.length = ps.length then .ok (.dct ks ps) S1 else .stuck := by
  unfold rDct
  rw [mb_run]
  congr 1
  funext ps S1
  rw [ite_run]; rfl
theorem rCell_run {ks : List Key} {rs : RA} : rCell ks rs env S = (rs env S).bind fun ps S1 => if ks.length = ps.length then .ok (.ref S1.length) (S1 ++ [ks.zip ps]) else .stuck := by
  unfold rCell
  rw [mb_run]
theorem rCell0_run : rCell0 env S = .ok (.ref S.length) (S ++ [[]]) := rfl
theorem rCall_run {F : List PV → M PV} {rs : RA} : rCall F n rs env S = (rs env S).bind fun ps S1 => if ps.length = n then F ps S1 else .stuck := by
  unfold rCall
  rw [mb_run]
  congr 1
  funext ps S1
  rw [ite_run]; rfl
theorem rBlt_run {op : List PV → M PV} {rs : RA} : rBlt op rs env S = (rs env S).bind op := by
  unfold rBlt
  rw [mb_run]
theorem rLen_run {ra : RE} : rLen ra env S = (ra env S).bind opLen := by unfold rLen; rw [mb_run]
theorem rList_run {ra : RE} : rList ra env S = (ra env S).bind opList := by unfold rList; rw [mb_run]
theorem rTuple_run {ra : RE} : rTuple ra env S = (ra env S).bind opTuple := by unfold rTuple; rw [mb_run]
theorem rRepr_run {sy : Bool} {ra : RE} : rRepr sy ra env S = (ra env S).bind (opRepr sy) := by unfold rRepr; rw [mb_run]
theorem opRepr_run {sy : Bool} : opRepr sy p S = optV ((reprPV sy p).map PV.str) S := by
  unfold opRepr
  cases reprPV sy p <;> rfl
def negV : PV → Store → Out PV
  | .int i, S => .ok (.int (-i)) S
  | _, _ => .stuck
theorem negV_int {i : Int} : negV (.int i) S = .ok (.int (-i)) S := rfl
theorem rNeg_run {ra : RE} : rNeg ra env S = (ra env S).bind negV := by
  unfold rNeg
  rw [mb_run]
  congr 1
  funext p S1
  cases p <;> rfl
theorem rTruB_run {ra : RE} : rTruB ra env S = (ra env S).bind blV := by
  unfold rTruB
  rw [mb_run]
  congr 1
  funext p S1
  cases p <;> rfl
theorem rTru_run {ra : RE} : rTru ra env S = (ra env S).bind fun p S1 => optB (truPV p) S1 := by
  unfold rTru
  rw [mb_run]
  congr 1
  funext p S1
  cases truPV p <;> rfl
theorem rtAnd_run {ra rb : RT} : rtAnd ra rb env S = (ra env S).bind fun c S1 => if c = true then rb env S1 else .ok false S1 := by
  unfold rtAnd
  rw [mb_run]
  congr 1
  funext p S1
  rw [ite_run]; rfl
theorem rtOr_run {ra rb : RT} : rtOr ra rb env S = (ra env S).bind fun c S1 => if c = true then .ok true S1 else rb env S1 := by
  unfold rtOr
  rw [mb_run]
  congr 1
  funext p S1
  rw [ite_run]; rfl
theorem rtNot_run {ra : RT} : rtNot ra env S = (ra env S).bind fun c S1 => .ok (!c) S1 := by
  unfold rtNot
  rw [mb_run]
  rfl
theorem rIfE_run {c : RT} {ra rb : RE} : rIfE c ra rb env S = (c env S).bind fun k S1 => if k = true then ra env S1 else rb env S1 := by
  unfold rIfE
  rw [mb_run]
  congr 1
  funext p S1
  rw [ite_run]
def andV (c : Option Bool) (p : PV) (r : Store → Out PV) (S : Store) : Out PV := match c with
  | some true => r S
  | some false => .ok p S
  | none => .stuck
theorem andV_t {r : Store → Out PV} : andV (some true) p r S = r S := rfl
theorem andV_f {r : Store → Out PV} : andV (some false) p r S = .ok p S := rfl
theorem rAndV_run {ra rb : RE} : rAndV ra rb env S = (ra env S).bind fun p S1 => andV (truPV p) p (rb env) S1 := by
  unfold rAndV
  rw [mb_run]
  congr 1
  funext p S1
  cases truPV p with
  | none => rfl
  | some b => cases b <;> rfl
theorem rOrV_run {ra rb : RE} : rOrV ra rb env S = (ra env S).bind fun p S1 => andV ((truPV p).map (!·)) p (rb env) S1 := by
  unfold rOrV
  rw [mb_run]
  congr 1
  funext p S1
  cases truPV p with
  | none => rfl
  | some b => cases b <;> rfl
theorem rNotV_run {ra : RE} : rNotV ra env S = (ra env S).bind fun p S1 => optV ((truPV p).map fun b => .bl (!b)) S1 := by
  unfold rNotV
  rw [mb_run]
  congr 1
  funext p S1
  cases truPV p <;> rfl
/-! operations -/
theorem add_int {i j : Int} : opAdd (.int i) (.int j) S = .ok (.int (i + j)) S := rfl
theorem add_lst : opAdd (.lst xs) (.lst ys) S = if xs.length + ys.length ≤ sizeLine then .ok (.lst (xs ++ ys)) S else .stuck := by
  unfold opAdd; dsimp only; rw [ite_run]; rfl
theorem add_tup : opAdd (.tup xs) (.tup ys) S = if xs.length + ys.length ≤ sizeLine then .ok (.tup (xs ++ ys)) S else .stuck := by
  unfold opAdd; dsimp only; rw [ite_run]; rfl
theorem add_str : opAdd (.str x) (.str y) S = if x.length + y.length ≤ sizeLine then .ok (.str (x ++ y)) S else .stuck := by
  unfold opAdd; dsimp only; rw [ite_run]; rfl
theorem sub_int {i j : Int} : opSub (.int i) (.int j) S = .ok (.int (i - j)) S := rfl
theorem mul_int {i j : Int} : opMul (.int i) (.int j) S = if mulFits i j = true then .ok (.int (i * j)) S else .stuck := by
  unfold opMul; dsimp only; rw [ite_run]; rfl
theorem mod_int {i j : Int} : opMod (.int i) (.int j) S = if j ≠ 0 then .ok (.int (i.fmod j)) S else .stuck := by
  unfold opMod; dsimp only; rw [ite_run]; rfl
theorem div_int {i j : Int} : opDiv (.int i) (.int j) S = if j ≠ 0 ∧ j.natAbs.log2 < 9000 then .ok (.int (i.fdiv j)) S else .stuck := by
  unfold opDiv; dsimp only; rw [ite_run]; rfl
theorem pow_int {i j : Int} : opPow (.int i) (.int j) S = if 0 ≤ j ∧ j ≤ 1000000 ∧ i.natAbs < 2 ^ 64 then .ok (.int (i ^ j.toNat)) S else .stuck := by
  unfold opPow; dsimp only; rw [ite_run]; rfl
theorem cmp_int {g : Int → Int → Bool} {i j : Int} : opCmp g (.int i) (.int j) S = .ok (.bl (g i j)) S := rfl
theorem eq_run : opEq p q S = optV ((eqPV p q).map PV.bl) S := by
  unfold opEq
  cases eqPV p q <;> rfl
theorem ne_run : opNe p q S = optV ((eqPV p q).map fun b => PV.bl (!b)) S := by
  unfold opNe
  cases eqPV p q <;> rfl
theorem eqPV_int {i j : Int} : eqPV (.int i) (.int j) = some (decide (i = j)) := by
  have h : PyData.eqv (.int i) (.int j) = decide (i = j) := by
    unfold PyData.eqv
    by_cases h : i = j <;> simp [h]
  unfold eqPV eqPD
  simp only [toD]
  rw [if_pos ⟨rfl, rfl⟩, h]
theorem eqPV_str : eqPV (.str x) (.str y) = some (decide (x = y)) := rfl
theorem is_non : opIs false p .non S = .ok (.bl (match p with | .non => true | _ => false)) S := by cases p <;> rfl
theorem isnt_non : opIs true p .non S = .ok (.bl (match p with | .non => false | _ => true)) S := by cases p <;> rfl
def dget (c : Option Cell) (k : Key) (S : Store) : Out PV := match c with
  | some c => optV (cget c k) S
  | none => .stuck
theorem dget_some {c : Cell} {k : Key} : dget (some c) k S = optV (cget c k) S := rfl
theorem dget_run : opDGet (.ref n) (.str x) S = dget S[n]? (.inr x) S := by
  unfold opDGet keyOf dget optV
  dsimp only
  cases S[n]? with
  | none => rfl
  | some c =>
    dsimp only
    cases cget c (.inr x) <;> rfl
theorem ix_lst {i : Int} : opIx (.lst xs) (.int i) S = optV (atI xs i) S := by
  unfold opIx
  simp only [seqPV]
  cases atI xs i <;> rfl
theorem ix_tup {i : Int} : opIx (.tup xs) (.int i) S = optV (atI xs i) S := by
  unfold opIx
  simp only [seqPV]
  cases atI xs i <;> rfl
theorem len_lst : opLen (.lst xs) S = .ok (.int xs.length) S := rfl
theorem len_tup : opLen (.tup xs) S = .ok (.int xs.length) S := rfl
theorem len_scr {ns : List Int} : opLen (.scr ns) S = .ok (.int (ns.map PV.int).length) S := rfl
theorem list_lst : opList (.lst xs) S = .ok (.lst xs) S := rfl
theorem list_tup : opList (.tup xs) S = .ok (.lst xs) S := rfl
theorem list_scr {ns : List Int} : opList (.scr ns) S = .ok (.lst (ns.map PV.int)) S := rfl
theorem int_run {i : Int} : bInt [.int i] S = .ok (.int i) S := rfl
theorem abs_run {i : Int} : bAbs [.int i] S = .ok (.int (if i < 0 then -i else i)) S := rfl
/-! what is walked -/
def seqO : Option (SqK × List PV) → Store → Out (List PV)
  | some (_, xs), S => .ok xs S
  | none, _ => .stuck
theorem seqO_some {k : SqK} : seqO (some (k, xs)) S = .ok xs S := rfl
theorem riSeq_run {ra : RE} : riSeq ra env S = (ra env S).bind fun p S1 => seqO (seqPV p) S1 := by
  unfold riSeq opSeqL
  rw [mb_run]
  congr 1
  funext p S1
  cases seqPV p with
  | none => rfl
  | some kp => cases kp; rfl
theorem riRg1_run {rs : RA} : riRg1 rs env S = (rs env S).bind opRg1 := by unfold riRg1; rw [mb_run]
theorem rg1_run {j : Int} : opRg1 [.int j] S = if j < 2 ^ 62 ∧ -(2 ^ 62) ≤ j then .ok (rangeL 0 j.toNat) S else .stuck := by
  unfold opRg1; dsimp only; rw [ite_run]; rfl
theorem riRg2_run {rs : RA} : riRg2 rs env S = (rs env S).bind opRg2 := by unfold riRg2; rw [mb_run]
theorem rg2_run {i j : Int} : opRg2 [.int i, .int j] S = if -(2 ^ 62) ≤ i ∧ i < 2 ^ 62 ∧ -(2 ^ 62) ≤ j ∧ j < 2 ^ 62 then .ok (rangeL i (j - i).toNat) S else .stuck := by
  unfold opRg2; dsimp only; rw [ite_run]; rfl
theorem gnm_run : gnm i p env = some (env.set i (.val p)) := rfl
/-! statements -/
theorem sBind_run {m : En → M α} {f : α → RS} : sBind m f env S = (m env S).toS env fun a S1 => f a env S1 := by
  unfold sBind Out.toS
  cases m env S <;> rfl
theorem sSeq_run {a b : RS} : sSeq a b env S = (a env S).then b := by
  unfold sSeq SOut.then
  cases a env S <;> rfl
theorem sNext_run : sNext env S = .nx env S := rfl
theorem sBreak_run : sBreak env S = .bk env S := rfl
theorem sCont_run : sCont env S = .ct env S := rfl
theorem sRet_run {r : RE} : sRet r env S = (r env S).toS env fun p S1 => .rt p S1 := sBind_run
theorem sRetN_run : sRetN env S = .rt .non S := rfl
theorem sExpr_run {r : RE} : sExpr r env S = (r env S).toS env fun _ S1 => .nx env S1 := sBind_run
theorem sSet_run {r : RE} : sSet i r env S = (r env S).toS env fun p S1 => .nx (env.set i (.val p)) S1 := sBind_run
theorem sIf_run {c : RT} {a b : RS} : sIf c a b env S = (c env S).toS env fun k S1 => if k = true then a env S1 else b env S1 := by
  unfold sIf
  rw [sBind_run]
  congr 1
  funext k S1
  split <;> rfl
def dput (c : Option Cell) (n : Nat) (k : Key) (p : PV) (env : En) (S : Store) : SOut := match c with
  | some c => if c.length < sizeLine then .nx env (S.set n (cput c k p)) else .stuck
  | none => .stuck
theorem dput_some {c : Cell} {k : Key} : dput (some c) n k p env S = if c.length < sizeLine then .nx env (S.set n (cput c k p)) else .stuck := rfl
def dputAt (p d q : PV) (env : En) (S : Store) : SOut := match d, keyOf q with
  | .ref n, some k => dput S[n]? n k p env S
  | _, _ => .stuck
theorem dputAt_run : dputAt p (.ref n) (.str x) env S = dput S[n]? n (.inr x) p env S := rfl
theorem sDPut_run {rd rk rv : RE} : sDPut rd rk rv env S = (rv env S).toS env fun p S1 => (rd env S1).toS env fun d S2 => (rk env S2).toS env fun q S3 => dputAt p d q env S3 := by
  unfold sDPut
  rw [sBind_run]
  congr 1
theorem sPar_run {is : List Nat} {rs : RA} : sPar is rs env S = (rs env S).toS env fun ps S1 => if ps.length = is.length then .nx ((is.zip ps).foldl (fun e x => e.set x.1 (.val x.2)) env) S1 else .stuck := sBind_run
theorem sOwn_run {r : RA} : sOwn i r env S = (r env S).toS env fun ps S1 => .nx (env.set i (.own ps)) S1 := sBind_run
theorem rlLst_run {rs : RA} : rlLst rs env S = (rs env S).bind fun ps S1 => if ps.length ≤ sizeLine then .ok ps S1 else .stuck := by
  unfold rlLst
  rw [mb_run]
  congr 1
  funext ps S1
  rw [ite_run]; rfl
def appO (p : PV) (i : Nat) (env : En) (S : Store) : Option Slot → SOut
  | some (.own xs) => if xs.length < sizeLine then .nx (env.set i (.own (xs ++ [p]))) S else .stuck
  | _ => .stuck
theorem appO_run : appO p i env S (some (.own xs)) = if xs.length < sizeLine then .nx (env.set i (.own (xs ++ [p]))) S else .stuck := rfl
def appH (r : RE) (i : Nat) (env : En) (S : Store) : Option Slot → SOut
  | some (.own _) => (r env S).toS env fun p S1 => appO p i env S1 env[i]?
  | _ => .stuck
theorem appH_run {r : RE} : appH r i env S (some (.own xs)) = (r env S).toS env fun p S1 => appO p i env S1 env[i]? := rfl
theorem sAppend_run {r : RE} : sAppend i r env S = appH r i env S env[i]? := by
  unfold sAppend appH
  cases e : env[i]? with
  | none => rfl
  | some s =>
    cases s with
    | own xs =>
      dsimp only
      rw [sBind_run]
      congr 1
      funext p S1
      rw [e]
      rfl
    | _ => rfl
def frzO (i : Nat) (r : RS) (env : En) (S : Store) : Option Slot → SOut
  | some (.own xs) => r (env.set i (.val (.lst xs))) S
  | _ => .stuck
theorem frzO_run {r : RS} : frzO i r env S (some (.own xs)) = r (env.set i (.val (.lst xs))) S := rfl
theorem sFrz_run {r : RS} : sFrz i r env S = frzO i r env S env[i]? := by
  unfold sFrz frzO
  cases env[i]? with
  | none => rfl
  | some s => cases s <;> rfl
theorem sRaise_run {fs : List Str} {rs : RA} : sRaise c fs rs env S = (rs env S).toS env fun ps S1 => if ps.length = fs.length ∧ ps.length ≤ 1000 then .exc c fs.reverse ps.reverse env S1 else .stuck := sBind_run
theorem sRaise0_run : sRaise0 c env S = .exc c [] [] env S := rfl
def suO (i : Nat) : SOut → SOut
  | .nx e S => endTry i .nx e S
  | .bk e S => endTry i .bk e S
  | .ct e S => endTry i .ct e S
  | .rt p S => .rt p S
  | _ => .stuck
theorem suO_nx : suO i (.nx env S) = endTry i .nx env S := rfl
theorem suO_rt : suO i (.rt p S) = .rt p S := rfl
theorem suO_ite {P : Prop} [Decidable P] (a b : SOut) : suO i (if P then a else b) = if P then suO i a else suO i b := by split <;> rfl
theorem endTry_run {f : En → Store → SOut} : endTry i f env S = if clean (env.set i .no) = true then f (env.set i .no) S else .stuck := rfl
def subO (i : Nat) (su : RS) (b : Option Bool) (c : Nat) (ns : List Str) (vs : List PV) (env : En) (S : Store) : SOut := match b with
  | some true => suO i (su (env.set i (.exc c ns vs)) S)
  | some false => .exc c ns vs env S
  | none => .stuck
theorem subO_t {su : RS} : subO i su (some true) c ns vs env S = suO i (su (env.set i (.exc c ns vs)) S) := rfl
theorem subO_f {su : RS} : subO i su (some false) c ns vs env S = .exc c ns vs env S := rfl
def tryO (sub : Nat → Option Bool) (i : Nat) (su : RS) : SOut → SOut
  | .exc c ns vs env S => subO i su (sub c) c ns vs env S
  | o => o
theorem tryO_exc {sub : Nat → Option Bool} {su : RS} : tryO sub i su (.exc c ns vs env S) = subO i su (sub c) c ns vs env S := rfl
theorem tryO_nx {sub : Nat → Option Bool} {su : RS} : tryO sub i su (.nx env S) = .nx env S := rfl
theorem tryO_rt {sub : Nat → Option Bool} {su : RS} : tryO sub i su (.rt p S) = .rt p S := rfl
theorem tryO_ite {sub : Nat → Option Bool} {su : RS} {P : Prop} [Decidable P] (a b : SOut) : tryO sub i su (if P then a else b) = if P then tryO sub i su a else tryO sub i su b := by split <;> rfl
theorem sTry_run {sub : Nat → Option Bool} {b su : RS} : sTry sub i b su env S = tryO sub i su (b env S) := by
  unfold sTry tryO subO suO
  cases b env S with
  | exc c ns vs e1 S1 =>
    first
      | rfl
      | (dsimp only
         rcases sub c with _ | _ | _ <;> first | rfl | (dsimp only; cases su (e1.set i (.exc c ns vs)) S1 <;> rfl))
  | _ => rfl
theorem sFor_run {ri : RA} {f : RG} {b : RS} : sFor ri f b env S = (ri env S).toS env fun ps S1 => forL f b ps env S1 := sBind_run
theorem forL_nil {f : RG} {b : RS} : forL f b [] env S = .nx env S := rfl
def forO (f : RG) (b : RS) (ps : List PV) : SOut → SOut
  | .nx e S => forL f b ps e S
  | .ct e S => forL f b ps e S
  | .bk e S => .nx e S
  | o => o
theorem forO_nx {f : RG} {b : RS} : forO f b ps (.nx env S) = forL f b ps env S := rfl
theorem forO_ct {f : RG} {b : RS} : forO f b ps (.ct env S) = forL f b ps env S := rfl
theorem forO_bk {f : RG} {b : RS} : forO f b ps (.bk env S) = .nx env S := rfl
theorem forO_rt {f : RG} {b : RS} : forO f b ps (.rt p S) = .rt p S := rfl
theorem forO_ite {f : RG} {b : RS} {P : Prop} [Decidable P] (u v : SOut) : forO f b ps (if P then u else v) = if P then forO f b ps u else forO f b ps v := by split <;> rfl
theorem forL_cons {b : RS} : forL (gnm i) b (p :: ps) env S = forO (gnm i) b ps (b (env.set i (.val p)) S) := by
  unfold forL forO
  first
    | rfl
    | (rw [gnm_run]; done)
    | (rw [gnm_run]; rfl)
    | (rw [gnm_run]; dsimp only; cases b (env.set i (.val p)) S <;> rfl)
theorem runF_run {r : RS} : runF n r ps S = (r (enter n ps) S).toO := by
  unfold runF SOut.toO
  cases r (enter n ps) S <;> rfl
def toX : SOut → Out PV
  | .rt p S => .ok p S
  | .nx _ S => .ok .non S
  | _ => .stuck
theorem toX_rt : toX (.rt p S) = .ok p S := rfl
theorem toX_nx : toX (.nx env S) = .ok .non S := rfl
theorem toX_ite {P : Prop} [Decidable P] (a b : SOut) : toX (if P then a else b) = if P then toX a else toX b := by split <;> rfl
theorem runH_run {r : RS} : runH n r c ns vs S = toX (r (.exc c ns vs :: List.replicate (n - 1) .no) S) := by
  unfold runH toX
  cases r (.exc c ns vs :: List.replicate (n - 1) .no) S <;> rfl
/-! the caught error -/
def xisO (f : Nat → Option Bool) : Option Slot → Store → Out PV
  | some (.exc c _ _), S => optV ((f c).map PV.bl) S
  | _, _ => .stuck
theorem xisO_run {f : Nat → Option Bool} : xisO f (some (.exc c ns vs)) S = optV ((f c).map PV.bl) S := rfl
theorem rXIs_run {f : Nat → Option Bool} : rXIs i f env S = xisO f env[i]? S := by
  unfold rXIs xisO
  cases env[i]? with
  | none => rfl
  | some s =>
    cases s with
    | exc c ns vs => first | rfl | (dsimp only; cases f c <;> rfl)
    | _ => rfl
def xfO (flds : Nat → List Str) (f : Str) : Option Slot → Store → Out PV
  | some (.exc c ns vs), S => if f ∈ flds c then optV ((ns.zip vs).lookup f) S else .stuck
  | _, _ => .stuck
theorem xfO_run {flds : Nat → List Str} {f : Str} : xfO flds f (some (.exc c ns vs)) S = if f ∈ flds c then optV ((ns.zip vs).lookup f) S else .stuck := rfl
theorem rXF_run {flds : Nat → List Str} {f : Str} : rXF i flds f env S = xfO flds f env[i]? S := by
  unfold rXF xfO
  cases env[i]? with
  | none => rfl
  | some s =>
    cases s with
    | exc c ns vs =>
      dsimp only
      rw [ite_run]
      split
      · cases (ns.zip vs).lookup f <;> rfl
      · rfl
    | _ => rfl
def okO : Out PV → Out PV
  | .ok r S => .ok r S
  | _ => .stuck
theorem okO_ok : okO (.ok p S) = .ok p S := rfl
def cxO (F : XFn) (S : Store) : Option Slot → Out PV
  | some (.exc c ns vs) => okO (F c ns vs S)
  | _ => .stuck
theorem cxO_run {F : XFn} : cxO F S (some (.exc c ns vs)) = okO (F c ns vs S) := rfl
theorem rCallX_run {F : XFn} : rCallX F i env S = cxO F S env[i]? := by
  unfold rCallX cxO okO
  cases env[i]? with
  | none => rfl
  | some s =>
    cases s with
    | exc c ns vs => first | rfl | (dsimp only; cases F c ns vs S <;> rfl)
    | _ => rfl
end
end Fx

/-! FxP: the pen of the laws: what _law_pen, _law_draw, _law_pick do. -/
namespace Fx
open PySem PySem.Spec PyProof.Rows L2
namespace P
def r_u_law_pen : RS :=
  (sSeq (sSet 1 (rC (.int 0)))
  (sSeq (sFor (riSeq (rVar 0)) (gnm 2) (sSet 1 (rOp opMod (rBlt bInt (raCons (rOp opAdd (rOp opMul (rVar 1) (rC (.int 47))) (rVar 2)) raNil)) (rC (.int 1000000007)))))
  (sRet (rCell [.inr "cells", .inr "at", .inr "digits", .inr "count", .inr "fold"] (raCons (rList (rVar 0)) (raCons (rC (.int 0)) (raCons (rC (.int 0)) (raCons (rC (.int 0)) (raCons (rVar 1) raNil)))))))))
def F_u_law_pen : List PV → M PV := runF 3 r_u_law_pen
def r_u_law_draw : RS :=
  (sSeq (sDPut (rVar 0) (rC (.str "count")) (rOp opAdd (rDGet (rVar 0) (rC (.str "count"))) (rC (.int 1))))
  (sSeq (sIf (rtAnd (rTruB (rOp opEq (rDGet (rVar 0) (rC (.str "digits"))) (rC (.int 0)))) (rTruB (rOp (opCmp fun i j => decide (i < j)) (rDGet (rVar 0) (rC (.str "at"))) (rLen (rDGet (rVar 0) (rC (.str "cells"))))))) (sSeq (sSet 3 (rIx (rDGet (rVar 0) (rC (.str "cells"))) (rDGet (rVar 0) (rC (.str "at")))))
  (sSeq (sDPut (rVar 0) (rC (.str "at")) (rOp opAdd (rDGet (rVar 0) (rC (.str "at"))) (rC (.int 1))))
  (sIf (rTruB (rOp (opCmp fun i j => decide (j ≤ i)) (rVar 3) (rOp opPow (rC (.int 10)) (rC (.int 18))))) (sDPut (rVar 0) (rC (.str "digits")) (rOp opSub (rVar 3) (rOp opPow (rC (.int 10)) (rC (.int 18))))) (sDPut (rVar 0) (rC (.str "fold")) (rOp opMod (rBlt bInt (raCons (rOp opAdd (rOp opMul (rDGet (rVar 0) (rC (.str "fold"))) (rC (.int 69069))) (rVar 3)) raNil)) (rC (.int 2147483587))))))) sNext)
  (sSeq (sIf (rTruB (rOp (opCmp fun i j => decide (j < i)) (rDGet (rVar 0) (rC (.str "digits"))) (rC (.int 0)))) (sSeq (sSet 4 (rOp opMod (rBlt bInt (raCons (rDGet (rVar 0) (rC (.str "digits"))) raNil)) (rVar 1)))
  (sSeq (sDPut (rVar 0) (rC (.str "digits")) (rOp opDiv (rDGet (rVar 0) (rC (.str "digits"))) (rVar 1)))
  (sRet (rVar 4)))) sNext)
  (sSeq (sSet 2 (rOp opMod (rBlt bInt (raCons (rOp opAdd (rOp opAdd (rOp opMul (rDGet (rVar 0) (rC (.str "fold"))) (rC (.int 48271))) (rOp opMul (rDGet (rVar 0) (rC (.str "count"))) (rC (.int 7919)))) (rC (.int 13))) raNil)) (rC (.int 2147483647))))
  (sSeq (sSet 2 (rOp opMod (rBlt bInt (raCons (rOp opAdd (rOp opAdd (rOp opMul (rVar 2) (rVar 2)) (rOp opMul (rC (.int 31)) (rVar 2))) (rDGet (rVar 0) (rC (.str "count")))) raNil)) (rC (.int 2147483629))))
  (sSeq (sDPut (rVar 0) (rC (.str "fold")) (rOp opMod (rBlt bInt (raCons (rOp opAdd (rOp opMul (rVar 2) (rC (.int 16807))) (rC (.int 7))) raNil)) (rC (.int 2147483647))))
  (sRet (rOp opMod (rBlt bInt (raCons (rOp opDiv (rVar 2) (rC (.int 64))) raNil)) (rVar 1)))))))))
def F_u_law_draw : List PV → M PV := runF 5 r_u_law_draw
def r_u_law_pick : RS :=
  (sRet (rIx (rVar 1) (rCall F_u_law_draw 2 (raCons (rVar 0) (raCons (rLen (rVar 1)) raNil)))))
def F_u_law_pick : List PV → M PV := runF 2 r_u_law_pick

/-- the pen's dict -/
structure Pen where
  cells : List Int
  at_ : Int
  digits : Int
  count : Int
  fold : Int
def Pen.cell (p : Pen) : Cell := [(.inr "cells", .lst (p.cells.map PV.int)), (.inr "at", .int p.at_), (.inr "digits", .int p.digits), (.inr "count", .int p.count), (.inr "fold", .int p.fold)]
/-- behind at most n draws -/
structure Pen.Ok (p : Pen) (n : Nat) : Prop where
  at0 : 0 ≤ p.at_
  dg0 : 0 ≤ p.digits
  ct0 : 0 ≤ p.count
  ct : p.count ≤ n
  fd0 : 0 ≤ p.fold
  fd : p.fold < 2147483647
theorem Pen.Ok.mono {p : Pen} {n m : Nat} (h : p.Ok n) (e : n ≤ m) : p.Ok m := ⟨h.at0, h.dg0, h.ct0, by have := h.ct; omega, h.fd0, h.fd⟩
section
variable (p : Pen) (v : PV)
theorem cg_cells : cget p.cell (.inr "cells") = some (.lst (p.cells.map PV.int)) := by kernel_rfl
theorem cg_at : cget p.cell (.inr "at") = some (.int p.at_) := by kernel_rfl
theorem cg_digits : cget p.cell (.inr "digits") = some (.int p.digits) := by kernel_rfl
theorem cg_count : cget p.cell (.inr "count") = some (.int p.count) := by kernel_rfl
theorem cg_fold : cget p.cell (.inr "fold") = some (.int p.fold) := by kernel_rfl
theorem cp_at (i : Int) : cput p.cell (.inr "at") (.int i) = Pen.cell { p with at_ := i } := by kernel_rfl
theorem cp_digits (i : Int) : cput p.cell (.inr "digits") (.int i) = Pen.cell { p with digits := i } := by kernel_rfl
theorem cp_count (i : Int) : cput p.cell (.inr "count") (.int i) = Pen.cell { p with count := i } := by kernel_rfl
theorem cp_fold (i : Int) : cput p.cell (.inr "fold") (.int i) = Pen.cell { p with fold := i } := by kernel_rfl
theorem cell_len : p.cell.length < sizeLine := by
  show 5 < sizeLine
  decide
end
theorem mulFits_small {i j : Int} (hi : i.natAbs < 2 ^ 64) (hj : j.natAbs < 2 ^ 64) : mulFits i j = true := by
  unfold mulFits
  have h1 : i.natAbs.log2 < 65 := by
    by_cases h : i.natAbs = 0
    · rw [h]; decide
    · exact (Nat.log2_lt h).mpr (by omega)
  have h2 : j.natAbs.log2 < 65 := by
    by_cases h : j.natAbs = 0
    · rw [h]; decide
    · exact (Nat.log2_lt h).mpr (by omega)
  exact decide_eq_true (by omega)
theorem small_log {j : Int} (hj : j.natAbs < 2 ^ 64) : j.natAbs.log2 < 9000 := by
  by_cases h : j.natAbs = 0
  · rw [h]; decide
  · have := (Nat.log2_lt (k := 65) h).mpr (by omega)
    omega
theorem set_get {α : Type} {l : List α} {i : Nat} {a b : α} (h : l[i]? = some a) : (l.set i b)[i]? = some b := by
  rw [List.getElem?_set_self (List.getElem?_eq_some_iff.mp h).1]
theorem atI_nat {α : Type} {xs : List α} {i : Int} (h0 : 0 ≤ i) (h1 : i < xs.length) : atI xs i = xs[i.toNat]? := by
  unfold atI ixN
  have e : i < (xs.length : Int) := h1
  simp [h0, e]
theorem atI_ints {ns : List Int} {i : Int} (h0 : 0 ≤ i) (h1 : i < ns.length) : atI (ns.map PV.int) i = some (.int (ns.getD i.toNat 0)) := by
  rw [atI_nat h0 (by rw [List.length_map]; exact h1), List.getElem?_map]
  have hl : i.toNat < ns.length := by omega
  rw [List.getD_eq_getElem?_getD, List.getElem?_eq_getElem hl]
  rfl
theorem len_map {ns : List Int} : (List.map PV.int ns).length = ns.length := List.length_map ..
def drawStep (p : Pen) : Pen :=
  if p.digits = 0 ∧ p.at_ < p.cells.length then
    if 10 ^ 18 ≤ p.cells.getD p.at_.toNat 0 then { p with at_ := p.at_ + 1, digits := p.cells.getD p.at_.toNat 0 - 10 ^ 18 }
    else { p with at_ := p.at_ + 1, fold := (p.fold * 69069 + p.cells.getD p.at_.toNat 0).fmod 2147483587 }
  else p
def blend1 (p : Pen) : Int := (p.fold * 48271 + p.count * 7919 + 13).fmod 2147483647
def blend2 (p : Pen) : Int := (blend1 p * blend1 p + 31 * blend1 p + p.count).fmod 2147483629
def tailP (p1 : Pen) (many : Int) : Int × Pen :=
  if 0 < p1.digits then (p1.digits.fmod many, { p1 with digits := p1.digits.fdiv many })
  else (((blend2 p1).fdiv 64).fmod many, { p1 with fold := (blend2 p1 * 16807 + 7).fmod 2147483647 })
def drawP (p : Pen) (many : Int) : Int × Pen := tailP (drawStep { p with count := p.count + 1 }) many
theorem fmod_rng (a : Int) {b : Int} (h : 0 < b) : 0 ≤ a.fmod b ∧ a.fmod b < b := ⟨Int.fmod_nonneg_of_pos a h, Int.fmod_lt_of_pos a h⟩
theorem blend1_rng (p : Pen) : 0 ≤ blend1 p ∧ blend1 p < 2147483647 := fmod_rng _ (by decide)
theorem blend2_rng (p : Pen) : 0 ≤ blend2 p ∧ blend2 p < 2147483629 := fmod_rng _ (by decide)
def r_tail : RS :=
  (sSeq (sIf (rTruB (rOp (opCmp fun i j => decide (j < i)) (rDGet (rVar 0) (rC (.str "digits"))) (rC (.int 0)))) (sSeq (sSet 4 (rOp opMod (rBlt bInt (raCons (rDGet (rVar 0) (rC (.str "digits"))) raNil)) (rVar 1)))
  (sSeq (sDPut (rVar 0) (rC (.str "digits")) (rOp opDiv (rDGet (rVar 0) (rC (.str "digits"))) (rVar 1)))
  (sRet (rVar 4)))) sNext)
  (sSeq (sSet 2 (rOp opMod (rBlt bInt (raCons (rOp opAdd (rOp opAdd (rOp opMul (rDGet (rVar 0) (rC (.str "fold"))) (rC (.int 48271))) (rOp opMul (rDGet (rVar 0) (rC (.str "count"))) (rC (.int 7919)))) (rC (.int 13))) raNil)) (rC (.int 2147483647))))
  (sSeq (sSet 2 (rOp opMod (rBlt bInt (raCons (rOp opAdd (rOp opAdd (rOp opMul (rVar 2) (rVar 2)) (rOp opMul (rC (.int 31)) (rVar 2))) (rDGet (rVar 0) (rC (.str "count")))) raNil)) (rC (.int 2147483629))))
  (sSeq (sDPut (rVar 0) (rC (.str "fold")) (rOp opMod (rBlt bInt (raCons (rOp opAdd (rOp opMul (rVar 2) (rC (.int 16807))) (rC (.int 7))) raNil)) (rC (.int 2147483647))))
  (sRet (rOp opMod (rBlt bInt (raCons (rOp opDiv (rVar 2) (rC (.int 64))) raNil)) (rVar 1)))))))
theorem draw_tail {q : Pen} {i : Nat} {many : Int} {S : Store} {e3 : Slot} {c0 : Cell} (h0 : 0 < many) (hm : many < 2 ^ 60) (hc : 0 ≤ q.count ∧ q.count < 2 ^ 61) (hf : 0 ≤ q.fold ∧ q.fold < 2147483647) (hS : S[i]? = some c0) :
    SOut.toO (r_tail [.val (.ref i), .val (.int many), .no, e3, .no] (S.set i q.cell)) = .ok (.int (tailP q many).1) (S.set i (tailP q many).2.cell) := by
  have c1 : ∀ q : Pen, List.length q.cell < sizeLine := cell_len
  have ss : ∀ (c d : Cell), (S.set i c).set i d = S.set i d := fun c d => List.set_set ..
  have g : ∀ (c : Cell), (S.set i c)[i]? = some c := fun c => set_get hS
  have n0 : many ≠ 0 := by omega
  have f1 : many.natAbs.log2 < 9000 := small_log (by omega)
  have m1 : mulFits q.fold 48271 = true := mulFits_small (by omega) (by decide)
  have m2 : mulFits q.count 7919 = true := mulFits_small (by omega) (by decide)
  obtain ⟨b1, b2⟩ := blend1_rng q
  have m3 : mulFits (blend1 q) (blend1 q) = true := mulFits_small (by omega) (by omega)
  have m4 : mulFits 31 (blend1 q) = true := mulFits_small (by decide) (by omega)
  obtain ⟨b3, b4⟩ := blend2_rng q
  have m5 : mulFits (blend2 q) 16807 = true := mulFits_small (by omega) (by decide)
  have l64 : (Int.natAbs 64).log2 < 9000 := by decide
  have k1 : (2147483647 : Int) ≠ 0 := by decide
  have k2 : (2147483629 : Int) ≠ 0 := by decide
  have k3 : (64 : Int) ≠ 0 := by decide
  have u1 : (q.fold * 48271 + q.count * 7919 + 13).fmod 2147483647 = blend1 q := rfl
  have u2 : (blend1 q * blend1 q + 31 * blend1 q + q.count).fmod 2147483629 = blend2 q := rfl
  by_cases hd : 0 < q.digits
  · simp only [r_tail, ob_ok, ob_exc, ob_stuck, ob_ite, os_ok, os_exc, os_stuck, os_ite, st_nx, st_rt, st_bk, st_ct, st_exc, st_stuck, st_ite, so_rt, so_nx, so_exc, so_stuck, so_ite, sv_val, sb_val, sb_own, ov_some, obb_some, bl_run, rC_run, rVar_run, rBor_run, rOp_run, rDGet_run, rIx_run, raNil_run, raCons_run, rTup_run, rLst_run, rDct_run, rCell_run, rCell0_run, rCall_run, rBlt_run, rLen_run, rList_run, rTuple_run, rRepr_run, opRepr_run, negV_int, rNeg_run, rTruB_run, rTru_run, rtAnd_run, rtOr_run, rtNot_run, rIfE_run, andV_t, andV_f, rAndV_run, rOrV_run, rNotV_run, add_int, add_lst, add_tup, add_str, sub_int, mul_int, mod_int, div_int, pow_int, cmp_int, eq_run, ne_run, eqPV_int, eqPV_str, is_non, isnt_non, dget_some, dget_run, ix_lst, ix_tup, len_lst, len_tup, len_scr, list_lst, list_tup, list_scr, int_run, abs_run, seqO_some, riSeq_run, riRg1_run, rg1_run, riRg2_run, rg2_run, gnm_run, sBind_run, sSeq_run, sNext_run, sBreak_run, sCont_run, sRet_run, sRetN_run, sExpr_run, sSet_run, sIf_run, dput_some, dputAt_run, sDPut_run, sPar_run, sOwn_run, rlLst_run, appO_run, appH_run, sAppend_run, frzO_run, sFrz_run, sRaise_run, sRaise0_run, suO_nx, suO_rt, suO_ite, endTry_run, subO_t, subO_f, tryO_exc, tryO_nx, tryO_rt, tryO_ite, sTry_run, sFor_run, forL_nil, forO_nx, forO_ct, forO_bk, forO_rt, forO_ite, forL_cons, toX_rt, toX_nx, toX_ite, xisO_run, rXIs_run, xfO_run, rXF_run, okO_ok, cxO_run, rCallX_run, List.getElem?_cons_zero, List.getElem?_cons_succ, List.set_cons_zero, List.set_cons_succ, List.length_cons, List.length_nil, Option.map_some, Option.map_none, if_true, if_false, ite_true, ite_false, reduceIte, decide_true, decide_false, Bool.not_true, Bool.not_false, Bool.false_eq_true, hd, cg_cells, cg_at, cg_digits, cg_count, cg_fold, cp_at, cp_digits, cp_count, cp_fold, c1, ss, g, n0, f1, tailP, ne_eq, not_false_eq_true, and_self]
  · simp only [r_tail, ob_ok, ob_exc, ob_stuck, ob_ite, os_ok, os_exc, os_stuck, os_ite, st_nx, st_rt, st_bk, st_ct, st_exc, st_stuck, st_ite, so_rt, so_nx, so_exc, so_stuck, so_ite, sv_val, sb_val, sb_own, ov_some, obb_some, bl_run, rC_run, rVar_run, rBor_run, rOp_run, rDGet_run, rIx_run, raNil_run, raCons_run, rTup_run, rLst_run, rDct_run, rCell_run, rCell0_run, rCall_run, rBlt_run, rLen_run, rList_run, rTuple_run, rRepr_run, opRepr_run, negV_int, rNeg_run, rTruB_run, rTru_run, rtAnd_run, rtOr_run, rtNot_run, rIfE_run, andV_t, andV_f, rAndV_run, rOrV_run, rNotV_run, add_int, add_lst, add_tup, add_str, sub_int, mul_int, mod_int, div_int, pow_int, cmp_int, eq_run, ne_run, eqPV_int, eqPV_str, is_non, isnt_non, dget_some, dget_run, ix_lst, ix_tup, len_lst, len_tup, len_scr, list_lst, list_tup, list_scr, int_run, abs_run, seqO_some, riSeq_run, riRg1_run, rg1_run, riRg2_run, rg2_run, gnm_run, sBind_run, sSeq_run, sNext_run, sBreak_run, sCont_run, sRet_run, sRetN_run, sExpr_run, sSet_run, sIf_run, dput_some, dputAt_run, sDPut_run, sPar_run, sOwn_run, rlLst_run, appO_run, appH_run, sAppend_run, frzO_run, sFrz_run, sRaise_run, sRaise0_run, suO_nx, suO_rt, suO_ite, endTry_run, subO_t, subO_f, tryO_exc, tryO_nx, tryO_rt, tryO_ite, sTry_run, sFor_run, forL_nil, forO_nx, forO_ct, forO_bk, forO_rt, forO_ite, forL_cons, toX_rt, toX_nx, toX_ite, xisO_run, rXIs_run, xfO_run, rXF_run, okO_ok, cxO_run, rCallX_run, List.getElem?_cons_zero, List.getElem?_cons_succ, List.set_cons_zero, List.set_cons_succ, List.length_cons, List.length_nil, Option.map_some, Option.map_none, if_true, if_false, ite_true, ite_false, reduceIte, decide_true, decide_false, Bool.not_true, Bool.not_false, Bool.false_eq_true, hd, cg_cells, cg_at, cg_digits, cg_count, cg_fold, cp_at, cp_digits, cp_count, cp_fold, c1, ss, g, n0, f1, tailP, ne_eq, not_false_eq_true, and_self, m1, m2, u1, m3, m4, u2, m5, l64, k1, k2, k3]
theorem draw_run {p : Pen} {n i : Nat} {many : Int} {S : Store} (h : p.Ok n) (hn : n < 2 ^ 60) (h0 : 0 < many) (hm : many < 2 ^ 60) (hS : S[i]? = some p.cell) :
    F_u_law_draw [.ref i, .int many] S = .ok (.int (drawP p many).1) (S.set i (drawP p many).2.cell) := by
  obtain ⟨a1, a2, a3, a4, a5, a6⟩ := h
  refine runF_run.trans ?_
  have c1 : ∀ q : Pen, List.length q.cell < sizeLine := cell_len
  have ss : ∀ (c d : Cell), (S.set i c).set i d = S.set i d := fun c d => List.set_set ..
  have g : ∀ (c : Cell), (S.set i c)[i]? = some c := fun c => set_get hS
  have m1 : mulFits p.fold 69069 = true := mulFits_small (by omega) (by decide)
  have k1 : (2147483587 : Int) ≠ 0 := by decide
  have pw : (10 : Int) ^ (18 : Int).toNat = 10 ^ 18 := rfl
  have pc : (0 : Int) ≤ 18 ∧ (18 : Int) ≤ 1000000 ∧ Int.natAbs 10 < 2 ^ 64 := by decide
  have T : ∀ (q : Pen) (e3 : Slot), 0 ≤ q.count ∧ q.count < 2 ^ 61 → 0 ≤ q.fold ∧ q.fold < 2147483647 → SOut.toO (r_tail [.val (.ref i), .val (.int many), .no, e3, .no] (S.set i q.cell)) = .ok (.int (tailP q many).1) (S.set i (tailP q many).2.cell) :=
    fun q e3 hc hf => draw_tail h0 hm hc hf hS
  have hc1 : 0 ≤ p.count + 1 ∧ p.count + 1 < 2 ^ 61 := by omega
  unfold drawP drawStep
  show SOut.toO ((sSeq (sDPut (rVar 0) (rC (.str "count")) (rOp opAdd (rDGet (rVar 0) (rC (.str "count"))) (rC (.int 1))))
    (sSeq (sIf (rtAnd (rTruB (rOp opEq (rDGet (rVar 0) (rC (.str "digits"))) (rC (.int 0)))) (rTruB (rOp (opCmp fun i j => decide (i < j)) (rDGet (rVar 0) (rC (.str "at"))) (rLen (rDGet (rVar 0) (rC (.str "cells"))))))) (sSeq (sSet 3 (rIx (rDGet (rVar 0) (rC (.str "cells"))) (rDGet (rVar 0) (rC (.str "at")))))
    (sSeq (sDPut (rVar 0) (rC (.str "at")) (rOp opAdd (rDGet (rVar 0) (rC (.str "at"))) (rC (.int 1))))
    (sIf (rTruB (rOp (opCmp fun i j => decide (j ≤ i)) (rVar 3) (rOp opPow (rC (.int 10)) (rC (.int 18))))) (sDPut (rVar 0) (rC (.str "digits")) (rOp opSub (rVar 3) (rOp opPow (rC (.int 10)) (rC (.int 18))))) (sDPut (rVar 0) (rC (.str "fold")) (rOp opMod (rBlt bInt (raCons (rOp opAdd (rOp opMul (rDGet (rVar 0) (rC (.str "fold"))) (rC (.int 69069))) (rVar 3)) raNil)) (rC (.int 2147483587))))))) sNext) r_tail)) [.val (.ref i), .val (.int many), .no, .no, .no] S) = _
  by_cases hd : p.digits = 0
  · by_cases ha : p.at_ < p.cells.length
    · have ea := atI_ints a1 ha
      have fr := fmod_rng (p.fold * 69069 + p.cells.getD p.at_.toNat 0) (b := 2147483587) (by decide)
      by_cases hb : 10 ^ 18 ≤ p.cells.getD p.at_.toNat 0
      · simp only [ob_ok, ob_exc, ob_stuck, ob_ite, os_ok, os_exc, os_stuck, os_ite, st_nx, st_rt, st_bk, st_ct, st_exc, st_stuck, st_ite, so_rt, so_nx, so_exc, so_stuck, so_ite, sv_val, sb_val, sb_own, ov_some, obb_some, bl_run, rC_run, rVar_run, rBor_run, rOp_run, rDGet_run, rIx_run, raNil_run, raCons_run, rTup_run, rLst_run, rDct_run, rCell_run, rCell0_run, rCall_run, rBlt_run, rLen_run, rList_run, rTuple_run, rRepr_run, opRepr_run, negV_int, rNeg_run, rTruB_run, rTru_run, rtAnd_run, rtOr_run, rtNot_run, rIfE_run, andV_t, andV_f, rAndV_run, rOrV_run, rNotV_run, add_int, add_lst, add_tup, add_str, sub_int, mul_int, mod_int, div_int, pow_int, cmp_int, eq_run, ne_run, eqPV_int, eqPV_str, is_non, isnt_non, dget_some, dget_run, ix_lst, ix_tup, len_lst, len_tup, len_scr, list_lst, list_tup, list_scr, int_run, abs_run, seqO_some, riSeq_run, riRg1_run, rg1_run, riRg2_run, rg2_run, gnm_run, sBind_run, sSeq_run, sNext_run, sBreak_run, sCont_run, sRet_run, sRetN_run, sExpr_run, sSet_run, sIf_run, dput_some, dputAt_run, sDPut_run, sPar_run, sOwn_run, rlLst_run, appO_run, appH_run, sAppend_run, frzO_run, sFrz_run, sRaise_run, sRaise0_run, suO_nx, suO_rt, suO_ite, endTry_run, subO_t, subO_f, tryO_exc, tryO_nx, tryO_rt, tryO_ite, sTry_run, sFor_run, forL_nil, forO_nx, forO_ct, forO_bk, forO_rt, forO_ite, forL_cons, toX_rt, toX_nx, toX_ite, xisO_run, rXIs_run, xfO_run, rXF_run, okO_ok, cxO_run, rCallX_run, List.getElem?_cons_zero, List.getElem?_cons_succ, List.set_cons_zero, List.set_cons_succ, List.length_cons, List.length_nil, Option.map_some, Option.map_none, if_true, if_false, ite_true, ite_false, reduceIte, decide_true, decide_false, Bool.not_true, Bool.not_false, Bool.false_eq_true, hS, hd, ha, ea, hb, cg_cells, cg_at, cg_digits, cg_count, cg_fold, cp_at, cp_digits, cp_count, cp_fold, c1, ss, g, len_map, pw, pc, and_self]
        exact T _ _ hc1 ⟨a5, a6⟩
      · simp only [ob_ok, ob_exc, ob_stuck, ob_ite, os_ok, os_exc, os_stuck, os_ite, st_nx, st_rt, st_bk, st_ct, st_exc, st_stuck, st_ite, so_rt, so_nx, so_exc, so_stuck, so_ite, sv_val, sb_val, sb_own, ov_some, obb_some, bl_run, rC_run, rVar_run, rBor_run, rOp_run, rDGet_run, rIx_run, raNil_run, raCons_run, rTup_run, rLst_run, rDct_run, rCell_run, rCell0_run, rCall_run, rBlt_run, rLen_run, rList_run, rTuple_run, rRepr_run, opRepr_run, negV_int, rNeg_run, rTruB_run, rTru_run, rtAnd_run, rtOr_run, rtNot_run, rIfE_run, andV_t, andV_f, rAndV_run, rOrV_run, rNotV_run, add_int, add_lst, add_tup, add_str, sub_int, mul_int, mod_int, div_int, pow_int, cmp_int, eq_run, ne_run, eqPV_int, eqPV_str, is_non, isnt_non, dget_some, dget_run, ix_lst, ix_tup, len_lst, len_tup, len_scr, list_lst, list_tup, list_scr, int_run, abs_run, seqO_some, riSeq_run, riRg1_run, rg1_run, riRg2_run, rg2_run, gnm_run, sBind_run, sSeq_run, sNext_run, sBreak_run, sCont_run, sRet_run, sRetN_run, sExpr_run, sSet_run, sIf_run, dput_some, dputAt_run, sDPut_run, sPar_run, sOwn_run, rlLst_run, appO_run, appH_run, sAppend_run, frzO_run, sFrz_run, sRaise_run, sRaise0_run, suO_nx, suO_rt, suO_ite, endTry_run, subO_t, subO_f, tryO_exc, tryO_nx, tryO_rt, tryO_ite, sTry_run, sFor_run, forL_nil, forO_nx, forO_ct, forO_bk, forO_rt, forO_ite, forL_cons, toX_rt, toX_nx, toX_ite, xisO_run, rXIs_run, xfO_run, rXF_run, okO_ok, cxO_run, rCallX_run, List.getElem?_cons_zero, List.getElem?_cons_succ, List.set_cons_zero, List.set_cons_succ, List.length_cons, List.length_nil, Option.map_some, Option.map_none, if_true, if_false, ite_true, ite_false, reduceIte, decide_true, decide_false, Bool.not_true, Bool.not_false, Bool.false_eq_true, hS, hd, ha, ea, hb, cg_cells, cg_at, cg_digits, cg_count, cg_fold, cp_at, cp_digits, cp_count, cp_fold, c1, ss, g, len_map, pw, pc, and_self, m1, k1, ne_eq, not_false_eq_true]
        exact T _ _ hc1 ⟨fr.1, by have := fr.2; show Int.fmod _ _ < _; omega⟩
    · simp only [ob_ok, ob_exc, ob_stuck, ob_ite, os_ok, os_exc, os_stuck, os_ite, st_nx, st_rt, st_bk, st_ct, st_exc, st_stuck, st_ite, so_rt, so_nx, so_exc, so_stuck, so_ite, sv_val, sb_val, sb_own, ov_some, obb_some, bl_run, rC_run, rVar_run, rBor_run, rOp_run, rDGet_run, rIx_run, raNil_run, raCons_run, rTup_run, rLst_run, rDct_run, rCell_run, rCell0_run, rCall_run, rBlt_run, rLen_run, rList_run, rTuple_run, rRepr_run, opRepr_run, negV_int, rNeg_run, rTruB_run, rTru_run, rtAnd_run, rtOr_run, rtNot_run, rIfE_run, andV_t, andV_f, rAndV_run, rOrV_run, rNotV_run, add_int, add_lst, add_tup, add_str, sub_int, mul_int, mod_int, div_int, pow_int, cmp_int, eq_run, ne_run, eqPV_int, eqPV_str, is_non, isnt_non, dget_some, dget_run, ix_lst, ix_tup, len_lst, len_tup, len_scr, list_lst, list_tup, list_scr, int_run, abs_run, seqO_some, riSeq_run, riRg1_run, rg1_run, riRg2_run, rg2_run, gnm_run, sBind_run, sSeq_run, sNext_run, sBreak_run, sCont_run, sRet_run, sRetN_run, sExpr_run, sSet_run, sIf_run, dput_some, dputAt_run, sDPut_run, sPar_run, sOwn_run, rlLst_run, appO_run, appH_run, sAppend_run, frzO_run, sFrz_run, sRaise_run, sRaise0_run, suO_nx, suO_rt, suO_ite, endTry_run, subO_t, subO_f, tryO_exc, tryO_nx, tryO_rt, tryO_ite, sTry_run, sFor_run, forL_nil, forO_nx, forO_ct, forO_bk, forO_rt, forO_ite, forL_cons, toX_rt, toX_nx, toX_ite, xisO_run, rXIs_run, xfO_run, rXF_run, okO_ok, cxO_run, rCallX_run, List.getElem?_cons_zero, List.getElem?_cons_succ, List.set_cons_zero, List.set_cons_succ, List.length_cons, List.length_nil, Option.map_some, Option.map_none, if_true, if_false, ite_true, ite_false, reduceIte, decide_true, decide_false, Bool.not_true, Bool.not_false, Bool.false_eq_true, hS, hd, ha, cg_cells, cg_at, cg_digits, cg_count, cg_fold, cp_at, cp_digits, cp_count, cp_fold, c1, ss, g, len_map, and_false]
      exact T _ _ hc1 ⟨a5, a6⟩
  · simp only [ob_ok, ob_exc, ob_stuck, ob_ite, os_ok, os_exc, os_stuck, os_ite, st_nx, st_rt, st_bk, st_ct, st_exc, st_stuck, st_ite, so_rt, so_nx, so_exc, so_stuck, so_ite, sv_val, sb_val, sb_own, ov_some, obb_some, bl_run, rC_run, rVar_run, rBor_run, rOp_run, rDGet_run, rIx_run, raNil_run, raCons_run, rTup_run, rLst_run, rDct_run, rCell_run, rCell0_run, rCall_run, rBlt_run, rLen_run, rList_run, rTuple_run, rRepr_run, opRepr_run, negV_int, rNeg_run, rTruB_run, rTru_run, rtAnd_run, rtOr_run, rtNot_run, rIfE_run, andV_t, andV_f, rAndV_run, rOrV_run, rNotV_run, add_int, add_lst, add_tup, add_str, sub_int, mul_int, mod_int, div_int, pow_int, cmp_int, eq_run, ne_run, eqPV_int, eqPV_str, is_non, isnt_non, dget_some, dget_run, ix_lst, ix_tup, len_lst, len_tup, len_scr, list_lst, list_tup, list_scr, int_run, abs_run, seqO_some, riSeq_run, riRg1_run, rg1_run, riRg2_run, rg2_run, gnm_run, sBind_run, sSeq_run, sNext_run, sBreak_run, sCont_run, sRet_run, sRetN_run, sExpr_run, sSet_run, sIf_run, dput_some, dputAt_run, sDPut_run, sPar_run, sOwn_run, rlLst_run, appO_run, appH_run, sAppend_run, frzO_run, sFrz_run, sRaise_run, sRaise0_run, suO_nx, suO_rt, suO_ite, endTry_run, subO_t, subO_f, tryO_exc, tryO_nx, tryO_rt, tryO_ite, sTry_run, sFor_run, forL_nil, forO_nx, forO_ct, forO_bk, forO_rt, forO_ite, forL_cons, toX_rt, toX_nx, toX_ite, xisO_run, rXIs_run, xfO_run, rXF_run, okO_ok, cxO_run, rCallX_run, List.getElem?_cons_zero, List.getElem?_cons_succ, List.set_cons_zero, List.set_cons_succ, List.length_cons, List.length_nil, Option.map_some, Option.map_none, if_true, if_false, ite_true, ite_false, reduceIte, decide_true, decide_false, Bool.not_true, Bool.not_false, Bool.false_eq_true, hS, hd, cg_cells, cg_at, cg_digits, cg_count, cg_fold, cp_at, cp_digits, cp_count, cp_fold, c1, ss, g, len_map, false_and]
    exact T _ _ hc1 ⟨a5, a6⟩
theorem tailP_ok {q : Pen} {n : Nat} {many : Int} (h : q.Ok n) (h0 : 0 < many) : (tailP q many).2.Ok n ∧ 0 ≤ (tailP q many).1 ∧ (tailP q many).1 < many := by
  obtain ⟨a1, a2, a3, a4, a5, a6⟩ := h
  unfold tailP
  split
  · have f := fmod_rng q.digits h0
    exact ⟨⟨a1, Int.fdiv_nonneg a2 (by omega), a3, a4, a5, a6⟩, f⟩
  · have f := fmod_rng ((blend2 q).fdiv 64) h0
    have f2 := fmod_rng (blend2 q * 16807 + 7) (b := 2147483647) (by decide)
    exact ⟨⟨a1, a2, a3, a4, f2.1, f2.2⟩, f⟩
theorem drawStep_ok {p : Pen} {n : Nat} (h : p.Ok n) : (drawStep p).Ok n := by
  obtain ⟨a1, a2, a3, a4, a5, a6⟩ := h
  unfold drawStep
  split
  · split
    · rename_i hb
      exact ⟨by show 0 ≤ p.at_ + 1; omega, by show 0 ≤ List.getD _ _ _ - 10 ^ 18; omega, a3, a4, a5, a6⟩
    · have fr := fmod_rng (p.fold * 69069 + p.cells.getD p.at_.toNat 0) (b := 2147483587) (by decide)
      exact ⟨by show 0 ≤ p.at_ + 1; omega, a2, a3, a4, fr.1, by have := fr.2; show Int.fmod _ _ < _; omega⟩
  · exact ⟨a1, a2, a3, a4, a5, a6⟩
theorem drawP_ok {p : Pen} {n : Nat} {many : Int} (h : p.Ok n) (h0 : 0 < many) : (drawP p many).2.Ok (n + 1) ∧ 0 ≤ (drawP p many).1 ∧ (drawP p many).1 < many :=
  tailP_ok (drawStep_ok ⟨h.at0, h.dg0, by have := h.ct0; show 0 ≤ p.count + 1; omega, by have := h.ct; show p.count + 1 ≤ ((n + 1 : Nat) : Int); omega, h.fd0, h.fd⟩) h0
/-- A DRAW: some number from 0 on, below many -/
theorem draw_ok {p : Pen} {n i : Nat} {many : Int} {S : Store} (h : p.Ok n) (hn : n < 2 ^ 60) (h0 : 0 < many) (hm : many < 2 ^ 60) (hS : S[i]? = some p.cell) :
    ∃ (d : Int) (p' : Pen), F_u_law_draw [.ref i, .int many] S = .ok (.int d) (S.set i p'.cell) ∧ p'.Ok (n + 1) ∧ 0 ≤ d ∧ d < many :=
  ⟨_, _, draw_run h hn h0 hm hS, drawP_ok h h0⟩
/-- THE PEN is made -/
theorem pen_loop {x : Slot} : ∀ (ns : List Int) (f : Int) (y : Slot) (S : Store), 0 ≤ f → f < 2147483647 → ∃ (f' : Int) (y' : Slot), 0 ≤ f' ∧ f' < 2147483647 ∧
    forL (gnm 2) (sSet 1 (rOp opMod (rBlt bInt (raCons (rOp opAdd (rOp opMul (rVar 1) (rC (.int 47))) (rVar 2)) raNil)) (rC (.int 1000000007)))) (ns.map PV.int) [x, .val (.int f), y] S = .nx [x, .val (.int f'), y'] S
  | [], f, y, S, h0, h1 => ⟨f, y, h0, h1, rfl⟩
  | n :: ns, f, y, S, h0, h1 => by
    have fr := fmod_rng (f * 47 + n) (b := 1000000007) (by decide)
    obtain ⟨f', y', k0, k1, e⟩ := pen_loop ns ((f * 47 + n).fmod 1000000007) (.val (.int n)) S fr.1 (by have := fr.2; omega)
    refine ⟨f', y', k0, k1, ?_⟩
    have m1 : mulFits f 47 = true := mulFits_small (by omega) (by decide)
    have z : (1000000007 : Int) ≠ 0 := by decide
    rw [List.map_cons, forL_cons]
    simp only [ob_ok, ob_exc, ob_stuck, ob_ite, os_ok, os_exc, os_stuck, os_ite, st_nx, st_rt, st_bk, st_ct, st_exc, st_stuck, st_ite, so_rt, so_nx, so_exc, so_stuck, so_ite, sv_val, sb_val, sb_own, ov_some, obb_some, bl_run, rC_run, rVar_run, rBor_run, rOp_run, rDGet_run, rIx_run, raNil_run, raCons_run, rTup_run, rLst_run, rDct_run, rCell_run, rCell0_run, rCall_run, rBlt_run, rLen_run, rList_run, rTuple_run, rRepr_run, opRepr_run, negV_int, rNeg_run, rTruB_run, rTru_run, rtAnd_run, rtOr_run, rtNot_run, rIfE_run, andV_t, andV_f, rAndV_run, rOrV_run, rNotV_run, add_int, add_lst, add_tup, add_str, sub_int, mul_int, mod_int, div_int, pow_int, cmp_int, eq_run, ne_run, eqPV_int, eqPV_str, is_non, isnt_non, dget_some, dget_run, ix_lst, ix_tup, len_lst, len_tup, len_scr, list_lst, list_tup, list_scr, int_run, abs_run, seqO_some, riSeq_run, riRg1_run, rg1_run, riRg2_run, rg2_run, gnm_run, sBind_run, sSeq_run, sNext_run, sBreak_run, sCont_run, sRet_run, sRetN_run, sExpr_run, sSet_run, sIf_run, dput_some, dputAt_run, sDPut_run, sPar_run, sOwn_run, rlLst_run, appO_run, appH_run, sAppend_run, frzO_run, sFrz_run, sRaise_run, sRaise0_run, suO_nx, suO_rt, suO_ite, endTry_run, subO_t, subO_f, tryO_exc, tryO_nx, tryO_rt, tryO_ite, sTry_run, sFor_run, forL_nil, forO_nx, forO_ct, forO_bk, forO_rt, forO_ite, forL_cons, toX_rt, toX_nx, toX_ite, xisO_run, rXIs_run, xfO_run, rXF_run, okO_ok, cxO_run, rCallX_run, List.getElem?_cons_zero, List.getElem?_cons_succ, List.set_cons_zero, List.set_cons_succ, List.length_cons, List.length_nil, Option.map_some, Option.map_none, if_true, if_false, ite_true, ite_false, reduceIte, decide_true, decide_false, Bool.not_true, Bool.not_false, Bool.false_eq_true, m1, z, ne_eq, not_false_eq_true]
    exact e
theorem pen_ok (ns : List Int) (S : Store) : ∃ p : Pen, F_u_law_pen [.scr ns] S = .ok (.ref S.length) (S ++ [p.cell]) ∧ p.Ok 0 ∧ p.cells = ns := by
  obtain ⟨f', y', k0, k1, e⟩ := pen_loop (x := .val (.scr ns)) ns 0 .no S (by decide) (by decide)
  refine ⟨⟨ns, 0, 0, 0, f'⟩, ?_, ⟨Int.le_refl 0, Int.le_refl 0, Int.le_refl 0, Int.le_refl 0, k0, k1⟩, rfl⟩
  refine runF_run.trans ?_
  show SOut.toO (r_u_law_pen [.val (.scr ns), .no, .no] S) = _
  simp only [r_u_law_pen, ob_ok, ob_exc, ob_stuck, ob_ite, os_ok, os_exc, os_stuck, os_ite, st_nx, st_rt, st_bk, st_ct, st_exc, st_stuck, st_ite, so_rt, so_nx, so_exc, so_stuck, so_ite, sv_val, sb_val, sb_own, ov_some, obb_some, bl_run, rC_run, rVar_run, rBor_run, rOp_run, rDGet_run, rIx_run, raNil_run, raCons_run, rTup_run, rLst_run, rDct_run, rCell_run, rCell0_run, rCall_run, rBlt_run, rLen_run, rList_run, rTuple_run, rRepr_run, opRepr_run, negV_int, rNeg_run, rTruB_run, rTru_run, rtAnd_run, rtOr_run, rtNot_run, rIfE_run, andV_t, andV_f, rAndV_run, rOrV_run, rNotV_run, add_int, add_lst, add_tup, add_str, sub_int, mul_int, mod_int, div_int, pow_int, cmp_int, eq_run, ne_run, eqPV_int, eqPV_str, is_non, isnt_non, dget_some, dget_run, ix_lst, ix_tup, len_lst, len_tup, len_scr, list_lst, list_tup, list_scr, int_run, abs_run, seqO_some, riSeq_run, riRg1_run, rg1_run, riRg2_run, rg2_run, gnm_run, sBind_run, sSeq_run, sNext_run, sBreak_run, sCont_run, sRet_run, sRetN_run, sExpr_run, sSet_run, sIf_run, dput_some, dputAt_run, sDPut_run, sPar_run, sOwn_run, rlLst_run, appO_run, appH_run, sAppend_run, frzO_run, sFrz_run, sRaise_run, sRaise0_run, suO_nx, suO_rt, suO_ite, endTry_run, subO_t, subO_f, tryO_exc, tryO_nx, tryO_rt, tryO_ite, sTry_run, sFor_run, forL_nil, forO_nx, forO_ct, forO_bk, forO_rt, forO_ite, forL_cons, toX_rt, toX_nx, toX_ite, xisO_run, rXIs_run, xfO_run, rXF_run, okO_ok, cxO_run, rCallX_run, List.getElem?_cons_zero, List.getElem?_cons_succ, List.set_cons_zero, List.set_cons_succ, List.length_cons, List.length_nil, Option.map_some, Option.map_none, if_true, if_false, ite_true, ite_false, reduceIte, decide_true, decide_false, Bool.not_true, Bool.not_false, Bool.false_eq_true, seqPV, e]
  rfl
/-- A PICK: some item -/
theorem pick_ok {p : Pen} {n i : Nat} {xs : List PV} {S : Store} (h : p.Ok n) (hn : n < 2 ^ 60) (h0 : 0 < xs.length) (hm : xs.length < 2 ^ 60) (hS : S[i]? = some p.cell) :
    ∃ (x : PV) (p' : Pen), F_u_law_pick [.ref i, .lst xs] S = .ok x (S.set i p'.cell) ∧ p'.Ok (n + 1) ∧ x ∈ xs := by
  obtain ⟨d, p', e, ok, d0, d1⟩ := draw_ok (many := xs.length) h hn (by omega) (by omega) hS
  have hl : d.toNat < xs.length := by omega
  refine ⟨xs[d.toNat], p', ?_, ok, List.getElem_mem hl⟩
  refine runF_run.trans ?_
  show SOut.toO (r_u_law_pick [.val (.ref i), .val (.lst xs)] S) = _
  have ea : atI xs d = some xs[d.toNat] := by rw [atI_nat d0 d1, List.getElem?_eq_getElem hl]
  simp only [r_u_law_pick, ob_ok, ob_exc, ob_stuck, ob_ite, os_ok, os_exc, os_stuck, os_ite, st_nx, st_rt, st_bk, st_ct, st_exc, st_stuck, st_ite, so_rt, so_nx, so_exc, so_stuck, so_ite, sv_val, sb_val, sb_own, ov_some, obb_some, bl_run, rC_run, rVar_run, rBor_run, rOp_run, rDGet_run, rIx_run, raNil_run, raCons_run, rTup_run, rLst_run, rDct_run, rCell_run, rCell0_run, rCall_run, rBlt_run, rLen_run, rList_run, rTuple_run, rRepr_run, opRepr_run, negV_int, rNeg_run, rTruB_run, rTru_run, rtAnd_run, rtOr_run, rtNot_run, rIfE_run, andV_t, andV_f, rAndV_run, rOrV_run, rNotV_run, add_int, add_lst, add_tup, add_str, sub_int, mul_int, mod_int, div_int, pow_int, cmp_int, eq_run, ne_run, eqPV_int, eqPV_str, is_non, isnt_non, dget_some, dget_run, ix_lst, ix_tup, len_lst, len_tup, len_scr, list_lst, list_tup, list_scr, int_run, abs_run, seqO_some, riSeq_run, riRg1_run, rg1_run, riRg2_run, rg2_run, gnm_run, sBind_run, sSeq_run, sNext_run, sBreak_run, sCont_run, sRet_run, sRetN_run, sExpr_run, sSet_run, sIf_run, dput_some, dputAt_run, sDPut_run, sPar_run, sOwn_run, rlLst_run, appO_run, appH_run, sAppend_run, frzO_run, sFrz_run, sRaise_run, sRaise0_run, suO_nx, suO_rt, suO_ite, endTry_run, subO_t, subO_f, tryO_exc, tryO_nx, tryO_rt, tryO_ite, sTry_run, sFor_run, forL_nil, forO_nx, forO_ct, forO_bk, forO_rt, forO_ite, forL_cons, toX_rt, toX_nx, toX_ite, xisO_run, rXIs_run, xfO_run, rXF_run, okO_ok, cxO_run, rCallX_run, List.getElem?_cons_zero, List.getElem?_cons_succ, List.set_cons_zero, List.set_cons_succ, List.length_cons, List.length_nil, Option.map_some, Option.map_none, if_true, if_false, ite_true, ite_false, reduceIte, decide_true, decide_false, Bool.not_true, Bool.not_false, Bool.false_eq_true, e, ea]
end P
end Fx

/-! FxS: the texts of small values: that they are there, how long they are. -/
namespace Fx
open PySem PySem.Spec PyProof.Rows L2

/-- its characters are below 16 ** 8 -/
def okS (x : Str) : Prop := ∀ c ∈ x.cps.toList, c < 16 ^ 8
theorem okS_append {x y : Str} (h : okS x) (k : okS y) : okS (x ++ y) := fun c hc => by
  have hc' : c ∈ (x.cps ++ y.cps).toList := hc
  rw [Array.toList_append] at hc'
  rcases List.mem_append.mp hc' with z | z
  · exact h c z
  · exact k c z
theorem okS_string (s : String) : okS (Str.ofString s) := fun c hc => by
  have hc' : c ∈ (s.toList.map Char.toNat) := by
    have e : (Str.ofString s).cps.toList = s.toList.map Char.toNat := by
      exact PyProof.Rows.signs_ofString s
    rw [← e]; exact hc
  obtain ⟨d, _, rfl⟩ := List.mem_map.mp hc'
  have := d.val.toNat_lt
  show d.val.toNat < _
  have e : (16 : Nat) ^ 8 = 4294967296 := by decide
  omega
theorem okL_repr {q c : Nat} (hq : q < 16 ^ 8) (hc : c < 16 ^ 8) : ∀ d ∈ Builtin.Str.reprChar q c, d < 16 ^ 8 := by
  have hx : ∀ w : Nat, ∀ d ∈ List.replicate w 48 ++ (Nat.toDigits 16 c).map Char.toNat, d < 16 ^ 8 := fun w d hd => by
    rcases List.mem_append.mp hd with z | z
    · rw [(List.mem_replicate.mp z).2]; decide
    · obtain ⟨ch, _, rfl⟩ := List.mem_map.mp z
      have := ch.val.toNat_lt
      show ch.val.toNat < _
      have e : (16 : Nat) ^ 8 = 4294967296 := by decide
      omega
  have h2 : ∀ (a b : Nat), a < 16 ^ 8 → b < 16 ^ 8 → ∀ d ∈ [a, b], d < 16 ^ 8 := fun a b ha hb d hd => by
    rcases List.mem_cons.mp hd with z | z
    · rw [z]; exact ha
    · rcases List.mem_cons.mp z with z | z
      · rw [z]; exact hb
      · cases z
  have h3 : ∀ (a b w : Nat), a < 16 ^ 8 → b < 16 ^ 8 → ∀ d ∈ [a, b] ++ (List.replicate w 48 ++ (Nat.toDigits 16 c).map Char.toNat), d < 16 ^ 8 := fun a b w ha hb d hd =>
    (List.mem_append.mp hd).elim (h2 a b ha hb d) (hx w d)
  unfold Builtin.Str.reprChar
  dsimp only
  repeat' split
  · exact h2 _ _ (by decide) hc
  · exact h2 _ _ (by decide) (by decide)
  · exact h2 _ _ (by decide) (by decide)
  · exact h2 _ _ (by decide) (by decide)
  · intro d hd
    rcases List.mem_cons.mp hd with z | z
    · rw [z]; exact hc
    · cases z
  · exact h3 _ _ _ (by decide) (by decide)
  · exact h3 _ _ _ (by decide) (by decide)
  · exact h3 _ _ _ (by decide) (by decide)
theorem okF_repr {q : Nat} (hq : q < 16 ^ 8) : ∀ (l : List Nat) (acc : Array Nat), (∀ c ∈ l, c < 16 ^ 8) → (∀ c ∈ acc.toList, c < 16 ^ 8) → ∀ c ∈ (l.foldl (fun out c => out ++ (Builtin.Str.reprChar q c).toArray) acc).toList, c < 16 ^ 8
  | [], acc, _, h => h
  | a :: l, acc, hl, h => by
    rw [List.foldl_cons]
    refine okF_repr hq l _ (fun c hc => hl c (List.mem_cons_of_mem _ hc)) fun c hc => ?_
    rw [Array.toList_append] at hc
    rcases List.mem_append.mp hc with z | z
    · exact h c z
    · exact okL_repr hq (hl a List.mem_cons_self) c (by simpa using z)
theorem okS_reprText {x : Str} (h : okS x) : okS (reprText x) := by
  have hq : reprQuote x < 16 ^ 8 := by
    unfold reprQuote
    split <;> decide
  intro c hc
  have hc' : c ∈ ((x.cps.foldl (fun out c => out ++ (Builtin.Str.reprChar (reprQuote x) c).toArray) #[reprQuote x]).push (reprQuote x)).toList := hc
  rw [Array.toList_push, ← Array.foldl_toList] at hc'
  rcases List.mem_append.mp hc' with z | z
  · exact okF_repr hq _ _ h (fun c hc => by
      have : c = reprQuote x := by simpa using hc
      rw [this]; exact hq) c z
  · have : c = reprQuote x := by simpa using z
    rw [this]; exact hq
theorem okS_from : ∀ (ts : List Str) (k : Nat) (acc : Str), (∀ t ∈ ts, okS t) → okS acc → okS (textFrom k acc ts)
  | [], _, _, _, h => h
  | t :: ts, k, acc, ht, h => by
    show okS (textFrom (k + 1) (acc ++ (if k > 0 then ", " else "" : String) ++ t) ts)
    exact okS_from ts (k + 1) _ (fun u hu => ht u (List.mem_cons_of_mem _ hu)) (okS_append (okS_append h (okS_string _)) (ht t List.mem_cons_self))
theorem okS_join {sep : Str} (hs : okS sep) : ∀ ts : List Str, (∀ t ∈ ts, okS t) → okS (Str.join sep ts)
  | [], _ => fun c hc => by cases hc
  | [x], h => h x List.mem_cons_self
  | x :: y :: r, h => okS_append (okS_append (h x List.mem_cons_self) hs) (okS_join hs (y :: r) fun t ht => h t (List.mem_cons_of_mem _ ht))
mutual
theorem okS_shown {B : Nat} : ∀ d : PyData, d.leavesShort B = true → okS d.shown
  | .none, _ => okS_string _
  | .bool b, _ => by cases b <;> exact okS_string _
  | .int i, _ => okS_string _
  | .str x, h => by
    have hx : ∀ c ∈ x.cps.toList, c < 16 ^ 8 := by simpa only [PyData.leavesShort, List.all_eq_true, decide_eq_true_eq] using h
    simp only [PyData.shown]
    exact okS_reprText hx
  | .list xs, h => by
    simp only [PyData.shown]
    exact okS_append (okS_from _ 0 _ (okS_shownAll xs (by simpa only [PyData.leavesShort] using h)) (okS_string _)) (okS_string _)
  | .tuple xs, h => by
    simp only [PyData.shown]
    exact okS_append (okS_append (okS_string _) (okS_join (okS_string _) _ (okS_shownAll xs (by simpa only [PyData.leavesShort] using h)))) (okS_string _)
  | .dict kvs, h => by
    simp only [PyData.shown]
    exact okS_append (okS_append (okS_string _) (okS_join (okS_string _) _ (okS_shownKv kvs (by simpa only [PyData.leavesShort] using h)))) (okS_string _)
theorem okS_shownAll {B : Nat} : ∀ xs : List PyData, PyData.leavesShortAll B xs = true → ∀ t ∈ PyData.shownAll xs, okS t
  | [], _, t, ht => by simp only [PyData.shownAll] at ht; cases ht
  | x :: xs, h, t, ht => by
    have h' : x.leavesShort B = true ∧ PyData.leavesShortAll B xs = true := by simpa only [PyData.leavesShortAll, Bool.and_eq_true] using h
    simp only [PyData.shownAll] at ht
    rcases List.mem_cons.mp ht with z | z
    · rw [z]; exact okS_shown x h'.1
    · exact okS_shownAll xs h'.2 t z
theorem okS_shownKv {B : Nat} : ∀ kvs : List (PyData × PyData), PyData.leavesShortKv B kvs = true → ∀ t ∈ PyData.shownKv kvs, okS t
  | [], _, t, ht => by simp only [PyData.shownKv] at ht; cases ht
  | (k, v) :: r, h, t, ht => by
    have h' : (k.leavesShort B = true ∧ v.leavesShort B = true) ∧ PyData.leavesShortKv B r = true := by simpa only [PyData.leavesShortKv, Bool.and_eq_true] using h
    simp only [PyData.shownKv] at ht
    rcases List.mem_cons.mp ht with z | z
    · rw [z]; exact okS_append (okS_append (okS_shown k h'.1.1) (okS_string _)) (okS_shown v h'.1.2)
    · exact okS_shownKv r h'.2 t z
end

/-! ### small values: all numbers of at most 43 figures -/
structure SmD (d : PyData) (k j : Nat) : Prop where
  lv : d.leavesShort 45 = true
  sh : d.showable = true
  wt : d.weight ≤ k
  dp : d.depth ≤ j
structure SmDs (ds : List PyData) (k j : Nat) : Prop where
  lv : PyData.leavesShortAll 45 ds = true
  sh : PyData.showableAll ds = true
  wt : PyData.weightAll ds ≤ k
  dp : PyData.depthAll ds ≤ j
def Sm (p : PV) (k j : Nat) : Prop := ∃ d, toR p = some d ∧ SmD d k j
def SmL (ps : List PV) (k j : Nat) : Prop := ∃ ds, toRs ps = some ds ∧ SmDs ds k j
theorem Sm.mono {p : PV} {k j k' j' : Nat} (h : Sm p k j) (hk : k ≤ k') (hj : j ≤ j') : Sm p k' j' := by
  obtain ⟨d, e, h⟩ := h
  exact ⟨d, e, h.lv, h.sh, Nat.le_trans h.wt hk, Nat.le_trans h.dp hj⟩
theorem sm_non : Sm .non 0 0 := ⟨_, rfl, rfl, rfl, Nat.le_refl _, Nat.le_refl _⟩
theorem sm_bl (b : Bool) : Sm (.bl b) 0 0 := ⟨_, rfl, rfl, rfl, Nat.le_refl _, Nat.le_refl _⟩
theorem sm_int {i : Int} (h : i.natAbs < 10 ^ 43) : Sm (.int i) 150 0 := by
  have hl : i.natAbs.log2 < 149 := by
    by_cases h0 : i.natAbs = 0
    · rw [h0]; decide
    · exact (Nat.log2_lt h0).mpr (Nat.lt_trans h (by decide))
  refine ⟨_, rfl, ?_, ?_, ?_, Nat.le_refl _⟩
  · simp only [PyData.leavesShort, decide_eq_true_eq]
    have e := int_text_length_le10 (k := 43) (by decide) h
    show (Str.ofString (toString i)).length ≤ 45
    rw [PySem.ofString_length]
    omega
  · simp only [PyData.showable, decide_eq_true_eq]
    omega
  · simp only [PyData.weight]
    split <;> omega
theorem sm_str {x : Str} {k : Nat} (h : okS x) (hk : x.length ≤ k) : Sm (.str x) k 0 := by
  refine ⟨_, rfl, ?_, rfl, ?_, Nat.le_refl _⟩
  · simp only [PyData.leavesShort, List.all_eq_true, decide_eq_true_eq]
    exact h
  · simp only [PyData.weight]
    exact hk
theorem smL_nil {j : Nat} : SmL [] 0 j := ⟨_, rfl, rfl, rfl, Nat.le_refl _, Nat.zero_le _⟩
theorem smL_cons {p : PV} {ps : List PV} {k m j : Nat} (h : Sm p k j) (l : SmL ps m j) : SmL (p :: ps) (k + 1 + m) j := by
  obtain ⟨d, e, h⟩ := h
  obtain ⟨ds, el, l⟩ := l
  refine ⟨d :: ds, by unfold toRs; rw [e, el], ?_, ?_, ?_, ?_⟩
  · simp only [PyData.leavesShortAll, h.lv, l.lv, Bool.and_self]
  · simp only [PyData.showableAll, h.sh, l.sh, Bool.and_self]
  · simp only [PyData.weightAll]
    have := h.wt
    have := l.wt
    omega
  · simp only [PyData.depthAll]
    exact Nat.max_le.mpr ⟨h.dp, l.dp⟩
theorem sm_tup {ps : List PV} {k j : Nat} (l : SmL ps k j) : Sm (.tup ps) k (j + 1) := by
  obtain ⟨ds, el, l⟩ := l
  refine ⟨.tuple ds, by unfold toR; rw [el]; rfl, ?_, ?_, ?_, ?_⟩
  · simp only [PyData.leavesShort]; exact l.lv
  · simp only [PyData.showable]; exact l.sh
  · simp only [PyData.weight]; exact l.wt
  · simp only [PyData.depth]; exact Nat.succ_le_succ l.dp
theorem sm_lst {ps : List PV} {k j : Nat} (l : SmL ps k j) : Sm (.lst ps) k (j + 1) := by
  obtain ⟨ds, el, l⟩ := l
  refine ⟨.list ds, by unfold toR; rw [el]; rfl, ?_, ?_, ?_, ?_⟩
  · simp only [PyData.leavesShort]; exact l.lv
  · simp only [PyData.showable]; exact l.sh
  · simp only [PyData.weight]; exact l.wt
  · simp only [PyData.depth]; exact Nat.succ_le_succ l.dp
/-- the text is there, and small -/
theorem repr_sm {p : PV} {k j : Nat} (h : Sm p k j) (hk : 47 * k + 45 ≤ 16000000) (hj : j ≤ 60) : ∃ x, reprPV true p = some x ∧ okS x ∧ x.length ≤ 47 * k + 45 := by
  obtain ⟨d, e, h⟩ := h
  have hl := PyData.shown_le 45 (by decide) d h.lv
  have hw : (45 + 2) * d.weight ≤ 47 * k := Nat.mul_le_mul_left _ h.wt
  refine ⟨d.shown, ?_, okS_shown d h.lv, by omega⟩
  unfold reprPV
  rw [e]
  dsimp only
  rw [if_pos ⟨h.sh, fun _ => rfl, Nat.le_trans h.dp hj, by rw [sizeLine_eq]; omega⟩]
end Fx

namespace Fx
open PySem PySem.Spec PyProof.Rows L2
namespace P

def top (i : Nat) : Stmt := PySem.Challenge.pw_rootsbetween_k01_errors_as_told.main.body.getD i (.Pass ⟨0, 0, 0, 0⟩)
abbrev s_u_law_pen : Stmt := top 19
abbrev s_u_law_draw : Stmt := top 20
abbrev s_u_law_pick : Stmt := top 21
abbrev s_u_law_kinds : Stmt := top 22
abbrev s_u_law_more_kinds : Stmt := top 23
abbrev s_u_law_field : Stmt := top 24
abbrev s_u_law_raised : Stmt := top 25
abbrev s_u_law_raised_too : Stmt := top 26
abbrev s_u_law_told : Stmt := top 27
abbrev s_u_law_due : Stmt := top 28
abbrev s_law : Stmt := top 29
abbrev i_BadNumber : Stmt := inClass (top 2) 0
abbrev i_BadRow : Stmt := inClass (top 3) 0
abbrev i_BadTable : Stmt := inClass (top 4) 0
abbrev i_BadPoly : Stmt := inClass (top 5) 0
abbrev i_BadLot : Stmt := inClass (top 6) 0
abbrev i_BadName : Stmt := inClass (top 7) 0
abbrev i_BadText : Stmt := inClass (top 8) 0
abbrev i_NoPlace : Stmt := inClass (top 9) 0
abbrev i_NoName : Stmt := inClass (top 10) 0
abbrev i_TakenName : Stmt := inClass (top 11) 0
abbrev i_Unlike : Stmt := inClass (top 12) 0
abbrev i_NotBetween : Stmt := inClass (top 13) 0
abbrev i_TooMany : Stmt := inClass (top 14) 0
abbrev i_NotKept : Stmt := inClass (top 15) 0
def flds : Nat → List Str
  | 1 => ["what", "number"]
  | 2 => ["what", "row"]
  | 3 => ["what"]
  | 4 => ["what"]
  | 5 => ["what", "lot"]
  | 6 => ["name"]
  | 7 => ["line", "word"]
  | 8 => ["what", "place"]
  | 9 => ["name"]
  | 10 => ["name"]
  | 11 => ["what"]
  | 12 => ["row"]
  | 13 => ["what", "many", "limit"]
  | 14 => ["promise", "witness"]
  | _ => []
theorem fm_BadNumber_what : ("what" : Str) ∈ flds 1 := by decide +kernel
theorem lk_BadNumber_what (a b : PV) : ((List.reverse (["what", "number"] : List Str)).zip (List.reverse [a, b])).lookup ("what" : Str) = some a := by kernel_rfl
theorem fm_BadNumber_number : ("number" : Str) ∈ flds 1 := by decide +kernel
theorem lk_BadNumber_number (a b : PV) : ((List.reverse (["what", "number"] : List Str)).zip (List.reverse [a, b])).lookup ("number" : Str) = some b := by kernel_rfl
theorem fm_BadRow_what : ("what" : Str) ∈ flds 2 := by decide +kernel
theorem lk_BadRow_what (a b : PV) : ((List.reverse (["what", "row"] : List Str)).zip (List.reverse [a, b])).lookup ("what" : Str) = some a := by kernel_rfl
theorem fm_BadRow_row : ("row" : Str) ∈ flds 2 := by decide +kernel
theorem lk_BadRow_row (a b : PV) : ((List.reverse (["what", "row"] : List Str)).zip (List.reverse [a, b])).lookup ("row" : Str) = some b := by kernel_rfl
theorem fm_BadTable_what : ("what" : Str) ∈ flds 3 := by decide +kernel
theorem lk_BadTable_what (a : PV) : ((List.reverse (["what"] : List Str)).zip (List.reverse [a])).lookup ("what" : Str) = some a := by kernel_rfl
theorem fm_BadPoly_what : ("what" : Str) ∈ flds 4 := by decide +kernel
theorem lk_BadPoly_what (a : PV) : ((List.reverse (["what"] : List Str)).zip (List.reverse [a])).lookup ("what" : Str) = some a := by kernel_rfl
theorem fm_BadLot_what : ("what" : Str) ∈ flds 5 := by decide +kernel
theorem lk_BadLot_what (a b : PV) : ((List.reverse (["what", "lot"] : List Str)).zip (List.reverse [a, b])).lookup ("what" : Str) = some a := by kernel_rfl
theorem fm_BadLot_lot : ("lot" : Str) ∈ flds 5 := by decide +kernel
theorem lk_BadLot_lot (a b : PV) : ((List.reverse (["what", "lot"] : List Str)).zip (List.reverse [a, b])).lookup ("lot" : Str) = some b := by kernel_rfl
theorem fm_BadName_name : ("name" : Str) ∈ flds 6 := by decide +kernel
theorem lk_BadName_name (a : PV) : ((List.reverse (["name"] : List Str)).zip (List.reverse [a])).lookup ("name" : Str) = some a := by kernel_rfl
theorem fm_BadText_line : ("line" : Str) ∈ flds 7 := by decide +kernel
theorem lk_BadText_line (a b : PV) : ((List.reverse (["line", "word"] : List Str)).zip (List.reverse [a, b])).lookup ("line" : Str) = some a := by kernel_rfl
theorem fm_BadText_word : ("word" : Str) ∈ flds 7 := by decide +kernel
theorem lk_BadText_word (a b : PV) : ((List.reverse (["line", "word"] : List Str)).zip (List.reverse [a, b])).lookup ("word" : Str) = some b := by kernel_rfl
theorem fm_NoPlace_what : ("what" : Str) ∈ flds 8 := by decide +kernel
theorem lk_NoPlace_what (a b : PV) : ((List.reverse (["what", "place"] : List Str)).zip (List.reverse [a, b])).lookup ("what" : Str) = some a := by kernel_rfl
theorem fm_NoPlace_place : ("place" : Str) ∈ flds 8 := by decide +kernel
theorem lk_NoPlace_place (a b : PV) : ((List.reverse (["what", "place"] : List Str)).zip (List.reverse [a, b])).lookup ("place" : Str) = some b := by kernel_rfl
theorem fm_NoName_name : ("name" : Str) ∈ flds 9 := by decide +kernel
theorem lk_NoName_name (a : PV) : ((List.reverse (["name"] : List Str)).zip (List.reverse [a])).lookup ("name" : Str) = some a := by kernel_rfl
theorem fm_TakenName_name : ("name" : Str) ∈ flds 10 := by decide +kernel
theorem lk_TakenName_name (a : PV) : ((List.reverse (["name"] : List Str)).zip (List.reverse [a])).lookup ("name" : Str) = some a := by kernel_rfl
theorem fm_Unlike_what : ("what" : Str) ∈ flds 11 := by decide +kernel
theorem lk_Unlike_what (a : PV) : ((List.reverse (["what"] : List Str)).zip (List.reverse [a])).lookup ("what" : Str) = some a := by kernel_rfl
theorem fm_NotBetween_row : ("row" : Str) ∈ flds 12 := by decide +kernel
theorem lk_NotBetween_row (a : PV) : ((List.reverse (["row"] : List Str)).zip (List.reverse [a])).lookup ("row" : Str) = some a := by kernel_rfl
theorem fm_TooMany_what : ("what" : Str) ∈ flds 13 := by decide +kernel
theorem lk_TooMany_what (a b c : PV) : ((List.reverse (["what", "many", "limit"] : List Str)).zip (List.reverse [a, b, c])).lookup ("what" : Str) = some a := by kernel_rfl
theorem fm_TooMany_many : ("many" : Str) ∈ flds 13 := by decide +kernel
theorem lk_TooMany_many (a b c : PV) : ((List.reverse (["what", "many", "limit"] : List Str)).zip (List.reverse [a, b, c])).lookup ("many" : Str) = some b := by kernel_rfl
theorem fm_TooMany_limit : ("limit" : Str) ∈ flds 13 := by decide +kernel
theorem lk_TooMany_limit (a b c : PV) : ((List.reverse (["what", "many", "limit"] : List Str)).zip (List.reverse [a, b, c])).lookup ("limit" : Str) = some c := by kernel_rfl
theorem fm_NotKept_promise : ("promise" : Str) ∈ flds 14 := by decide +kernel
theorem lk_NotKept_promise (a b : PV) : ((List.reverse (["promise", "witness"] : List Str)).zip (List.reverse [a, b])).lookup ("promise" : Str) = some a := by kernel_rfl
theorem fm_NotKept_witness : ("witness" : Str) ∈ flds 14 := by decide +kernel
theorem lk_NotKept_witness (a b : PV) : ((List.reverse (["promise", "witness"] : List Str)).zip (List.reverse [a, b])).lookup ("witness" : Str) = some b := by kernel_rfl
structure Txt (P : Program) (w : World) (G : Cfg) (mg : Str → Option Value) (base : Heap) (fA : Nat → Addr) (fD : Nat → FuncData) : Prop where
  px : G.px = none
  sys : ∃ o, base.get? sysModules = some o
  errs : ErrTab G 17
  hfl : ∀ (f : Str) (c : Nat), f ∈ flds c → PySem.W.findIn G.K (.ref (G.ca c)) f = some none ∧ ErrI G.K (G.ca c)
  f_u_law_pen : GFn G.K mg "_law_pen" s_u_law_pen ["script"] (fA 0) (fD 0)
  f_u_law_draw : GFn G.K mg "_law_draw" s_u_law_draw ["pen", "many"] (fA 1) (fD 1)
  f_u_law_pick : GFn G.K mg "_law_pick" s_u_law_pick ["pen", "some"] (fA 2) (fD 2)
  f_u_law_kinds : GFn G.K mg "_law_kinds" s_u_law_kinds ["e"] (fA 3) (fD 3)
  f_u_law_more_kinds : GFn G.K mg "_law_more_kinds" s_u_law_more_kinds ["e"] (fA 4) (fD 4)
  f_u_law_field : GFn G.K mg "_law_field" s_u_law_field ["pen"] (fA 5) (fD 5)
  f_u_law_raised : GFn G.K mg "_law_raised" s_u_law_raised ["kind", "one", "two"] (fA 6) (fD 6)
  f_u_law_raised_too : GFn G.K mg "_law_raised_too" s_u_law_raised_too ["kind", "one", "two", "three"] (fA 7) (fD 7)
  f_u_law_told : GFn G.K mg "_law_told" s_u_law_told ["kind", "one", "two", "three"] (fA 8) (fD 8)
  f_u_law_due : GFn G.K mg "_law_due" s_u_law_due ["kind", "one", "two", "three"] (fA 9) (fD 9)
  f_law : GFn G.K mg "law" s_law ["script"] (fA 10) (fD 10)
  b_ValueError : mg "ValueError" = none
  b_int : mg "int" = none
  b_isinstance : mg "isinstance" = none
  b_len : mg "len" = none
  b_list : mg "list" = none
  b_range : mg "range" = none
  b_repr : mg "repr" = none
  g_RootsError : mg "RootsError" = some (.ref (G.ca 0))
  g_BadNumber : mg "BadNumber" = some (.ref (G.ca 1))
  g_BadRow : mg "BadRow" = some (.ref (G.ca 2))
  g_BadTable : mg "BadTable" = some (.ref (G.ca 3))
  g_BadPoly : mg "BadPoly" = some (.ref (G.ca 4))
  g_BadLot : mg "BadLot" = some (.ref (G.ca 5))
  g_BadName : mg "BadName" = some (.ref (G.ca 6))
  g_BadText : mg "BadText" = some (.ref (G.ca 7))
  g_NoPlace : mg "NoPlace" = some (.ref (G.ca 8))
  g_NoName : mg "NoName" = some (.ref (G.ca 9))
  g_TakenName : mg "TakenName" = some (.ref (G.ca 10))
  g_Unlike : mg "Unlike" = some (.ref (G.ca 11))
  g_NotBetween : mg "NotBetween" = some (.ref (G.ca 12))
  g_TooMany : mg "TooMany" = some (.ref (G.ca 13))
  g_NotKept : mg "NotKept" = some (.ref (G.ca 14))
  g_NothingToUndo : mg "NothingToUndo" = some (.ref (G.ca 15))
  g_NothingToRedo : mg "NothingToRedo" = some (.ref (G.ca 16))
  m_BadNumber : ErrMk G.K mg (G.ca 1) "BadNumber" "BadNumber.__init__" i_BadNumber ["self", "what", "number"] ["what", "number"] (fA 12) (fD 12)
  m_BadRow : ErrMk G.K mg (G.ca 2) "BadRow" "BadRow.__init__" i_BadRow ["self", "what", "row"] ["what", "row"] (fA 13) (fD 13)
  m_BadTable : ErrMk G.K mg (G.ca 3) "BadTable" "BadTable.__init__" i_BadTable ["self", "what"] ["what"] (fA 14) (fD 14)
  m_BadPoly : ErrMk G.K mg (G.ca 4) "BadPoly" "BadPoly.__init__" i_BadPoly ["self", "what"] ["what"] (fA 15) (fD 15)
  m_BadLot : ErrMk G.K mg (G.ca 5) "BadLot" "BadLot.__init__" i_BadLot ["self", "what", "lot"] ["what", "lot"] (fA 16) (fD 16)
  m_BadName : ErrMk G.K mg (G.ca 6) "BadName" "BadName.__init__" i_BadName ["self", "name"] ["name"] (fA 17) (fD 17)
  m_BadText : ErrMk G.K mg (G.ca 7) "BadText" "BadText.__init__" i_BadText ["self", "line", "word"] ["line", "word"] (fA 18) (fD 18)
  m_NoPlace : ErrMk G.K mg (G.ca 8) "NoPlace" "NoPlace.__init__" i_NoPlace ["self", "what", "place"] ["what", "place"] (fA 19) (fD 19)
  m_NoName : ErrMk G.K mg (G.ca 9) "NoName" "NoName.__init__" i_NoName ["self", "name"] ["name"] (fA 20) (fD 20)
  m_TakenName : ErrMk G.K mg (G.ca 10) "TakenName" "TakenName.__init__" i_TakenName ["self", "name"] ["name"] (fA 21) (fD 21)
  m_Unlike : ErrMk G.K mg (G.ca 11) "Unlike" "Unlike.__init__" i_Unlike ["self", "what"] ["what"] (fA 22) (fD 22)
  m_NotBetween : ErrMk G.K mg (G.ca 12) "NotBetween" "NotBetween.__init__" i_NotBetween ["self", "row"] ["row"] (fA 23) (fD 23)
  m_TooMany : ErrMk G.K mg (G.ca 13) "TooMany" "TooMany.__init__" i_TooMany ["self", "what", "many", "limit"] ["what", "many", "limit"] (fA 24) (fD 24)
  m_NotKept : ErrMk G.K mg (G.ca 14) "NotKept" "NotKept.__init__" i_NotKept ["self", "promise", "witness"] ["promise", "witness"] (fA 25) (fD 25)
  n_NothingToUndo : ErrM0 G.K mg (G.ca 15) "NothingToUndo"
  n_NothingToRedo : ErrM0 G.K mg (G.ca 16) "NothingToRedo"
section
variable {P : Program} {w : World} {G : Cfg} {mg : Str → Option Value} {base : Heap} {fA : Nat → Addr} {fD : Nat → FuncData}
theorem sci_BadNumber : FnScope ["self", "what", "number"] ["self", "what", "number"] (defScope i_BadNumber) := ⟨rfl, rfl, rfl, by decide +kernel, rfl, by decide +kernel, by decide +kernel⟩
theorem ini_BadNumber {fI C : Addr} {fd : FuncData} {K : PySem.W.Frag} (m : ErrMk K mg C "BadNumber" "BadNumber.__init__" i_BadNumber ["self", "what", "number"] ["what", "number"] fI fd) (e : ErrF K C) : FnOk P w K mg base (L2.CX P w) 1 fI fd ["self", "what", "number"] (spIni C ["what", "number"]) :=
  m.fn.okX sci_BadNumber (fun vs H Q E h => h.len) fun cdv A outer s H vs Q E hr h => ⟨_, (pss_cons (ps_ost (pv 0) (pv 1)) (pss_one (ps_ost (pv 0) (pv 2)))), pure_ini2 rfl (m.oex e) (m.nof _ (by simp)) (m.nof _ (by simp)) h⟩
theorem sci_BadRow : FnScope ["self", "what", "row"] ["self", "what", "row"] (defScope i_BadRow) := ⟨rfl, rfl, rfl, by decide +kernel, rfl, by decide +kernel, by decide +kernel⟩
theorem ini_BadRow {fI C : Addr} {fd : FuncData} {K : PySem.W.Frag} (m : ErrMk K mg C "BadRow" "BadRow.__init__" i_BadRow ["self", "what", "row"] ["what", "row"] fI fd) (e : ErrF K C) : FnOk P w K mg base (L2.CX P w) 1 fI fd ["self", "what", "row"] (spIni C ["what", "row"]) :=
  m.fn.okX sci_BadRow (fun vs H Q E h => h.len) fun cdv A outer s H vs Q E hr h => ⟨_, (pss_cons (ps_ost (pv 0) (pv 1)) (pss_one (ps_ost (pv 0) (pv 2)))), pure_ini2 rfl (m.oex e) (m.nof _ (by simp)) (m.nof _ (by simp)) h⟩
theorem sci_BadTable : FnScope ["self", "what"] ["self", "what"] (defScope i_BadTable) := ⟨rfl, rfl, rfl, by decide +kernel, rfl, by decide +kernel, by decide +kernel⟩
theorem ini_BadTable {fI C : Addr} {fd : FuncData} {K : PySem.W.Frag} (m : ErrMk K mg C "BadTable" "BadTable.__init__" i_BadTable ["self", "what"] ["what"] fI fd) (e : ErrF K C) : FnOk P w K mg base (L2.CX P w) 1 fI fd ["self", "what"] (spIni C ["what"]) :=
  m.fn.okX sci_BadTable (fun vs H Q E h => h.len) fun cdv A outer s H vs Q E hr h => ⟨_, (pss_one (ps_ost (pv 0) (pv 1))), pure_ini1 rfl (m.oex e) (m.nof _ (by simp)) h⟩
theorem sci_BadPoly : FnScope ["self", "what"] ["self", "what"] (defScope i_BadPoly) := ⟨rfl, rfl, rfl, by decide +kernel, rfl, by decide +kernel, by decide +kernel⟩
theorem ini_BadPoly {fI C : Addr} {fd : FuncData} {K : PySem.W.Frag} (m : ErrMk K mg C "BadPoly" "BadPoly.__init__" i_BadPoly ["self", "what"] ["what"] fI fd) (e : ErrF K C) : FnOk P w K mg base (L2.CX P w) 1 fI fd ["self", "what"] (spIni C ["what"]) :=
  m.fn.okX sci_BadPoly (fun vs H Q E h => h.len) fun cdv A outer s H vs Q E hr h => ⟨_, (pss_one (ps_ost (pv 0) (pv 1))), pure_ini1 rfl (m.oex e) (m.nof _ (by simp)) h⟩
theorem sci_BadLot : FnScope ["self", "what", "lot"] ["self", "what", "lot"] (defScope i_BadLot) := ⟨rfl, rfl, rfl, by decide +kernel, rfl, by decide +kernel, by decide +kernel⟩
theorem ini_BadLot {fI C : Addr} {fd : FuncData} {K : PySem.W.Frag} (m : ErrMk K mg C "BadLot" "BadLot.__init__" i_BadLot ["self", "what", "lot"] ["what", "lot"] fI fd) (e : ErrF K C) : FnOk P w K mg base (L2.CX P w) 1 fI fd ["self", "what", "lot"] (spIni C ["what", "lot"]) :=
  m.fn.okX sci_BadLot (fun vs H Q E h => h.len) fun cdv A outer s H vs Q E hr h => ⟨_, (pss_cons (ps_ost (pv 0) (pv 1)) (pss_one (ps_ost (pv 0) (pv 2)))), pure_ini2 rfl (m.oex e) (m.nof _ (by simp)) (m.nof _ (by simp)) h⟩
theorem sci_BadName : FnScope ["self", "name"] ["self", "name"] (defScope i_BadName) := ⟨rfl, rfl, rfl, by decide +kernel, rfl, by decide +kernel, by decide +kernel⟩
theorem ini_BadName {fI C : Addr} {fd : FuncData} {K : PySem.W.Frag} (m : ErrMk K mg C "BadName" "BadName.__init__" i_BadName ["self", "name"] ["name"] fI fd) (e : ErrF K C) : FnOk P w K mg base (L2.CX P w) 1 fI fd ["self", "name"] (spIni C ["name"]) :=
  m.fn.okX sci_BadName (fun vs H Q E h => h.len) fun cdv A outer s H vs Q E hr h => ⟨_, (pss_one (ps_ost (pv 0) (pv 1))), pure_ini1 rfl (m.oex e) (m.nof _ (by simp)) h⟩
theorem sci_BadText : FnScope ["self", "line", "word"] ["self", "line", "word"] (defScope i_BadText) := ⟨rfl, rfl, rfl, by decide +kernel, rfl, by decide +kernel, by decide +kernel⟩
theorem ini_BadText {fI C : Addr} {fd : FuncData} {K : PySem.W.Frag} (m : ErrMk K mg C "BadText" "BadText.__init__" i_BadText ["self", "line", "word"] ["line", "word"] fI fd) (e : ErrF K C) : FnOk P w K mg base (L2.CX P w) 1 fI fd ["self", "line", "word"] (spIni C ["line", "word"]) :=
  m.fn.okX sci_BadText (fun vs H Q E h => h.len) fun cdv A outer s H vs Q E hr h => ⟨_, (pss_cons (ps_ost (pv 0) (pv 1)) (pss_one (ps_ost (pv 0) (pv 2)))), pure_ini2 rfl (m.oex e) (m.nof _ (by simp)) (m.nof _ (by simp)) h⟩
theorem sci_NoPlace : FnScope ["self", "what", "place"] ["self", "what", "place"] (defScope i_NoPlace) := ⟨rfl, rfl, rfl, by decide +kernel, rfl, by decide +kernel, by decide +kernel⟩
theorem ini_NoPlace {fI C : Addr} {fd : FuncData} {K : PySem.W.Frag} (m : ErrMk K mg C "NoPlace" "NoPlace.__init__" i_NoPlace ["self", "what", "place"] ["what", "place"] fI fd) (e : ErrF K C) : FnOk P w K mg base (L2.CX P w) 1 fI fd ["self", "what", "place"] (spIni C ["what", "place"]) :=
  m.fn.okX sci_NoPlace (fun vs H Q E h => h.len) fun cdv A outer s H vs Q E hr h => ⟨_, (pss_cons (ps_ost (pv 0) (pv 1)) (pss_one (ps_ost (pv 0) (pv 2)))), pure_ini2 rfl (m.oex e) (m.nof _ (by simp)) (m.nof _ (by simp)) h⟩
theorem sci_NoName : FnScope ["self", "name"] ["self", "name"] (defScope i_NoName) := ⟨rfl, rfl, rfl, by decide +kernel, rfl, by decide +kernel, by decide +kernel⟩
theorem ini_NoName {fI C : Addr} {fd : FuncData} {K : PySem.W.Frag} (m : ErrMk K mg C "NoName" "NoName.__init__" i_NoName ["self", "name"] ["name"] fI fd) (e : ErrF K C) : FnOk P w K mg base (L2.CX P w) 1 fI fd ["self", "name"] (spIni C ["name"]) :=
  m.fn.okX sci_NoName (fun vs H Q E h => h.len) fun cdv A outer s H vs Q E hr h => ⟨_, (pss_one (ps_ost (pv 0) (pv 1))), pure_ini1 rfl (m.oex e) (m.nof _ (by simp)) h⟩
theorem sci_TakenName : FnScope ["self", "name"] ["self", "name"] (defScope i_TakenName) := ⟨rfl, rfl, rfl, by decide +kernel, rfl, by decide +kernel, by decide +kernel⟩
theorem ini_TakenName {fI C : Addr} {fd : FuncData} {K : PySem.W.Frag} (m : ErrMk K mg C "TakenName" "TakenName.__init__" i_TakenName ["self", "name"] ["name"] fI fd) (e : ErrF K C) : FnOk P w K mg base (L2.CX P w) 1 fI fd ["self", "name"] (spIni C ["name"]) :=
  m.fn.okX sci_TakenName (fun vs H Q E h => h.len) fun cdv A outer s H vs Q E hr h => ⟨_, (pss_one (ps_ost (pv 0) (pv 1))), pure_ini1 rfl (m.oex e) (m.nof _ (by simp)) h⟩
theorem sci_Unlike : FnScope ["self", "what"] ["self", "what"] (defScope i_Unlike) := ⟨rfl, rfl, rfl, by decide +kernel, rfl, by decide +kernel, by decide +kernel⟩
theorem ini_Unlike {fI C : Addr} {fd : FuncData} {K : PySem.W.Frag} (m : ErrMk K mg C "Unlike" "Unlike.__init__" i_Unlike ["self", "what"] ["what"] fI fd) (e : ErrF K C) : FnOk P w K mg base (L2.CX P w) 1 fI fd ["self", "what"] (spIni C ["what"]) :=
  m.fn.okX sci_Unlike (fun vs H Q E h => h.len) fun cdv A outer s H vs Q E hr h => ⟨_, (pss_one (ps_ost (pv 0) (pv 1))), pure_ini1 rfl (m.oex e) (m.nof _ (by simp)) h⟩
theorem sci_NotBetween : FnScope ["self", "row"] ["self", "row"] (defScope i_NotBetween) := ⟨rfl, rfl, rfl, by decide +kernel, rfl, by decide +kernel, by decide +kernel⟩
theorem ini_NotBetween {fI C : Addr} {fd : FuncData} {K : PySem.W.Frag} (m : ErrMk K mg C "NotBetween" "NotBetween.__init__" i_NotBetween ["self", "row"] ["row"] fI fd) (e : ErrF K C) : FnOk P w K mg base (L2.CX P w) 1 fI fd ["self", "row"] (spIni C ["row"]) :=
  m.fn.okX sci_NotBetween (fun vs H Q E h => h.len) fun cdv A outer s H vs Q E hr h => ⟨_, (pss_one (ps_ost (pv 0) (pv 1))), pure_ini1 rfl (m.oex e) (m.nof _ (by simp)) h⟩
theorem sci_TooMany : FnScope ["self", "what", "many", "limit"] ["self", "what", "many", "limit"] (defScope i_TooMany) := ⟨rfl, rfl, rfl, by decide +kernel, rfl, by decide +kernel, by decide +kernel⟩
theorem ini_TooMany {fI C : Addr} {fd : FuncData} {K : PySem.W.Frag} (m : ErrMk K mg C "TooMany" "TooMany.__init__" i_TooMany ["self", "what", "many", "limit"] ["what", "many", "limit"] fI fd) (e : ErrF K C) : FnOk P w K mg base (L2.CX P w) 1 fI fd ["self", "what", "many", "limit"] (spIni C ["what", "many", "limit"]) :=
  m.fn.okX sci_TooMany (fun vs H Q E h => h.len) fun cdv A outer s H vs Q E hr h => ⟨_, (pss_cons (ps_ost (pv 0) (pv 1)) (pss_cons (ps_ost (pv 0) (pv 2)) (pss_one (ps_ost (pv 0) (pv 3))))), pure_ini3 rfl (m.oex e) (m.nof _ (by simp)) (m.nof _ (by simp)) (m.nof _ (by simp)) h⟩
theorem sci_NotKept : FnScope ["self", "promise", "witness"] ["self", "promise", "witness"] (defScope i_NotKept) := ⟨rfl, rfl, rfl, by decide +kernel, rfl, by decide +kernel, by decide +kernel⟩
theorem ini_NotKept {fI C : Addr} {fd : FuncData} {K : PySem.W.Frag} (m : ErrMk K mg C "NotKept" "NotKept.__init__" i_NotKept ["self", "promise", "witness"] ["promise", "witness"] fI fd) (e : ErrF K C) : FnOk P w K mg base (L2.CX P w) 1 fI fd ["self", "promise", "witness"] (spIni C ["promise", "witness"]) :=
  m.fn.okX sci_NotKept (fun vs H Q E h => h.len) fun cdv A outer s H vs Q E hr h => ⟨_, (pss_cons (ps_ost (pv 0) (pv 1)) (pss_one (ps_ost (pv 0) (pv 2)))), pure_ini2 rfl (m.oex e) (m.nof _ (by simp)) (m.nof _ (by simp)) h⟩
theorem sc_u_law_pen : FnScope ["script", "fold", "cell"] ["script"] (defScope s_u_law_pen) := ⟨rfl, rfl, rfl, by decide +kernel, rfl, by decide +kernel, by decide +kernel⟩
theorem ok_u_law_pen (T : Txt P w G mg base fA fD) : FnF G P w mg base 1 (fA 0) (fD 0) ["script"] F_u_law_pen :=
  fnF_of (N := ["script", "fold", "cell"]) T.f_u_law_pen.fn sc_u_law_pen fun cdv A outer s H E hr hgd0 => by
    have hgd : (A.deeper (envOfC "_law_pen" (defScope s_u_law_pen) s.heap.objs.size (fA 0) cdv)).guards = some [] := hgd0
    have tk : Takes (cxOf (L2.CX P w) P w G.K mg base ["script", "fold", "cell"] "_law_pen" (defScope s_u_law_pen) (fA 0) cdv A outer s H E) (fun cls d _ H' => E cls d H') := takes_of rfl rfl rfl rfl
    have ho : PassesOwn (model P w) (A.deeper (envOfC "_law_pen" (defScope s_u_law_pen) s.heap.objs.size (fA 0) cdv)) (envOfC "_law_pen" (defScope s_u_law_pen) s.heap.objs.size (fA 0) cdv) (cxOf (L2.CX P w) P w G.K mg base ["script", "fold", "cell"] "_law_pen" (defScope s_u_law_pen) (fA 0) cdv A outer s H E).xe := PassesOwn.leaving
    have hu : _ + 64 < cLine := (by have := hr.un; omega : (A.deeper (envOfC "_law_pen" (defScope s_u_law_pen) s.heap.objs.size (fA 0) cdv)).units + 64 < cLine)
    have hu1 : _ + 1 < cLine := (by have := hr.un; omega : (A.deeper (envOfC "_law_pen" (defScope s_u_law_pen) s.heap.objs.size (fA 0) cdv)).units + 1 < cLine)
    have hsy : NoSys (cxOf (L2.CX P w) P w G.K mg base ["script", "fold", "cell"] "_law_pen" (defScope s_u_law_pen) (fA 0) cdv A outer s H E) := T.sys
    exact (pfss_cons (by exact (pfs_set 1 sc_u_law_pen.nd rfl (Or.inl rfl) pf_int))
  (pfss_cons (by exact (pfs_for ho rfl (pfi_seq rfl (pf_var 0 rfl (Or.inl rfl))) (pfg_name 2 sc_u_law_pen.nd rfl (Or.inl rfl)) (pfss_one (by exact (pfs_set 1 sc_u_law_pen.nd rfl (Or.inl rfl) (by exact (pf_op od_mod (by exact (pf_blty blt_int rfl T.b_int (by decide +kernel) (pfa_cons (by exact (pf_op (od_add rfl) (by exact (pf_op od_mul (pf_var 1 rfl (Or.inl rfl)) pf_int)) (pf_var 2 rfl (Or.inl rfl)))) pfa_nil))) pf_int)))))))
  (pfss_one (by exact (pfs_return (pf_cell (pfp_cons key_str (by exact (pf_list rfl rfl T.b_list (pf_var 0 rfl (Or.inl rfl)))) (pfp_cons key_str pf_int (pfp_cons key_str pf_int (pfp_cons key_str pf_int (pfp_cons key_str (pf_var 1 rfl (Or.inl rfl)) pfp_nil)))))))))))
theorem sc_u_law_draw : FnScope ["pen", "many", "blend", "cell", "digit"] ["pen", "many"] (defScope s_u_law_draw) := ⟨rfl, rfl, rfl, by decide +kernel, rfl, by decide +kernel, by decide +kernel⟩
theorem ok_u_law_draw (T : Txt P w G mg base fA fD) : FnF G P w mg base 1 (fA 1) (fD 1) ["pen", "many"] F_u_law_draw :=
  fnF_of (N := ["pen", "many", "blend", "cell", "digit"]) T.f_u_law_draw.fn sc_u_law_draw fun cdv A outer s H E hr hgd0 => by
    have hgd : (A.deeper (envOfC "_law_draw" (defScope s_u_law_draw) s.heap.objs.size (fA 1) cdv)).guards = some [] := hgd0
    have tk : Takes (cxOf (L2.CX P w) P w G.K mg base ["pen", "many", "blend", "cell", "digit"] "_law_draw" (defScope s_u_law_draw) (fA 1) cdv A outer s H E) (fun cls d _ H' => E cls d H') := takes_of rfl rfl rfl rfl
    have ho : PassesOwn (model P w) (A.deeper (envOfC "_law_draw" (defScope s_u_law_draw) s.heap.objs.size (fA 1) cdv)) (envOfC "_law_draw" (defScope s_u_law_draw) s.heap.objs.size (fA 1) cdv) (cxOf (L2.CX P w) P w G.K mg base ["pen", "many", "blend", "cell", "digit"] "_law_draw" (defScope s_u_law_draw) (fA 1) cdv A outer s H E).xe := PassesOwn.leaving
    have hu : _ + 64 < cLine := (by have := hr.un; omega : (A.deeper (envOfC "_law_draw" (defScope s_u_law_draw) s.heap.objs.size (fA 1) cdv)).units + 64 < cLine)
    have hu1 : _ + 1 < cLine := (by have := hr.un; omega : (A.deeper (envOfC "_law_draw" (defScope s_u_law_draw) s.heap.objs.size (fA 1) cdv)).units + 1 < cLine)
    have hsy : NoSys (cxOf (L2.CX P w) P w G.K mg base ["pen", "many", "blend", "cell", "digit"] "_law_draw" (defScope s_u_law_draw) (fA 1) cdv A outer s H E) := T.sys
    exact (pfss_cons (by exact (pfs_dput hu1 (pf_var 0 rfl (Or.inl rfl)) pf_str (by exact (pf_op (od_add rfl) (by exact (pf_dget hu1 (pf_var 0 rfl (Or.inl rfl)) pf_str)) pf_int))))
  (pfss_cons (by exact (pfs_if (by exact (pft_w (pfw_and (by exact (pft_cmp (od_eq rfl hu) (by exact (pf_dget hu1 (pf_var 0 rfl (Or.inl rfl)) pf_str)) pf_int)) (pfw_and1 (by exact (pft_cmp od_lt (by exact (pf_dget hu1 (pf_var 0 rfl (Or.inl rfl)) pf_str)) (by exact (pf_len rfl rfl T.b_len (by exact (pf_dget hu1 (pf_var 0 rfl (Or.inl rfl)) pf_str)))))))))) (pfss_cons (by exact (pfs_set 3 sc_u_law_draw.nd rfl (Or.inl rfl) (by exact (pf_ix rfl (by exact (pf_dget hu1 (pf_var 0 rfl (Or.inl rfl)) pf_str)) (by exact (pf_dget hu1 (pf_var 0 rfl (Or.inl rfl)) pf_str))))))
  (pfss_cons (by exact (pfs_dput hu1 (pf_var 0 rfl (Or.inl rfl)) pf_str (by exact (pf_op (od_add rfl) (by exact (pf_dget hu1 (pf_var 0 rfl (Or.inl rfl)) pf_str)) pf_int))))
  (pfss_one (by exact (pfs_if (by exact (pft_cmp od_ge (pf_var 3 rfl (Or.inl rfl)) (by exact (pf_op od_pow pf_int pf_int)))) (pfss_one (by exact (pfs_dput hu1 (pf_var 0 rfl (Or.inl rfl)) pf_str (by exact (pf_op od_sub (pf_var 3 rfl (Or.inl rfl)) (by exact (pf_op od_pow pf_int pf_int))))))) (pfss_one (by exact (pfs_dput hu1 (pf_var 0 rfl (Or.inl rfl)) pf_str (by exact (pf_op od_mod (by exact (pf_blty blt_int rfl T.b_int (by decide +kernel) (pfa_cons (by exact (pf_op (od_add rfl) (by exact (pf_op od_mul (by exact (pf_dget hu1 (pf_var 0 rfl (Or.inl rfl)) pf_str)) pf_int)) (pf_var 3 rfl (Or.inl rfl)))) pfa_nil))) pf_int)))))))))) pfss_nil))
  (pfss_cons (by exact (pfs_if (by exact (pft_cmp od_gt (by exact (pf_dget hu1 (pf_var 0 rfl (Or.inl rfl)) pf_str)) pf_int)) (pfss_cons (by exact (pfs_set 4 sc_u_law_draw.nd rfl (Or.inl rfl) (by exact (pf_op od_mod (by exact (pf_blty blt_int rfl T.b_int (by decide +kernel) (pfa_cons (by exact (pf_dget hu1 (pf_var 0 rfl (Or.inl rfl)) pf_str)) pfa_nil))) (pf_var 1 rfl (Or.inl rfl))))))
  (pfss_cons (by exact (pfs_dput hu1 (pf_var 0 rfl (Or.inl rfl)) pf_str (by exact (pf_op od_div (by exact (pf_dget hu1 (pf_var 0 rfl (Or.inl rfl)) pf_str)) (pf_var 1 rfl (Or.inl rfl))))))
  (pfss_one (by exact (pfs_return (pf_var 4 rfl (Or.inl rfl))))))) pfss_nil))
  (pfss_cons (by exact (pfs_set 2 sc_u_law_draw.nd rfl (Or.inl rfl) (by exact (pf_op od_mod (by exact (pf_blty blt_int rfl T.b_int (by decide +kernel) (pfa_cons (by exact (pf_op (od_add rfl) (by exact (pf_op (od_add rfl) (by exact (pf_op od_mul (by exact (pf_dget hu1 (pf_var 0 rfl (Or.inl rfl)) pf_str)) pf_int)) (by exact (pf_op od_mul (by exact (pf_dget hu1 (pf_var 0 rfl (Or.inl rfl)) pf_str)) pf_int)))) pf_int)) pfa_nil))) pf_int))))
  (pfss_cons (by exact (pfs_set 2 sc_u_law_draw.nd rfl (Or.inl rfl) (by exact (pf_op od_mod (by exact (pf_blty blt_int rfl T.b_int (by decide +kernel) (pfa_cons (by exact (pf_op (od_add rfl) (by exact (pf_op (od_add rfl) (by exact (pf_op od_mul (pf_var 2 rfl (Or.inl rfl)) (pf_var 2 rfl (Or.inl rfl)))) (by exact (pf_op od_mul pf_int (pf_var 2 rfl (Or.inl rfl)))))) (by exact (pf_dget hu1 (pf_var 0 rfl (Or.inl rfl)) pf_str)))) pfa_nil))) pf_int))))
  (pfss_cons (by exact (pfs_dput hu1 (pf_var 0 rfl (Or.inl rfl)) pf_str (by exact (pf_op od_mod (by exact (pf_blty blt_int rfl T.b_int (by decide +kernel) (pfa_cons (by exact (pf_op (od_add rfl) (by exact (pf_op od_mul (pf_var 2 rfl (Or.inl rfl)) pf_int)) pf_int)) pfa_nil))) pf_int))))
  (pfss_one (by exact (pfs_return (by exact (pf_op od_mod (by exact (pf_blty blt_int rfl T.b_int (by decide +kernel) (pfa_cons (by exact (pf_op od_div (pf_var 2 rfl (Or.inl rfl)) pf_int)) pfa_nil))) (pf_var 1 rfl (Or.inl rfl)))))))))))))
theorem sc_u_law_pick : FnScope ["pen", "some"] ["pen", "some"] (defScope s_u_law_pick) := ⟨rfl, rfl, rfl, by decide +kernel, rfl, by decide +kernel, by decide +kernel⟩
theorem ok_u_law_pick (T : Txt P w G mg base fA fD) : FnF G P w mg base 2 (fA 2) (fD 2) ["pen", "some"] F_u_law_pick :=
  fnF_of (N := ["pen", "some"]) T.f_u_law_pick.fn sc_u_law_pick fun cdv A outer s H E hr hgd0 => by
    have hgd : (A.deeper (envOfC "_law_pick" (defScope s_u_law_pick) s.heap.objs.size (fA 2) cdv)).guards = some [] := hgd0
    have tk : Takes (cxOf (L2.CX P w) P w G.K mg base ["pen", "some"] "_law_pick" (defScope s_u_law_pick) (fA 2) cdv A outer s H E) (fun cls d _ H' => E cls d H') := takes_of rfl rfl rfl rfl
    have ho : PassesOwn (model P w) (A.deeper (envOfC "_law_pick" (defScope s_u_law_pick) s.heap.objs.size (fA 2) cdv)) (envOfC "_law_pick" (defScope s_u_law_pick) s.heap.objs.size (fA 2) cdv) (cxOf (L2.CX P w) P w G.K mg base ["pen", "some"] "_law_pick" (defScope s_u_law_pick) (fA 2) cdv A outer s H E).xe := PassesOwn.leaving
    have hu : _ + 64 < cLine := (by have := hr.un; omega : (A.deeper (envOfC "_law_pick" (defScope s_u_law_pick) s.heap.objs.size (fA 2) cdv)).units + 64 < cLine)
    have hu1 : _ + 1 < cLine := (by have := hr.un; omega : (A.deeper (envOfC "_law_pick" (defScope s_u_law_pick) s.heap.objs.size (fA 2) cdv)).units + 1 < cLine)
    have hsy : NoSys (cxOf (L2.CX P w) P w G.K mg base ["pen", "some"] "_law_pick" (defScope s_u_law_pick) (fA 2) cdv A outer s H E) := T.sys
    exact (pfss_one (by exact (pfs_return (by exact (pf_ix rfl (pf_var 1 rfl (Or.inl rfl)) (by exact (pf_call (ok_u_law_draw T) rfl (hr.mono (by decide)) hgd rfl T.f_u_law_draw.gl T.f_u_law_draw.kp T.f_u_law_draw.bi tk (pfa_cons (pf_var 0 rfl (Or.inl rfl)) (pfa_cons (by exact (pf_len rfl rfl T.b_len (pf_var 1 rfl (Or.inl rfl)))) pfa_nil)))))))))
def r_u_law_more_kinds : RS :=
  (sSeq (sOwn 1 (rlLst raNil))
  (sSeq (sIf (rTru (rXIs 0 (isE 17 9))) (sAppend 1 (rTup (raCons (rC (.str "noname")) (raCons (rRepr true (rXF 0 flds "name")) raNil)))) sNext)
  (sSeq (sIf (rTru (rXIs 0 (isE 17 10))) (sAppend 1 (rTup (raCons (rC (.str "taken")) (raCons (rRepr true (rXF 0 flds "name")) raNil)))) sNext)
  (sSeq (sIf (rTru (rXIs 0 (isE 17 11))) (sAppend 1 (rTup (raCons (rC (.str "unlike")) (raCons (rXF 0 flds "what") raNil)))) sNext)
  (sSeq (sIf (rTru (rXIs 0 (isE 17 12))) (sAppend 1 (rTup (raCons (rC (.str "notbetween")) (raCons (rXF 0 flds "row") raNil)))) sNext)
  (sSeq (sIf (rTru (rXIs 0 (isE 17 13))) (sAppend 1 (rTup (raCons (rC (.str "many")) (raCons (rXF 0 flds "what") (raCons (rXF 0 flds "many") (raCons (rXF 0 flds "limit") raNil)))))) sNext)
  (sSeq (sIf (rTru (rXIs 0 (isE 17 14))) (sAppend 1 (rTup (raCons (rC (.str "kept")) (raCons (rXF 0 flds "promise") (raCons (rXF 0 flds "witness") raNil))))) sNext)
  (sSeq (sIf (rTru (rXIs 0 (isE 17 15))) (sAppend 1 (rTup (raCons (rC (.str "undo")) raNil))) sNext)
  (sSeq (sIf (rTru (rXIs 0 (isE 17 16))) (sAppend 1 (rTup (raCons (rC (.str "redo")) raNil))) sNext)
  (sFrz 1 (sRet (rVar 1))))))))))))
def F_u_law_more_kinds : XFn := runH 2 r_u_law_more_kinds
theorem sc_u_law_more_kinds : FnScope ["e", "found"] ["e"] (defScope s_u_law_more_kinds) := ⟨rfl, rfl, rfl, by decide +kernel, rfl, by decide +kernel, by decide +kernel⟩
theorem ok_u_law_more_kinds (T : Txt P w G mg base fA fD) : FnHF { G with px := none } P w mg base 1 (fA 4) (fD 4) "e" F_u_law_more_kinds :=
  fnHF_of (N := ["e", "found"]) T.f_u_law_more_kinds.fn sc_u_law_more_kinds fun cdv A outer s H E y hrx hfy => by
    have hpin : Pinned (Cfg.at { G with px := none } y) (L2H.cxH (L2.CX P w) P w G.K mg base ["e", "found"] "_law_more_kinds" (defScope s_u_law_more_kinds) (fA 4) cdv A outer s H E y) := fun z e => by cases e; exact ⟨List.mem_cons_self, hfy⟩
    have hgd := hrx.gd
    have hu : _ + 64 < cLine := (by have := hrx.un; omega : (A.deeper (envOfC "_law_more_kinds" (defScope s_u_law_more_kinds) s.heap.objs.size (fA 4) cdv)).units + 64 < cLine)
    have hu1 : _ + 1 < cLine := (by have := hrx.un; omega : (A.deeper (envOfC "_law_more_kinds" (defScope s_u_law_more_kinds) s.heap.objs.size (fA 4) cdv)).units + 1 < cLine)
    have hsy : NoSys (L2H.cxH (L2.CX P w) P w G.K mg base ["e", "found"] "_law_more_kinds" (defScope s_u_law_more_kinds) (fA 4) cdv A outer s H E y) := T.sys
    have hfl := T.hfl
    exact (pfss_cons (by exact (pfs_own 1 sc_u_law_more_kinds.nd rfl (Or.inl rfl) (pfl_lst pfa_nil)))
  (pfss_cons (by exact (pfs_if (by exact (pft_tru rfl (by exact (pf_xis 0 (cv := .ref (G.ca 9)) hpin rfl T.b_isinstance rfl (Or.inl rfl) (pe_glob (v := .ref (G.ca 9)) rfl T.g_NoName rfl) (fun _ h => h) (fun c r h => T.errs.isE h))))) (pfss_one (by exact (pfs_append 1 rfl (Or.inl rfl) (by exact (pf_tup (pfa_cons pf_str (pfa_cons (by exact (pf_repr (sy := true) rfl hgd hu (fun _ => hsy) rfl T.b_repr (by exact (pf_xf 0 hpin rfl (Or.inl rfl) (hfl "name"))))) pfa_nil))))))) pfss_nil))
  (pfss_cons (by exact (pfs_if (by exact (pft_tru rfl (by exact (pf_xis 0 (cv := .ref (G.ca 10)) hpin rfl T.b_isinstance rfl (Or.inl rfl) (pe_glob (v := .ref (G.ca 10)) rfl T.g_TakenName rfl) (fun _ h => h) (fun c r h => T.errs.isE h))))) (pfss_one (by exact (pfs_append 1 rfl (Or.inl rfl) (by exact (pf_tup (pfa_cons pf_str (pfa_cons (by exact (pf_repr (sy := true) rfl hgd hu (fun _ => hsy) rfl T.b_repr (by exact (pf_xf 0 hpin rfl (Or.inl rfl) (hfl "name"))))) pfa_nil))))))) pfss_nil))
  (pfss_cons (by exact (pfs_if (by exact (pft_tru rfl (by exact (pf_xis 0 (cv := .ref (G.ca 11)) hpin rfl T.b_isinstance rfl (Or.inl rfl) (pe_glob (v := .ref (G.ca 11)) rfl T.g_Unlike rfl) (fun _ h => h) (fun c r h => T.errs.isE h))))) (pfss_one (by exact (pfs_append 1 rfl (Or.inl rfl) (by exact (pf_tup (pfa_cons pf_str (pfa_cons (by exact (pf_xf 0 hpin rfl (Or.inl rfl) (hfl "what"))) pfa_nil))))))) pfss_nil))
  (pfss_cons (by exact (pfs_if (by exact (pft_tru rfl (by exact (pf_xis 0 (cv := .ref (G.ca 12)) hpin rfl T.b_isinstance rfl (Or.inl rfl) (pe_glob (v := .ref (G.ca 12)) rfl T.g_NotBetween rfl) (fun _ h => h) (fun c r h => T.errs.isE h))))) (pfss_one (by exact (pfs_append 1 rfl (Or.inl rfl) (by exact (pf_tup (pfa_cons pf_str (pfa_cons (by exact (pf_xf 0 hpin rfl (Or.inl rfl) (hfl "row"))) pfa_nil))))))) pfss_nil))
  (pfss_cons (by exact (pfs_if (by exact (pft_tru rfl (by exact (pf_xis 0 (cv := .ref (G.ca 13)) hpin rfl T.b_isinstance rfl (Or.inl rfl) (pe_glob (v := .ref (G.ca 13)) rfl T.g_TooMany rfl) (fun _ h => h) (fun c r h => T.errs.isE h))))) (pfss_one (by exact (pfs_append 1 rfl (Or.inl rfl) (by exact (pf_tup (pfa_cons pf_str (pfa_cons (by exact (pf_xf 0 hpin rfl (Or.inl rfl) (hfl "what"))) (pfa_cons (by exact (pf_xf 0 hpin rfl (Or.inl rfl) (hfl "many"))) (pfa_cons (by exact (pf_xf 0 hpin rfl (Or.inl rfl) (hfl "limit"))) pfa_nil))))))))) pfss_nil))
  (pfss_cons (by exact (pfs_if (by exact (pft_tru rfl (by exact (pf_xis 0 (cv := .ref (G.ca 14)) hpin rfl T.b_isinstance rfl (Or.inl rfl) (pe_glob (v := .ref (G.ca 14)) rfl T.g_NotKept rfl) (fun _ h => h) (fun c r h => T.errs.isE h))))) (pfss_one (by exact (pfs_append 1 rfl (Or.inl rfl) (by exact (pf_tup (pfa_cons pf_str (pfa_cons (by exact (pf_xf 0 hpin rfl (Or.inl rfl) (hfl "promise"))) (pfa_cons (by exact (pf_xf 0 hpin rfl (Or.inl rfl) (hfl "witness"))) pfa_nil)))))))) pfss_nil))
  (pfss_cons (by exact (pfs_if (by exact (pft_tru rfl (by exact (pf_xis 0 (cv := .ref (G.ca 15)) hpin rfl T.b_isinstance rfl (Or.inl rfl) (pe_glob (v := .ref (G.ca 15)) rfl T.g_NothingToUndo rfl) (fun _ h => h) (fun c r h => T.errs.isE h))))) (pfss_one (by exact (pfs_append 1 rfl (Or.inl rfl) (by exact (pf_tup (pfa_cons pf_str pfa_nil)))))) pfss_nil))
  (pfss_cons (by exact (pfs_if (by exact (pft_tru rfl (by exact (pf_xis 0 (cv := .ref (G.ca 16)) hpin rfl T.b_isinstance rfl (Or.inl rfl) (pe_glob (v := .ref (G.ca 16)) rfl T.g_NothingToRedo rfl) (fun _ h => h) (fun c r h => T.errs.isE h))))) (pfss_one (by exact (pfs_append 1 rfl (Or.inl rfl) (by exact (pf_tup (pfa_cons pf_str pfa_nil)))))) pfss_nil))
  (pfss_frz 1 (pfss_one (by exact (pfs_return (pf_var 1 rfl (Or.inl rfl)))))))))))))))
def r_u_law_kinds : RS :=
  (sSeq (sOwn 1 (rlLst raNil))
  (sSeq (sIf (rTru (rXIs 0 (isE 17 1))) (sAppend 1 (rTup (raCons (rC (.str "number")) (raCons (rXF 0 flds "what") (raCons (rRepr true (rXF 0 flds "number")) raNil))))) sNext)
  (sSeq (sIf (rTru (rXIs 0 (isE 17 2))) (sAppend 1 (rTup (raCons (rC (.str "row")) (raCons (rXF 0 flds "what") (raCons (rRepr true (rXF 0 flds "row")) raNil))))) sNext)
  (sSeq (sIf (rTru (rXIs 0 (isE 17 3))) (sAppend 1 (rTup (raCons (rC (.str "table")) (raCons (rXF 0 flds "what") raNil)))) sNext)
  (sSeq (sIf (rTru (rXIs 0 (isE 17 4))) (sAppend 1 (rTup (raCons (rC (.str "poly")) (raCons (rXF 0 flds "what") raNil)))) sNext)
  (sSeq (sIf (rTru (rXIs 0 (isE 17 5))) (sAppend 1 (rTup (raCons (rC (.str "lot")) (raCons (rXF 0 flds "what") (raCons (rRepr true (rXF 0 flds "lot")) raNil))))) sNext)
  (sSeq (sIf (rTru (rXIs 0 (isE 17 6))) (sAppend 1 (rTup (raCons (rC (.str "badname")) (raCons (rRepr true (rXF 0 flds "name")) raNil)))) sNext)
  (sSeq (sIf (rTru (rXIs 0 (isE 17 7))) (sAppend 1 (rTup (raCons (rC (.str "text")) (raCons (rXF 0 flds "line") (raCons (rXF 0 flds "word") raNil))))) sNext)
  (sSeq (sIf (rTru (rXIs 0 (isE 17 8))) (sAppend 1 (rTup (raCons (rC (.str "place")) (raCons (rXF 0 flds "what") (raCons (rRepr true (rXF 0 flds "place")) raNil))))) sNext)
  (sRet (rOp opAdd (rBor 1) (rCallX F_u_law_more_kinds 0))))))))))))
def F_u_law_kinds : XFn := runH 2 r_u_law_kinds
theorem sc_u_law_kinds : FnScope ["e", "found"] ["e"] (defScope s_u_law_kinds) := ⟨rfl, rfl, rfl, by decide +kernel, rfl, by decide +kernel, by decide +kernel⟩
theorem ok_u_law_kinds (T : Txt P w G mg base fA fD) : FnHF { G with px := none } P w mg base 2 (fA 3) (fD 3) "e" F_u_law_kinds :=
  fnHF_of (N := ["e", "found"]) T.f_u_law_kinds.fn sc_u_law_kinds fun cdv A outer s H E y hrx hfy => by
    have hpin : Pinned (Cfg.at { G with px := none } y) (L2H.cxH (L2.CX P w) P w G.K mg base ["e", "found"] "_law_kinds" (defScope s_u_law_kinds) (fA 3) cdv A outer s H E y) := fun z e => by cases e; exact ⟨List.mem_cons_self, hfy⟩
    have hgd := hrx.gd
    have hu : _ + 64 < cLine := (by have := hrx.un; omega : (A.deeper (envOfC "_law_kinds" (defScope s_u_law_kinds) s.heap.objs.size (fA 3) cdv)).units + 64 < cLine)
    have hu1 : _ + 1 < cLine := (by have := hrx.un; omega : (A.deeper (envOfC "_law_kinds" (defScope s_u_law_kinds) s.heap.objs.size (fA 3) cdv)).units + 1 < cLine)
    have hsy : NoSys (L2H.cxH (L2.CX P w) P w G.K mg base ["e", "found"] "_law_kinds" (defScope s_u_law_kinds) (fA 3) cdv A outer s H E y) := T.sys
    have hfl := T.hfl
    have c_u_law_more_kinds := ok_u_law_more_kinds T
    exact (pfss_cons (by exact (pfs_own 1 sc_u_law_kinds.nd rfl (Or.inl rfl) (pfl_lst pfa_nil)))
  (pfss_cons (by exact (pfs_if (by exact (pft_tru rfl (by exact (pf_xis 0 (cv := .ref (G.ca 1)) hpin rfl T.b_isinstance rfl (Or.inl rfl) (pe_glob (v := .ref (G.ca 1)) rfl T.g_BadNumber rfl) (fun _ h => h) (fun c r h => T.errs.isE h))))) (pfss_one (by exact (pfs_append 1 rfl (Or.inl rfl) (by exact (pf_tup (pfa_cons pf_str (pfa_cons (by exact (pf_xf 0 hpin rfl (Or.inl rfl) (hfl "what"))) (pfa_cons (by exact (pf_repr (sy := true) rfl hgd hu (fun _ => hsy) rfl T.b_repr (by exact (pf_xf 0 hpin rfl (Or.inl rfl) (hfl "number"))))) pfa_nil)))))))) pfss_nil))
  (pfss_cons (by exact (pfs_if (by exact (pft_tru rfl (by exact (pf_xis 0 (cv := .ref (G.ca 2)) hpin rfl T.b_isinstance rfl (Or.inl rfl) (pe_glob (v := .ref (G.ca 2)) rfl T.g_BadRow rfl) (fun _ h => h) (fun c r h => T.errs.isE h))))) (pfss_one (by exact (pfs_append 1 rfl (Or.inl rfl) (by exact (pf_tup (pfa_cons pf_str (pfa_cons (by exact (pf_xf 0 hpin rfl (Or.inl rfl) (hfl "what"))) (pfa_cons (by exact (pf_repr (sy := true) rfl hgd hu (fun _ => hsy) rfl T.b_repr (by exact (pf_xf 0 hpin rfl (Or.inl rfl) (hfl "row"))))) pfa_nil)))))))) pfss_nil))
  (pfss_cons (by exact (pfs_if (by exact (pft_tru rfl (by exact (pf_xis 0 (cv := .ref (G.ca 3)) hpin rfl T.b_isinstance rfl (Or.inl rfl) (pe_glob (v := .ref (G.ca 3)) rfl T.g_BadTable rfl) (fun _ h => h) (fun c r h => T.errs.isE h))))) (pfss_one (by exact (pfs_append 1 rfl (Or.inl rfl) (by exact (pf_tup (pfa_cons pf_str (pfa_cons (by exact (pf_xf 0 hpin rfl (Or.inl rfl) (hfl "what"))) pfa_nil))))))) pfss_nil))
  (pfss_cons (by exact (pfs_if (by exact (pft_tru rfl (by exact (pf_xis 0 (cv := .ref (G.ca 4)) hpin rfl T.b_isinstance rfl (Or.inl rfl) (pe_glob (v := .ref (G.ca 4)) rfl T.g_BadPoly rfl) (fun _ h => h) (fun c r h => T.errs.isE h))))) (pfss_one (by exact (pfs_append 1 rfl (Or.inl rfl) (by exact (pf_tup (pfa_cons pf_str (pfa_cons (by exact (pf_xf 0 hpin rfl (Or.inl rfl) (hfl "what"))) pfa_nil))))))) pfss_nil))
  (pfss_cons (by exact (pfs_if (by exact (pft_tru rfl (by exact (pf_xis 0 (cv := .ref (G.ca 5)) hpin rfl T.b_isinstance rfl (Or.inl rfl) (pe_glob (v := .ref (G.ca 5)) rfl T.g_BadLot rfl) (fun _ h => h) (fun c r h => T.errs.isE h))))) (pfss_one (by exact (pfs_append 1 rfl (Or.inl rfl) (by exact (pf_tup (pfa_cons pf_str (pfa_cons (by exact (pf_xf 0 hpin rfl (Or.inl rfl) (hfl "what"))) (pfa_cons (by exact (pf_repr (sy := true) rfl hgd hu (fun _ => hsy) rfl T.b_repr (by exact (pf_xf 0 hpin rfl (Or.inl rfl) (hfl "lot"))))) pfa_nil)))))))) pfss_nil))
  (pfss_cons (by exact (pfs_if (by exact (pft_tru rfl (by exact (pf_xis 0 (cv := .ref (G.ca 6)) hpin rfl T.b_isinstance rfl (Or.inl rfl) (pe_glob (v := .ref (G.ca 6)) rfl T.g_BadName rfl) (fun _ h => h) (fun c r h => T.errs.isE h))))) (pfss_one (by exact (pfs_append 1 rfl (Or.inl rfl) (by exact (pf_tup (pfa_cons pf_str (pfa_cons (by exact (pf_repr (sy := true) rfl hgd hu (fun _ => hsy) rfl T.b_repr (by exact (pf_xf 0 hpin rfl (Or.inl rfl) (hfl "name"))))) pfa_nil))))))) pfss_nil))
  (pfss_cons (by exact (pfs_if (by exact (pft_tru rfl (by exact (pf_xis 0 (cv := .ref (G.ca 7)) hpin rfl T.b_isinstance rfl (Or.inl rfl) (pe_glob (v := .ref (G.ca 7)) rfl T.g_BadText rfl) (fun _ h => h) (fun c r h => T.errs.isE h))))) (pfss_one (by exact (pfs_append 1 rfl (Or.inl rfl) (by exact (pf_tup (pfa_cons pf_str (pfa_cons (by exact (pf_xf 0 hpin rfl (Or.inl rfl) (hfl "line"))) (pfa_cons (by exact (pf_xf 0 hpin rfl (Or.inl rfl) (hfl "word"))) pfa_nil)))))))) pfss_nil))
  (pfss_cons (by exact (pfs_if (by exact (pft_tru rfl (by exact (pf_xis 0 (cv := .ref (G.ca 8)) hpin rfl T.b_isinstance rfl (Or.inl rfl) (pe_glob (v := .ref (G.ca 8)) rfl T.g_NoPlace rfl) (fun _ h => h) (fun c r h => T.errs.isE h))))) (pfss_one (by exact (pfs_append 1 rfl (Or.inl rfl) (by exact (pf_tup (pfa_cons pf_str (pfa_cons (by exact (pf_xf 0 hpin rfl (Or.inl rfl) (hfl "what"))) (pfa_cons (by exact (pf_repr (sy := true) rfl hgd hu (fun _ => hsy) rfl T.b_repr (by exact (pf_xf 0 hpin rfl (Or.inl rfl) (hfl "place"))))) pfa_nil)))))))) pfss_nil))
  (pfss_one (by exact (pfs_return (by exact (pf_op (od_add rfl) (pf_bor 1 rfl (Or.inl rfl)) (by exact (pf_callX 0 c_u_law_more_kinds rfl hpin (hrx.mono (by decide)) rfl T.f_u_law_more_kinds.gl T.f_u_law_more_kinds.kp T.f_u_law_more_kinds.bi rfl (Or.inl rfl)))))))))))))))))
def r_u_law_field : RS :=
  (sSeq (sSet 1 (rCall F_u_law_draw 2 (raCons (rVar 0) (raCons (rC (.int 8)) raNil))))
  (sSeq (sIf (rTruB (rOp opEq (rVar 1) (rC (.int 0)))) (sRet (rLst (raCons (rCall F_u_law_draw 2 (raCons (rVar 0) (raCons (rC (.int 100)) raNil))) (raCons (rLst raNil) raNil)))) sNext)
  (sSeq (sIf (rTruB (rOp opEq (rVar 1) (rC (.int 1)))) (sRet (rTup (raCons (rC (.str "a")) (raCons (rTup (raCons (rCall F_u_law_draw 2 (raCons (rVar 0) (raCons (rOp opPow (rC (.int 10)) (rC (.int 6))) raNil))) raNil)) raNil)))) sNext)
  (sRet (rCall F_u_law_pick 2 (raCons (rVar 0) (raCons (rLst (raCons (rC .non) (raCons (rC (.bl true)) (raCons (rC (.bl false)) (raCons (rC (.int 0)) (raCons (rNeg (rC (.int 1))) (raCons (rC (.str "x")) (raCons (rC (.str "")) (raCons (rOp opPow (rC (.int 10)) (rC (.int 40))) (raCons (rDct [.inr "k"] (raCons (rC (.int 1)) raNil)) raNil)))))))))) raNil)))))))
def F_u_law_field : List PV → M PV := runF 2 r_u_law_field
theorem sc_u_law_field : FnScope ["pen", "way"] ["pen"] (defScope s_u_law_field) := ⟨rfl, rfl, rfl, by decide +kernel, rfl, by decide +kernel, by decide +kernel⟩
theorem ok_u_law_field (T : Txt P w G mg base fA fD) : FnF G P w mg base 3 (fA 5) (fD 5) ["pen"] F_u_law_field :=
  fnF_of (N := ["pen", "way"]) T.f_u_law_field.fn sc_u_law_field fun cdv A outer s H E hr hgd0 => by
    have hgd : (A.deeper (envOfC "_law_field" (defScope s_u_law_field) s.heap.objs.size (fA 5) cdv)).guards = some [] := hgd0
    have tk : Takes (cxOf (L2.CX P w) P w G.K mg base ["pen", "way"] "_law_field" (defScope s_u_law_field) (fA 5) cdv A outer s H E) (fun cls d _ H' => E cls d H') := takes_of rfl rfl rfl rfl
    have ho : PassesOwn (model P w) (A.deeper (envOfC "_law_field" (defScope s_u_law_field) s.heap.objs.size (fA 5) cdv)) (envOfC "_law_field" (defScope s_u_law_field) s.heap.objs.size (fA 5) cdv) (cxOf (L2.CX P w) P w G.K mg base ["pen", "way"] "_law_field" (defScope s_u_law_field) (fA 5) cdv A outer s H E).xe := PassesOwn.leaving
    have hu : _ + 64 < cLine := (by have := hr.un; omega : (A.deeper (envOfC "_law_field" (defScope s_u_law_field) s.heap.objs.size (fA 5) cdv)).units + 64 < cLine)
    have hu1 : _ + 1 < cLine := (by have := hr.un; omega : (A.deeper (envOfC "_law_field" (defScope s_u_law_field) s.heap.objs.size (fA 5) cdv)).units + 1 < cLine)
    have hsy : NoSys (cxOf (L2.CX P w) P w G.K mg base ["pen", "way"] "_law_field" (defScope s_u_law_field) (fA 5) cdv A outer s H E) := T.sys
    exact (pfss_cons (by exact (pfs_set 1 sc_u_law_field.nd rfl (Or.inl rfl) (by exact (pf_call (ok_u_law_draw T) rfl (hr.mono (by decide)) hgd rfl T.f_u_law_draw.gl T.f_u_law_draw.kp T.f_u_law_draw.bi tk (pfa_cons (pf_var 0 rfl (Or.inl rfl)) (pfa_cons pf_int pfa_nil))))))
  (pfss_cons (by exact (pfs_if (by exact (pft_cmp (od_eq rfl hu) (pf_var 1 rfl (Or.inl rfl)) pf_int)) (pfss_one (by exact (pfs_return (by exact (pf_lst (pfa_cons (by exact (pf_call (ok_u_law_draw T) rfl (hr.mono (by decide)) hgd rfl T.f_u_law_draw.gl T.f_u_law_draw.kp T.f_u_law_draw.bi tk (pfa_cons (pf_var 0 rfl (Or.inl rfl)) (pfa_cons pf_int pfa_nil)))) (pfa_cons (by exact (pf_lst pfa_nil)) pfa_nil))))))) pfss_nil))
  (pfss_cons (by exact (pfs_if (by exact (pft_cmp (od_eq rfl hu) (pf_var 1 rfl (Or.inl rfl)) pf_int)) (pfss_one (by exact (pfs_return (by exact (pf_tup (pfa_cons pf_str (pfa_cons (by exact (pf_tup (pfa_cons (by exact (pf_call (ok_u_law_draw T) rfl (hr.mono (by decide)) hgd rfl T.f_u_law_draw.gl T.f_u_law_draw.kp T.f_u_law_draw.bi tk (pfa_cons (pf_var 0 rfl (Or.inl rfl)) (pfa_cons (by exact (pf_op od_pow pf_int pf_int)) pfa_nil)))) pfa_nil))) pfa_nil))))))) pfss_nil))
  (pfss_one (by exact (pfs_return (by exact (pf_call (ok_u_law_pick T) rfl (hr.mono (by decide)) hgd rfl T.f_u_law_pick.gl T.f_u_law_pick.kp T.f_u_law_pick.bi tk (pfa_cons (pf_var 0 rfl (Or.inl rfl)) (pfa_cons (by exact (pf_lst (pfa_cons pf_non (pfa_cons pf_bl (pfa_cons pf_bl (pfa_cons pf_int (pfa_cons (by exact (pf_neg pf_int)) (pfa_cons pf_str (pfa_cons pf_str (pfa_cons (by exact (pf_op od_pow pf_int pf_int)) (pfa_cons (by exact (pf_dct (pfp_cons key_str pf_int pfp_nil))) pfa_nil))))))))))) pfa_nil))))))))))
def r_u_law_raised : RS :=
  (sSeq (sIf (rTruB (rOp opEq (rVar 0) (rC (.int 0)))) (sRaise 1 ["what", "number"] (raCons (rVar 1) (raCons (rVar 2) raNil))) sNext)
  (sSeq (sIf (rTruB (rOp opEq (rVar 0) (rC (.int 1)))) (sRaise 2 ["what", "row"] (raCons (rVar 1) (raCons (rVar 2) raNil))) sNext)
  (sSeq (sIf (rTruB (rOp opEq (rVar 0) (rC (.int 2)))) (sRaise 3 ["what"] (raCons (rVar 1) raNil)) sNext)
  (sSeq (sIf (rTruB (rOp opEq (rVar 0) (rC (.int 3)))) (sRaise 4 ["what"] (raCons (rVar 1) raNil)) sNext)
  (sSeq (sIf (rTruB (rOp opEq (rVar 0) (rC (.int 4)))) (sRaise 5 ["what", "lot"] (raCons (rVar 1) (raCons (rVar 2) raNil))) sNext)
  (sSeq (sIf (rTruB (rOp opEq (rVar 0) (rC (.int 5)))) (sRaise 6 ["name"] (raCons (rVar 1) raNil)) sNext)
  (sSeq (sIf (rTruB (rOp opEq (rVar 0) (rC (.int 6)))) (sRaise 7 ["line", "word"] (raCons (rVar 1) (raCons (rVar 2) raNil))) sNext)
  (sIf (rTruB (rOp opEq (rVar 0) (rC (.int 7)))) (sRaise 8 ["what", "place"] (raCons (rVar 1) (raCons (rVar 2) raNil))) sNext))))))))
def F_u_law_raised : List PV → M PV := runF 3 r_u_law_raised
theorem sc_u_law_raised : FnScope ["kind", "one", "two"] ["kind", "one", "two"] (defScope s_u_law_raised) := ⟨rfl, rfl, rfl, by decide +kernel, rfl, by decide +kernel, by decide +kernel⟩
theorem ok_u_law_raised (T : Txt P w G mg base fA fD) : FnF G P w mg base 3 (fA 6) (fD 6) ["kind", "one", "two"] F_u_law_raised :=
  fnF_of (N := ["kind", "one", "two"]) T.f_u_law_raised.fn sc_u_law_raised fun cdv A outer s H E hr hgd0 => by
    have hgd : (A.deeper (envOfC "_law_raised" (defScope s_u_law_raised) s.heap.objs.size (fA 6) cdv)).guards = some [] := hgd0
    have tk : Takes (cxOf (L2.CX P w) P w G.K mg base ["kind", "one", "two"] "_law_raised" (defScope s_u_law_raised) (fA 6) cdv A outer s H E) (fun cls d _ H' => E cls d H') := takes_of rfl rfl rfl rfl
    have ho : PassesOwn (model P w) (A.deeper (envOfC "_law_raised" (defScope s_u_law_raised) s.heap.objs.size (fA 6) cdv)) (envOfC "_law_raised" (defScope s_u_law_raised) s.heap.objs.size (fA 6) cdv) (cxOf (L2.CX P w) P w G.K mg base ["kind", "one", "two"] "_law_raised" (defScope s_u_law_raised) (fA 6) cdv A outer s H E).xe := PassesOwn.leaving
    have hu : _ + 64 < cLine := (by have := hr.un; omega : (A.deeper (envOfC "_law_raised" (defScope s_u_law_raised) s.heap.objs.size (fA 6) cdv)).units + 64 < cLine)
    have hu1 : _ + 1 < cLine := (by have := hr.un; omega : (A.deeper (envOfC "_law_raised" (defScope s_u_law_raised) s.heap.objs.size (fA 6) cdv)).units + 1 < cLine)
    have hsy : NoSys (cxOf (L2.CX P w) P w G.K mg base ["kind", "one", "two"] "_law_raised" (defScope s_u_law_raised) (fA 6) cdv A outer s H E) := T.sys
    exact (pfss_cons (by exact (pfs_if (by exact (pft_cmp (od_eq rfl hu) (pf_var 0 rfl (Or.inl rfl)) pf_int)) (pfss_one (by exact (pfs_raise rfl tk (T.m_BadNumber.oex (T.errs.f 1 (by decide))) T.m_BadNumber.ini T.m_BadNumber.tI (ini_BadNumber T.m_BadNumber (T.errs.f 1 (by decide))) (hr.mono (by decide)) T.m_BadNumber.bi rfl T.m_BadNumber.gl (pfa_cons (pf_var 1 rfl (Or.inl rfl)) (pfa_cons (pf_var 2 rfl (Or.inl rfl)) pfa_nil))))) pfss_nil))
  (pfss_cons (by exact (pfs_if (by exact (pft_cmp (od_eq rfl hu) (pf_var 0 rfl (Or.inl rfl)) pf_int)) (pfss_one (by exact (pfs_raise rfl tk (T.m_BadRow.oex (T.errs.f 2 (by decide))) T.m_BadRow.ini T.m_BadRow.tI (ini_BadRow T.m_BadRow (T.errs.f 2 (by decide))) (hr.mono (by decide)) T.m_BadRow.bi rfl T.m_BadRow.gl (pfa_cons (pf_var 1 rfl (Or.inl rfl)) (pfa_cons (pf_var 2 rfl (Or.inl rfl)) pfa_nil))))) pfss_nil))
  (pfss_cons (by exact (pfs_if (by exact (pft_cmp (od_eq rfl hu) (pf_var 0 rfl (Or.inl rfl)) pf_int)) (pfss_one (by exact (pfs_raise rfl tk (T.m_BadTable.oex (T.errs.f 3 (by decide))) T.m_BadTable.ini T.m_BadTable.tI (ini_BadTable T.m_BadTable (T.errs.f 3 (by decide))) (hr.mono (by decide)) T.m_BadTable.bi rfl T.m_BadTable.gl (pfa_cons (pf_var 1 rfl (Or.inl rfl)) pfa_nil)))) pfss_nil))
  (pfss_cons (by exact (pfs_if (by exact (pft_cmp (od_eq rfl hu) (pf_var 0 rfl (Or.inl rfl)) pf_int)) (pfss_one (by exact (pfs_raise rfl tk (T.m_BadPoly.oex (T.errs.f 4 (by decide))) T.m_BadPoly.ini T.m_BadPoly.tI (ini_BadPoly T.m_BadPoly (T.errs.f 4 (by decide))) (hr.mono (by decide)) T.m_BadPoly.bi rfl T.m_BadPoly.gl (pfa_cons (pf_var 1 rfl (Or.inl rfl)) pfa_nil)))) pfss_nil))
  (pfss_cons (by exact (pfs_if (by exact (pft_cmp (od_eq rfl hu) (pf_var 0 rfl (Or.inl rfl)) pf_int)) (pfss_one (by exact (pfs_raise rfl tk (T.m_BadLot.oex (T.errs.f 5 (by decide))) T.m_BadLot.ini T.m_BadLot.tI (ini_BadLot T.m_BadLot (T.errs.f 5 (by decide))) (hr.mono (by decide)) T.m_BadLot.bi rfl T.m_BadLot.gl (pfa_cons (pf_var 1 rfl (Or.inl rfl)) (pfa_cons (pf_var 2 rfl (Or.inl rfl)) pfa_nil))))) pfss_nil))
  (pfss_cons (by exact (pfs_if (by exact (pft_cmp (od_eq rfl hu) (pf_var 0 rfl (Or.inl rfl)) pf_int)) (pfss_one (by exact (pfs_raise rfl tk (T.m_BadName.oex (T.errs.f 6 (by decide))) T.m_BadName.ini T.m_BadName.tI (ini_BadName T.m_BadName (T.errs.f 6 (by decide))) (hr.mono (by decide)) T.m_BadName.bi rfl T.m_BadName.gl (pfa_cons (pf_var 1 rfl (Or.inl rfl)) pfa_nil)))) pfss_nil))
  (pfss_cons (by exact (pfs_if (by exact (pft_cmp (od_eq rfl hu) (pf_var 0 rfl (Or.inl rfl)) pf_int)) (pfss_one (by exact (pfs_raise rfl tk (T.m_BadText.oex (T.errs.f 7 (by decide))) T.m_BadText.ini T.m_BadText.tI (ini_BadText T.m_BadText (T.errs.f 7 (by decide))) (hr.mono (by decide)) T.m_BadText.bi rfl T.m_BadText.gl (pfa_cons (pf_var 1 rfl (Or.inl rfl)) (pfa_cons (pf_var 2 rfl (Or.inl rfl)) pfa_nil))))) pfss_nil))
  (pfss_one (by exact (pfs_if (by exact (pft_cmp (od_eq rfl hu) (pf_var 0 rfl (Or.inl rfl)) pf_int)) (pfss_one (by exact (pfs_raise rfl tk (T.m_NoPlace.oex (T.errs.f 8 (by decide))) T.m_NoPlace.ini T.m_NoPlace.tI (ini_NoPlace T.m_NoPlace (T.errs.f 8 (by decide))) (hr.mono (by decide)) T.m_NoPlace.bi rfl T.m_NoPlace.gl (pfa_cons (pf_var 1 rfl (Or.inl rfl)) (pfa_cons (pf_var 2 rfl (Or.inl rfl)) pfa_nil))))) pfss_nil))))))))))
def r_u_law_raised_too : RS :=
  (sSeq (sIf (rTruB (rOp opEq (rVar 0) (rC (.int 8)))) (sRaise 9 ["name"] (raCons (rVar 1) raNil)) sNext)
  (sSeq (sIf (rTruB (rOp opEq (rVar 0) (rC (.int 9)))) (sRaise 10 ["name"] (raCons (rVar 1) raNil)) sNext)
  (sSeq (sIf (rTruB (rOp opEq (rVar 0) (rC (.int 10)))) (sRaise 11 ["what"] (raCons (rVar 1) raNil)) sNext)
  (sSeq (sIf (rTruB (rOp opEq (rVar 0) (rC (.int 11)))) (sRaise 12 ["row"] (raCons (rVar 1) raNil)) sNext)
  (sSeq (sIf (rTruB (rOp opEq (rVar 0) (rC (.int 12)))) (sRaise 13 ["what", "many", "limit"] (raCons (rVar 1) (raCons (rVar 2) (raCons (rVar 3) raNil)))) sNext)
  (sSeq (sIf (rTruB (rOp opEq (rVar 0) (rC (.int 13)))) (sRaise 14 ["promise", "witness"] (raCons (rVar 1) (raCons (rVar 2) raNil))) sNext)
  (sSeq (sIf (rTruB (rOp opEq (rVar 0) (rC (.int 14)))) (sRaise0 15) sNext)
  (sIf (rTruB (rOp opEq (rVar 0) (rC (.int 15)))) (sRaise0 16) sNext))))))))
def F_u_law_raised_too : List PV → M PV := runF 4 r_u_law_raised_too
theorem sc_u_law_raised_too : FnScope ["kind", "one", "two", "three"] ["kind", "one", "two", "three"] (defScope s_u_law_raised_too) := ⟨rfl, rfl, rfl, by decide +kernel, rfl, by decide +kernel, by decide +kernel⟩
theorem ok_u_law_raised_too (T : Txt P w G mg base fA fD) : FnF G P w mg base 3 (fA 7) (fD 7) ["kind", "one", "two", "three"] F_u_law_raised_too :=
  fnF_of (N := ["kind", "one", "two", "three"]) T.f_u_law_raised_too.fn sc_u_law_raised_too fun cdv A outer s H E hr hgd0 => by
    have hgd : (A.deeper (envOfC "_law_raised_too" (defScope s_u_law_raised_too) s.heap.objs.size (fA 7) cdv)).guards = some [] := hgd0
    have tk : Takes (cxOf (L2.CX P w) P w G.K mg base ["kind", "one", "two", "three"] "_law_raised_too" (defScope s_u_law_raised_too) (fA 7) cdv A outer s H E) (fun cls d _ H' => E cls d H') := takes_of rfl rfl rfl rfl
    have ho : PassesOwn (model P w) (A.deeper (envOfC "_law_raised_too" (defScope s_u_law_raised_too) s.heap.objs.size (fA 7) cdv)) (envOfC "_law_raised_too" (defScope s_u_law_raised_too) s.heap.objs.size (fA 7) cdv) (cxOf (L2.CX P w) P w G.K mg base ["kind", "one", "two", "three"] "_law_raised_too" (defScope s_u_law_raised_too) (fA 7) cdv A outer s H E).xe := PassesOwn.leaving
    have hu : _ + 64 < cLine := (by have := hr.un; omega : (A.deeper (envOfC "_law_raised_too" (defScope s_u_law_raised_too) s.heap.objs.size (fA 7) cdv)).units + 64 < cLine)
    have hu1 : _ + 1 < cLine := (by have := hr.un; omega : (A.deeper (envOfC "_law_raised_too" (defScope s_u_law_raised_too) s.heap.objs.size (fA 7) cdv)).units + 1 < cLine)
    have hsy : NoSys (cxOf (L2.CX P w) P w G.K mg base ["kind", "one", "two", "three"] "_law_raised_too" (defScope s_u_law_raised_too) (fA 7) cdv A outer s H E) := T.sys
    exact (pfss_cons (by exact (pfs_if (by exact (pft_cmp (od_eq rfl hu) (pf_var 0 rfl (Or.inl rfl)) pf_int)) (pfss_one (by exact (pfs_raise rfl tk (T.m_NoName.oex (T.errs.f 9 (by decide))) T.m_NoName.ini T.m_NoName.tI (ini_NoName T.m_NoName (T.errs.f 9 (by decide))) (hr.mono (by decide)) T.m_NoName.bi rfl T.m_NoName.gl (pfa_cons (pf_var 1 rfl (Or.inl rfl)) pfa_nil)))) pfss_nil))
  (pfss_cons (by exact (pfs_if (by exact (pft_cmp (od_eq rfl hu) (pf_var 0 rfl (Or.inl rfl)) pf_int)) (pfss_one (by exact (pfs_raise rfl tk (T.m_TakenName.oex (T.errs.f 10 (by decide))) T.m_TakenName.ini T.m_TakenName.tI (ini_TakenName T.m_TakenName (T.errs.f 10 (by decide))) (hr.mono (by decide)) T.m_TakenName.bi rfl T.m_TakenName.gl (pfa_cons (pf_var 1 rfl (Or.inl rfl)) pfa_nil)))) pfss_nil))
  (pfss_cons (by exact (pfs_if (by exact (pft_cmp (od_eq rfl hu) (pf_var 0 rfl (Or.inl rfl)) pf_int)) (pfss_one (by exact (pfs_raise rfl tk (T.m_Unlike.oex (T.errs.f 11 (by decide))) T.m_Unlike.ini T.m_Unlike.tI (ini_Unlike T.m_Unlike (T.errs.f 11 (by decide))) (hr.mono (by decide)) T.m_Unlike.bi rfl T.m_Unlike.gl (pfa_cons (pf_var 1 rfl (Or.inl rfl)) pfa_nil)))) pfss_nil))
  (pfss_cons (by exact (pfs_if (by exact (pft_cmp (od_eq rfl hu) (pf_var 0 rfl (Or.inl rfl)) pf_int)) (pfss_one (by exact (pfs_raise rfl tk (T.m_NotBetween.oex (T.errs.f 12 (by decide))) T.m_NotBetween.ini T.m_NotBetween.tI (ini_NotBetween T.m_NotBetween (T.errs.f 12 (by decide))) (hr.mono (by decide)) T.m_NotBetween.bi rfl T.m_NotBetween.gl (pfa_cons (pf_var 1 rfl (Or.inl rfl)) pfa_nil)))) pfss_nil))
  (pfss_cons (by exact (pfs_if (by exact (pft_cmp (od_eq rfl hu) (pf_var 0 rfl (Or.inl rfl)) pf_int)) (pfss_one (by exact (pfs_raise rfl tk (T.m_TooMany.oex (T.errs.f 13 (by decide))) T.m_TooMany.ini T.m_TooMany.tI (ini_TooMany T.m_TooMany (T.errs.f 13 (by decide))) (hr.mono (by decide)) T.m_TooMany.bi rfl T.m_TooMany.gl (pfa_cons (pf_var 1 rfl (Or.inl rfl)) (pfa_cons (pf_var 2 rfl (Or.inl rfl)) (pfa_cons (pf_var 3 rfl (Or.inl rfl)) pfa_nil)))))) pfss_nil))
  (pfss_cons (by exact (pfs_if (by exact (pft_cmp (od_eq rfl hu) (pf_var 0 rfl (Or.inl rfl)) pf_int)) (pfss_one (by exact (pfs_raise rfl tk (T.m_NotKept.oex (T.errs.f 14 (by decide))) T.m_NotKept.ini T.m_NotKept.tI (ini_NotKept T.m_NotKept (T.errs.f 14 (by decide))) (hr.mono (by decide)) T.m_NotKept.bi rfl T.m_NotKept.gl (pfa_cons (pf_var 1 rfl (Or.inl rfl)) (pfa_cons (pf_var 2 rfl (Or.inl rfl)) pfa_nil))))) pfss_nil))
  (pfss_cons (by exact (pfs_if (by exact (pft_cmp (od_eq rfl hu) (pf_var 0 rfl (Or.inl rfl)) pf_int)) (pfss_one (by exact (pfs_raise0 rfl tk PySem.F.excBase_ValueError T.n_NothingToUndo.q T.n_NothingToUndo.gl (T.errs.f 15 (by decide)).kp (T.errs.f 15 (by decide)).sb (T.errs.f 15 (by decide)).ty rfl))) pfss_nil))
  (pfss_one (by exact (pfs_if (by exact (pft_cmp (od_eq rfl hu) (pf_var 0 rfl (Or.inl rfl)) pf_int)) (pfss_one (by exact (pfs_raise0 rfl tk PySem.F.excBase_ValueError T.n_NothingToRedo.q T.n_NothingToRedo.gl (T.errs.f 16 (by decide)).kp (T.errs.f 16 (by decide)).sb (T.errs.f 16 (by decide)).ty rfl))) pfss_nil))))))))))
def r_u_law_told : RS :=
  (sSeq (sSet 4 (rC .non))
  (sSeq (sTry (isE 17 0) 5 (sSeq (sExpr (rCall F_u_law_raised 3 (raCons (rVar 0) (raCons (rVar 1) (raCons (rVar 2) raNil)))))
  (sExpr (rCall F_u_law_raised_too 4 (raCons (rVar 0) (raCons (rVar 1) (raCons (rVar 2) (raCons (rVar 3) raNil))))))) (sIf (rTru (rXIs 5 (isV 17))) (sSet 4 (rCallX F_u_law_kinds 5)) sNext))
  (sRet (rVar 4))))
def F_u_law_told : List PV → M PV := runF 6 r_u_law_told
theorem sc_u_law_told : FnScope ["kind", "one", "two", "three", "found", "e"] ["kind", "one", "two", "three"] (defScope s_u_law_told) := ⟨rfl, rfl, rfl, by decide +kernel, rfl, by decide +kernel, by decide +kernel⟩
theorem ok_u_law_told (T : Txt P w G mg base fA fD) : FnF G P w mg base 4 (fA 8) (fD 8) ["kind", "one", "two", "three"] F_u_law_told :=
  fnF_of (N := ["kind", "one", "two", "three", "found", "e"]) T.f_u_law_told.fn sc_u_law_told fun cdv A outer s H E hr hgd0 => by
    have hgd : (A.deeper (envOfC "_law_told" (defScope s_u_law_told) s.heap.objs.size (fA 8) cdv)).guards = some [] := hgd0
    have tk : Takes (cxOf (L2.CX P w) P w G.K mg base ["kind", "one", "two", "three", "found", "e"] "_law_told" (defScope s_u_law_told) (fA 8) cdv A outer s H E) (fun cls d _ H' => E cls d H') := takes_of rfl rfl rfl rfl
    have ho : PassesOwn (model P w) (A.deeper (envOfC "_law_told" (defScope s_u_law_told) s.heap.objs.size (fA 8) cdv)) (envOfC "_law_told" (defScope s_u_law_told) s.heap.objs.size (fA 8) cdv) (cxOf (L2.CX P w) P w G.K mg base ["kind", "one", "two", "three", "found", "e"] "_law_told" (defScope s_u_law_told) (fA 8) cdv A outer s H E).xe := PassesOwn.leaving
    have hu : _ + 64 < cLine := (by have := hr.un; omega : (A.deeper (envOfC "_law_told" (defScope s_u_law_told) s.heap.objs.size (fA 8) cdv)).units + 64 < cLine)
    have hu1 : _ + 1 < cLine := (by have := hr.un; omega : (A.deeper (envOfC "_law_told" (defScope s_u_law_told) s.heap.objs.size (fA 8) cdv)).units + 1 < cLine)
    have hsy : NoSys (cxOf (L2.CX P w) P w G.K mg base ["kind", "one", "two", "three", "found", "e"] "_law_told" (defScope s_u_law_told) (fA 8) cdv A outer s H E) := T.sys
    have c_u_law_kinds := ok_u_law_kinds T
    exact (pfss_cons (by exact (pfs_set 4 sc_u_law_told.nd rfl (Or.inl rfl) pf_non))
  (pfss_cons (by exact (pfs_try (i := 5) T.px rfl rfl sc_u_law_told.nd rfl rfl ⟨rfl, by decide, .inl T.g_RootsError⟩ tk (fun c b h => T.errs.exm c b h)
    (fun W2 pn2 xe2 tk2 ho2 => (pfss_cons (by exact (pfs_expr (b := false) (by exact (pf_call (ok_u_law_raised T) rfl (hr.mono (by decide)) hgd rfl T.f_u_law_raised.gl T.f_u_law_raised.kp T.f_u_law_raised.bi tk2 (pfa_cons (pf_var 0 rfl (Or.inl rfl)) (pfa_cons (pf_var 1 rfl (Or.inl rfl)) (pfa_cons (pf_var 2 rfl (Or.inl rfl)) pfa_nil)))))))
  (pfss_one (by exact (pfs_expr (b := false) (by exact (pf_call (ok_u_law_raised_too T) rfl (hr.mono (by decide)) hgd rfl T.f_u_law_raised_too.gl T.f_u_law_raised_too.kp T.f_u_law_raised_too.bi tk2 (pfa_cons (pf_var 0 rfl (Or.inl rfl)) (pfa_cons (pf_var 1 rfl (Or.inl rfl)) (pfa_cons (pf_var 2 rfl (Or.inl rfl)) (pfa_cons (pf_var 3 rfl (Or.inl rfl)) pfa_nil)))))))))))
    (fun a2 oe2 pn2 hf2 => have hpin2 : Pinned (G.at (a2, oe2)) (Cx.suite _ a2 ((a2, oe2) :: pn2)) := (fun y e => by cases e; exact ⟨List.mem_cons_self, hf2⟩); have hrx : RoomX _ _ := (RoomX.mark hr hgd (some (.ref a2))); (pfss_one (by exact (pfs_if (by exact (pft_tru rfl (by exact (pf_xis 5 (cv := .ty "ValueError") hpin2 rfl T.b_isinstance rfl (Or.inl rfl) (pe_bltn (v := .ty "ValueError") rfl T.b_ValueError (by decide +kernel) rfl) (fun _ h => h) (fun c r h => T.errs.isV h))))) (pfss_one (by exact (pfs_set 4 sc_u_law_told.nd rfl (Or.inl rfl) (by exact (pf_callX 5 c_u_law_kinds rfl hpin2 (hrx.mono (by decide)) rfl T.f_u_law_kinds.gl T.f_u_law_kinds.kp T.f_u_law_kinds.bi rfl (Or.inl rfl)))))) pfss_nil))))))
  (pfss_one (by exact (pfs_return (pf_var 4 rfl (Or.inl rfl)))))))
def r_u_law_due : RS :=
  (sSeq (sSet 4 (rLst (raCons (rC (.str "number")) (raCons (rC (.str "row")) (raCons (rC (.str "table")) (raCons (rC (.str "poly")) (raCons (rC (.str "lot")) (raCons (rC (.str "badname")) (raCons (rC (.str "text")) (raCons (rC (.str "place")) (raCons (rC (.str "noname")) (raCons (rC (.str "taken")) (raCons (rC (.str "unlike")) (raCons (rC (.str "notbetween")) raNil))))))))))))))
  (sSeq (sSet 4 (rOp opAdd (rVar 4) (rLst (raCons (rC (.str "many")) (raCons (rC (.str "kept")) (raCons (rC (.str "undo")) (raCons (rC (.str "redo")) raNil)))))))
  (sSeq (sIf (rTruB (rOp (opIn false) (rVar 0) (rTup (raCons (rC (.int 0)) (raCons (rC (.int 1)) (raCons (rC (.int 4)) (raCons (rC (.int 7)) raNil))))))) (sRet (rTup (raCons (rIx (rVar 4) (rVar 0)) (raCons (rVar 1) (raCons (rRepr true (rVar 2)) raNil))))) sNext)
  (sSeq (sIf (rTruB (rOp (opIn false) (rVar 0) (rTup (raCons (rC (.int 2)) (raCons (rC (.int 3)) (raCons (rC (.int 10)) (raCons (rC (.int 11)) raNil))))))) (sRet (rTup (raCons (rIx (rVar 4) (rVar 0)) (raCons (rVar 1) raNil)))) sNext)
  (sSeq (sIf (rTruB (rOp (opIn false) (rVar 0) (rTup (raCons (rC (.int 5)) (raCons (rC (.int 8)) (raCons (rC (.int 9)) raNil)))))) (sRet (rTup (raCons (rIx (rVar 4) (rVar 0)) (raCons (rRepr true (rVar 1)) raNil)))) sNext)
  (sSeq (sIf (rTruB (rOp (opIn false) (rVar 0) (rTup (raCons (rC (.int 6)) (raCons (rC (.int 13)) raNil))))) (sRet (rTup (raCons (rIx (rVar 4) (rVar 0)) (raCons (rVar 1) (raCons (rVar 2) raNil))))) sNext)
  (sRet (rIfE (rTruB (rOp opEq (rVar 0) (rC (.int 12)))) (rTup (raCons (rIx (rVar 4) (rVar 0)) (raCons (rVar 1) (raCons (rVar 2) (raCons (rVar 3) raNil))))) (rTup (raCons (rIx (rVar 4) (rVar 0)) raNil))))))))))
def F_u_law_due : List PV → M PV := runF 5 r_u_law_due
theorem sc_u_law_due : FnScope ["kind", "one", "two", "three", "words"] ["kind", "one", "two", "three"] (defScope s_u_law_due) := ⟨rfl, rfl, rfl, by decide +kernel, rfl, by decide +kernel, by decide +kernel⟩
theorem ok_u_law_due (T : Txt P w G mg base fA fD) : FnF G P w mg base 1 (fA 9) (fD 9) ["kind", "one", "two", "three"] F_u_law_due :=
  fnF_of (N := ["kind", "one", "two", "three", "words"]) T.f_u_law_due.fn sc_u_law_due fun cdv A outer s H E hr hgd0 => by
    have hgd : (A.deeper (envOfC "_law_due" (defScope s_u_law_due) s.heap.objs.size (fA 9) cdv)).guards = some [] := hgd0
    have tk : Takes (cxOf (L2.CX P w) P w G.K mg base ["kind", "one", "two", "three", "words"] "_law_due" (defScope s_u_law_due) (fA 9) cdv A outer s H E) (fun cls d _ H' => E cls d H') := takes_of rfl rfl rfl rfl
    have ho : PassesOwn (model P w) (A.deeper (envOfC "_law_due" (defScope s_u_law_due) s.heap.objs.size (fA 9) cdv)) (envOfC "_law_due" (defScope s_u_law_due) s.heap.objs.size (fA 9) cdv) (cxOf (L2.CX P w) P w G.K mg base ["kind", "one", "two", "three", "words"] "_law_due" (defScope s_u_law_due) (fA 9) cdv A outer s H E).xe := PassesOwn.leaving
    have hu : _ + 64 < cLine := (by have := hr.un; omega : (A.deeper (envOfC "_law_due" (defScope s_u_law_due) s.heap.objs.size (fA 9) cdv)).units + 64 < cLine)
    have hu1 : _ + 1 < cLine := (by have := hr.un; omega : (A.deeper (envOfC "_law_due" (defScope s_u_law_due) s.heap.objs.size (fA 9) cdv)).units + 1 < cLine)
    have hsy : NoSys (cxOf (L2.CX P w) P w G.K mg base ["kind", "one", "two", "three", "words"] "_law_due" (defScope s_u_law_due) (fA 9) cdv A outer s H E) := T.sys
    exact (pfss_cons (by exact (pfs_set 4 sc_u_law_due.nd rfl (Or.inl rfl) (by exact (pf_lst (pfa_cons pf_str (pfa_cons pf_str (pfa_cons pf_str (pfa_cons pf_str (pfa_cons pf_str (pfa_cons pf_str (pfa_cons pf_str (pfa_cons pf_str (pfa_cons pf_str (pfa_cons pf_str (pfa_cons pf_str (pfa_cons pf_str pfa_nil))))))))))))))))
  (pfss_cons (by exact (pfs_set 4 sc_u_law_due.nd rfl (Or.inl rfl) (by exact (pf_op (od_add rfl) (pf_var 4 rfl (Or.inl rfl)) (by exact (pf_lst (pfa_cons pf_str (pfa_cons pf_str (pfa_cons pf_str (pfa_cons pf_str pfa_nil))))))))))
  (pfss_cons (by exact (pfs_if (by exact (pft_cmp (od_in rfl) (pf_var 0 rfl (Or.inl rfl)) (by exact (pf_tup (pfa_cons pf_int (pfa_cons pf_int (pfa_cons pf_int (pfa_cons pf_int pfa_nil)))))))) (pfss_one (by exact (pfs_return (by exact (pf_tup (pfa_cons (by exact (pf_ix rfl (pf_var 4 rfl (Or.inl rfl)) (pf_var 0 rfl (Or.inl rfl)))) (pfa_cons (pf_var 1 rfl (Or.inl rfl)) (pfa_cons (by exact (pf_repr (sy := true) rfl hgd hu (fun _ => hsy) rfl T.b_repr (pf_var 2 rfl (Or.inl rfl)))) pfa_nil)))))))) pfss_nil))
  (pfss_cons (by exact (pfs_if (by exact (pft_cmp (od_in rfl) (pf_var 0 rfl (Or.inl rfl)) (by exact (pf_tup (pfa_cons pf_int (pfa_cons pf_int (pfa_cons pf_int (pfa_cons pf_int pfa_nil)))))))) (pfss_one (by exact (pfs_return (by exact (pf_tup (pfa_cons (by exact (pf_ix rfl (pf_var 4 rfl (Or.inl rfl)) (pf_var 0 rfl (Or.inl rfl)))) (pfa_cons (pf_var 1 rfl (Or.inl rfl)) pfa_nil))))))) pfss_nil))
  (pfss_cons (by exact (pfs_if (by exact (pft_cmp (od_in rfl) (pf_var 0 rfl (Or.inl rfl)) (by exact (pf_tup (pfa_cons pf_int (pfa_cons pf_int (pfa_cons pf_int pfa_nil))))))) (pfss_one (by exact (pfs_return (by exact (pf_tup (pfa_cons (by exact (pf_ix rfl (pf_var 4 rfl (Or.inl rfl)) (pf_var 0 rfl (Or.inl rfl)))) (pfa_cons (by exact (pf_repr (sy := true) rfl hgd hu (fun _ => hsy) rfl T.b_repr (pf_var 1 rfl (Or.inl rfl)))) pfa_nil))))))) pfss_nil))
  (pfss_cons (by exact (pfs_if (by exact (pft_cmp (od_in rfl) (pf_var 0 rfl (Or.inl rfl)) (by exact (pf_tup (pfa_cons pf_int (pfa_cons pf_int pfa_nil)))))) (pfss_one (by exact (pfs_return (by exact (pf_tup (pfa_cons (by exact (pf_ix rfl (pf_var 4 rfl (Or.inl rfl)) (pf_var 0 rfl (Or.inl rfl)))) (pfa_cons (pf_var 1 rfl (Or.inl rfl)) (pfa_cons (pf_var 2 rfl (Or.inl rfl)) pfa_nil)))))))) pfss_nil))
  (pfss_one (by exact (pfs_return (by exact (pf_if (by exact (pft_cmp (od_eq rfl hu) (pf_var 0 rfl (Or.inl rfl)) pf_int)) (by exact (pf_tup (pfa_cons (by exact (pf_ix rfl (pf_var 4 rfl (Or.inl rfl)) (pf_var 0 rfl (Or.inl rfl)))) (pfa_cons (pf_var 1 rfl (Or.inl rfl)) (pfa_cons (pf_var 2 rfl (Or.inl rfl)) (pfa_cons (pf_var 3 rfl (Or.inl rfl)) pfa_nil)))))) (by exact (pf_tup (pfa_cons (by exact (pf_ix rfl (pf_var 4 rfl (Or.inl rfl)) (pf_var 0 rfl (Or.inl rfl)))) pfa_nil))))))))))))))
def r_law : RS :=
  (sSeq (sSet 1 (rCall F_u_law_pen 1 (raCons (rVar 0) raNil)))
  (sSeq (sFor (riRg1 (raCons (rC (.int 16)) raNil)) (gnm 2) (sSeq (sPar [3, 4, 5] (raCons (rCall F_u_law_field 1 (raCons (rVar 1) raNil)) (raCons (rCall F_u_law_field 1 (raCons (rVar 1) raNil)) (raCons (rCall F_u_law_field 1 (raCons (rVar 1) raNil)) raNil))))
  (sSeq (sSet 6 (rCall F_u_law_told 4 (raCons (rVar 2) (raCons (rVar 3) (raCons (rVar 4) (raCons (rVar 5) raNil))))))
  (sIf (rtOr (rTruB (rOp (opIs false) (rVar 6) (rC .non))) (rtOr (rTruB (rOp opNe (rLen (rVar 6)) (rC (.int 1)))) (rTruB (rOp opNe (rRepr true (rIx (rVar 6) (rC (.int 0)))) (rRepr true (rCall F_u_law_due 4 (raCons (rVar 2) (raCons (rVar 3) (raCons (rVar 4) (raCons (rVar 5) raNil)))))))))) (sRet (rC (.bl false))) sNext))))
  (sRet (rC (.bl true)))))
def F_law : List PV → M PV := runF 7 r_law
theorem sc_law : FnScope ["script", "pen", "kind", "one", "two", "three", "told"] ["script"] (defScope s_law) := ⟨rfl, rfl, rfl, by decide +kernel, rfl, by decide +kernel, by decide +kernel⟩
theorem ok_law (T : Txt P w G mg base fA fD) : FnF G P w mg base 5 (fA 10) (fD 10) ["script"] F_law :=
  fnF_of (N := ["script", "pen", "kind", "one", "two", "three", "told"]) T.f_law.fn sc_law fun cdv A outer s H E hr hgd0 => by
    have hgd : (A.deeper (envOfC "law" (defScope s_law) s.heap.objs.size (fA 10) cdv)).guards = some [] := hgd0
    have tk : Takes (cxOf (L2.CX P w) P w G.K mg base ["script", "pen", "kind", "one", "two", "three", "told"] "law" (defScope s_law) (fA 10) cdv A outer s H E) (fun cls d _ H' => E cls d H') := takes_of rfl rfl rfl rfl
    have ho : PassesOwn (model P w) (A.deeper (envOfC "law" (defScope s_law) s.heap.objs.size (fA 10) cdv)) (envOfC "law" (defScope s_law) s.heap.objs.size (fA 10) cdv) (cxOf (L2.CX P w) P w G.K mg base ["script", "pen", "kind", "one", "two", "three", "told"] "law" (defScope s_law) (fA 10) cdv A outer s H E).xe := PassesOwn.leaving
    have hu : _ + 64 < cLine := (by have := hr.un; omega : (A.deeper (envOfC "law" (defScope s_law) s.heap.objs.size (fA 10) cdv)).units + 64 < cLine)
    have hu1 : _ + 1 < cLine := (by have := hr.un; omega : (A.deeper (envOfC "law" (defScope s_law) s.heap.objs.size (fA 10) cdv)).units + 1 < cLine)
    have hsy : NoSys (cxOf (L2.CX P w) P w G.K mg base ["script", "pen", "kind", "one", "two", "three", "told"] "law" (defScope s_law) (fA 10) cdv A outer s H E) := T.sys
    exact (pfss_cons (by exact (pfs_set 1 sc_law.nd rfl (Or.inl rfl) (by exact (pf_call (ok_u_law_pen T) rfl (hr.mono (by decide)) hgd rfl T.f_u_law_pen.gl T.f_u_law_pen.kp T.f_u_law_pen.bi tk (pfa_cons (pf_var 0 rfl (Or.inl rfl)) pfa_nil)))))
  (pfss_cons (by exact (pfs_for ho rfl (pfi_range1 rfl T.b_range (pfa_cons pf_int pfa_nil)) (pfg_name 2 sc_law.nd rfl (Or.inl rfl)) (pfss_cons (by exact (pfs_par3 3 4 5 rfl sc_law.nd rfl rfl rfl (by decide) (by decide) (by decide) rfl rfl rfl (pfa_cons (by exact (pf_call (ok_u_law_field T) rfl (hr.mono (by decide)) hgd rfl T.f_u_law_field.gl T.f_u_law_field.kp T.f_u_law_field.bi tk (pfa_cons (pf_var 1 rfl (Or.inl rfl)) pfa_nil))) (pfa_cons (by exact (pf_call (ok_u_law_field T) rfl (hr.mono (by decide)) hgd rfl T.f_u_law_field.gl T.f_u_law_field.kp T.f_u_law_field.bi tk (pfa_cons (pf_var 1 rfl (Or.inl rfl)) pfa_nil))) (pfa_cons (by exact (pf_call (ok_u_law_field T) rfl (hr.mono (by decide)) hgd rfl T.f_u_law_field.gl T.f_u_law_field.kp T.f_u_law_field.bi tk (pfa_cons (pf_var 1 rfl (Or.inl rfl)) pfa_nil))) pfa_nil))) rfl))
  (pfss_cons (by exact (pfs_set 6 sc_law.nd rfl (Or.inl rfl) (by exact (pf_call (ok_u_law_told T) rfl (hr.mono (by decide)) hgd rfl T.f_u_law_told.gl T.f_u_law_told.kp T.f_u_law_told.bi tk (pfa_cons (pf_var 2 rfl (Or.inl rfl)) (pfa_cons (pf_var 3 rfl (Or.inl rfl)) (pfa_cons (pf_var 4 rfl (Or.inl rfl)) (pfa_cons (pf_var 5 rfl (Or.inl rfl)) pfa_nil))))))))
  (pfss_one (by exact (pfs_if (by exact (pft_w (pfw_or (by exact (pft_cmp od_is (pf_var 6 rfl (Or.inl rfl)) pf_non)) (pfw_or (by exact (pft_cmp (od_ne rfl hu) (by exact (pf_len rfl rfl T.b_len (pf_var 6 rfl (Or.inl rfl)))) pf_int)) (pfw_or1 (by exact (pft_cmp (od_ne rfl hu) (by exact (pf_repr (sy := true) rfl hgd hu (fun _ => hsy) rfl T.b_repr (by exact (pf_ix rfl (pf_var 6 rfl (Or.inl rfl)) pf_int)))) (by exact (pf_repr (sy := true) rfl hgd hu (fun _ => hsy) rfl T.b_repr (by exact (pf_call (ok_u_law_due T) rfl (hr.mono (by decide)) hgd rfl T.f_u_law_due.gl T.f_u_law_due.kp T.f_u_law_due.bi tk (pfa_cons (pf_var 2 rfl (Or.inl rfl)) (pfa_cons (pf_var 3 rfl (Or.inl rfl)) (pfa_cons (pf_var 4 rfl (Or.inl rfl)) (pfa_cons (pf_var 5 rfl (Or.inl rfl)) pfa_nil))))))))))))))) (pfss_one (by exact (pfs_return pf_bl))) pfss_nil)))))))
  (pfss_one (by exact (pfs_return pf_bl)))))
theorem all_mk {l : PySem.W.OpenLaw} {w : World} {K : PySem.W.Frag} {h : Heap} {mg : Str → Option Value} {fa : Addr} (X : K.In h) (Gm : h.Ns mainGlobals mg) (hfa : mg "law" = some (.ref fa))
    {f0 f1 f2 f3 f4 f5 f6 f7 f8 f9 f10 C0 C1 i1 C2 i2 C3 i3 C4 i4 C5 i5 C6 i6 C7 i7 C8 i8 C9 i9 C10 i10 C11 i11 C12 i12 C13 i13 C14 i14 C15 C16 : Addr}
    {od0 an0 : Option Addr} {sl0 : Array (Option Value)} {oc0 kV0 dc0 pm0 cd0 ct0 : Value}
    (a0 : PySem.W.nsIn K mainGlobals "_law_pen" = some (some (.ref f0)))
    (l0 : K.lookup f0 = some ⟨oc0, od0, .func (PySem.W.fnOf "_law_pen" "_law_pen" (defArgs s_u_law_pen) (defBody s_u_law_pen) (defScope s_u_law_pen) .none kV0 dc0 pm0 an0 cd0 ct0), sl0⟩)
    (c0 : PySem.W.codeIn K cd0 "_law_pen" = true)
    (k0 : PySem.W.keepIn K (.ref f0) = true)
    {od1 an1 : Option Addr} {sl1 : Array (Option Value)} {oc1 kV1 dc1 pm1 cd1 ct1 : Value}
    (a1 : PySem.W.nsIn K mainGlobals "_law_draw" = some (some (.ref f1)))
    (l1 : K.lookup f1 = some ⟨oc1, od1, .func (PySem.W.fnOf "_law_draw" "_law_draw" (defArgs s_u_law_draw) (defBody s_u_law_draw) (defScope s_u_law_draw) .none kV1 dc1 pm1 an1 cd1 ct1), sl1⟩)
    (c1 : PySem.W.codeIn K cd1 "_law_draw" = true)
    (k1 : PySem.W.keepIn K (.ref f1) = true)
    {od2 an2 : Option Addr} {sl2 : Array (Option Value)} {oc2 kV2 dc2 pm2 cd2 ct2 : Value}
    (a2 : PySem.W.nsIn K mainGlobals "_law_pick" = some (some (.ref f2)))
    (l2 : K.lookup f2 = some ⟨oc2, od2, .func (PySem.W.fnOf "_law_pick" "_law_pick" (defArgs s_u_law_pick) (defBody s_u_law_pick) (defScope s_u_law_pick) .none kV2 dc2 pm2 an2 cd2 ct2), sl2⟩)
    (c2 : PySem.W.codeIn K cd2 "_law_pick" = true)
    (k2 : PySem.W.keepIn K (.ref f2) = true)
    {od3 an3 : Option Addr} {sl3 : Array (Option Value)} {oc3 kV3 dc3 pm3 cd3 ct3 : Value}
    (a3 : PySem.W.nsIn K mainGlobals "_law_kinds" = some (some (.ref f3)))
    (l3 : K.lookup f3 = some ⟨oc3, od3, .func (PySem.W.fnOf "_law_kinds" "_law_kinds" (defArgs s_u_law_kinds) (defBody s_u_law_kinds) (defScope s_u_law_kinds) .none kV3 dc3 pm3 an3 cd3 ct3), sl3⟩)
    (c3 : PySem.W.codeIn K cd3 "_law_kinds" = true)
    (k3 : PySem.W.keepIn K (.ref f3) = true)
    {od4 an4 : Option Addr} {sl4 : Array (Option Value)} {oc4 kV4 dc4 pm4 cd4 ct4 : Value}
    (a4 : PySem.W.nsIn K mainGlobals "_law_more_kinds" = some (some (.ref f4)))
    (l4 : K.lookup f4 = some ⟨oc4, od4, .func (PySem.W.fnOf "_law_more_kinds" "_law_more_kinds" (defArgs s_u_law_more_kinds) (defBody s_u_law_more_kinds) (defScope s_u_law_more_kinds) .none kV4 dc4 pm4 an4 cd4 ct4), sl4⟩)
    (c4 : PySem.W.codeIn K cd4 "_law_more_kinds" = true)
    (k4 : PySem.W.keepIn K (.ref f4) = true)
    {od5 an5 : Option Addr} {sl5 : Array (Option Value)} {oc5 kV5 dc5 pm5 cd5 ct5 : Value}
    (a5 : PySem.W.nsIn K mainGlobals "_law_field" = some (some (.ref f5)))
    (l5 : K.lookup f5 = some ⟨oc5, od5, .func (PySem.W.fnOf "_law_field" "_law_field" (defArgs s_u_law_field) (defBody s_u_law_field) (defScope s_u_law_field) .none kV5 dc5 pm5 an5 cd5 ct5), sl5⟩)
    (c5 : PySem.W.codeIn K cd5 "_law_field" = true)
    (k5 : PySem.W.keepIn K (.ref f5) = true)
    {od6 an6 : Option Addr} {sl6 : Array (Option Value)} {oc6 kV6 dc6 pm6 cd6 ct6 : Value}
    (a6 : PySem.W.nsIn K mainGlobals "_law_raised" = some (some (.ref f6)))
    (l6 : K.lookup f6 = some ⟨oc6, od6, .func (PySem.W.fnOf "_law_raised" "_law_raised" (defArgs s_u_law_raised) (defBody s_u_law_raised) (defScope s_u_law_raised) .none kV6 dc6 pm6 an6 cd6 ct6), sl6⟩)
    (c6 : PySem.W.codeIn K cd6 "_law_raised" = true)
    (k6 : PySem.W.keepIn K (.ref f6) = true)
    {od7 an7 : Option Addr} {sl7 : Array (Option Value)} {oc7 kV7 dc7 pm7 cd7 ct7 : Value}
    (a7 : PySem.W.nsIn K mainGlobals "_law_raised_too" = some (some (.ref f7)))
    (l7 : K.lookup f7 = some ⟨oc7, od7, .func (PySem.W.fnOf "_law_raised_too" "_law_raised_too" (defArgs s_u_law_raised_too) (defBody s_u_law_raised_too) (defScope s_u_law_raised_too) .none kV7 dc7 pm7 an7 cd7 ct7), sl7⟩)
    (c7 : PySem.W.codeIn K cd7 "_law_raised_too" = true)
    (k7 : PySem.W.keepIn K (.ref f7) = true)
    {od8 an8 : Option Addr} {sl8 : Array (Option Value)} {oc8 kV8 dc8 pm8 cd8 ct8 : Value}
    (a8 : PySem.W.nsIn K mainGlobals "_law_told" = some (some (.ref f8)))
    (l8 : K.lookup f8 = some ⟨oc8, od8, .func (PySem.W.fnOf "_law_told" "_law_told" (defArgs s_u_law_told) (defBody s_u_law_told) (defScope s_u_law_told) .none kV8 dc8 pm8 an8 cd8 ct8), sl8⟩)
    (c8 : PySem.W.codeIn K cd8 "_law_told" = true)
    (k8 : PySem.W.keepIn K (.ref f8) = true)
    {od9 an9 : Option Addr} {sl9 : Array (Option Value)} {oc9 kV9 dc9 pm9 cd9 ct9 : Value}
    (a9 : PySem.W.nsIn K mainGlobals "_law_due" = some (some (.ref f9)))
    (l9 : K.lookup f9 = some ⟨oc9, od9, .func (PySem.W.fnOf "_law_due" "_law_due" (defArgs s_u_law_due) (defBody s_u_law_due) (defScope s_u_law_due) .none kV9 dc9 pm9 an9 cd9 ct9), sl9⟩)
    (c9 : PySem.W.codeIn K cd9 "_law_due" = true)
    (k9 : PySem.W.keepIn K (.ref f9) = true)
    {od10 an10 : Option Addr} {sl10 : Array (Option Value)} {oc10 kV10 dc10 pm10 cd10 ct10 : Value}
    (a10 : PySem.W.nsIn K mainGlobals "law" = some (some (.ref f10)))
    (l10 : K.lookup f10 = some ⟨oc10, od10, .func (PySem.W.fnOf "law" "law" (defArgs s_law) (defBody s_law) (defScope s_law) .none kV10 dc10 pm10 an10 cd10 ct10), sl10⟩)
    (c10 : PySem.W.codeIn K cd10 "law" = true)
    (k10 : PySem.W.keepIn K (.ref f10) = true)
    (z_ValueError : PySem.W.nsIn K mainGlobals "ValueError" = some none)
    (z_int : PySem.W.nsIn K mainGlobals "int" = some none)
    (z_isinstance : PySem.W.nsIn K mainGlobals "isinstance" = some none)
    (z_len : PySem.W.nsIn K mainGlobals "len" = some none)
    (z_list : PySem.W.nsIn K mainGlobals "list" = some none)
    (z_range : PySem.W.nsIn K mainGlobals "range" = some none)
    (z_repr : PySem.W.nsIn K mainGlobals "repr" = some none)
    (gs : PySem.W.specialIn K (.builtin "object.__class__") "__get__" = some (some (.builtin "getset_descriptor.__get__")))
    (tkn : PySem.W.takesIn K (.builtin "object.__class__") = some true)
    (g0 : PySem.W.nsIn K mainGlobals "RootsError" = some (some (.ref C0)))
    (e0 : errB K C0 = true)
    (g1 : PySem.W.nsIn K mainGlobals "BadNumber" = some (some (.ref C1)))
    (e1 : eclB K C1 C0 ["what", "number"] = true)
    {oi1 ai1 : Option Addr} {si1 : Array (Option Value)} {oj1 kj1 dj1 pj1 cj1 tj1 : Value}
    (n1 : PySem.W.findIn K (.ref C1) "__init__" = some (some (.ref i1)))
    (t1 : PySem.W.typeIn K (.ref i1) = some (.type "function"))
    (m1 : K.lookup i1 = some ⟨oj1, oi1, .func (PySem.W.fnOf "__init__" "BadNumber.__init__" (defArgs i_BadNumber) (defBody i_BadNumber) (defScope i_BadNumber) .none kj1 dj1 pj1 ai1 cj1 tj1), si1⟩)
    (o1 : PySem.W.codeIn K cj1 "BadNumber.__init__" = true)
    (p1 : PySem.W.keepIn K (.ref i1) = true)
    (g2 : PySem.W.nsIn K mainGlobals "BadRow" = some (some (.ref C2)))
    (e2 : eclB K C2 C0 ["what", "row"] = true)
    {oi2 ai2 : Option Addr} {si2 : Array (Option Value)} {oj2 kj2 dj2 pj2 cj2 tj2 : Value}
    (n2 : PySem.W.findIn K (.ref C2) "__init__" = some (some (.ref i2)))
    (t2 : PySem.W.typeIn K (.ref i2) = some (.type "function"))
    (m2 : K.lookup i2 = some ⟨oj2, oi2, .func (PySem.W.fnOf "__init__" "BadRow.__init__" (defArgs i_BadRow) (defBody i_BadRow) (defScope i_BadRow) .none kj2 dj2 pj2 ai2 cj2 tj2), si2⟩)
    (o2 : PySem.W.codeIn K cj2 "BadRow.__init__" = true)
    (p2 : PySem.W.keepIn K (.ref i2) = true)
    (g3 : PySem.W.nsIn K mainGlobals "BadTable" = some (some (.ref C3)))
    (e3 : eclB K C3 C0 ["what"] = true)
    {oi3 ai3 : Option Addr} {si3 : Array (Option Value)} {oj3 kj3 dj3 pj3 cj3 tj3 : Value}
    (n3 : PySem.W.findIn K (.ref C3) "__init__" = some (some (.ref i3)))
    (t3 : PySem.W.typeIn K (.ref i3) = some (.type "function"))
    (m3 : K.lookup i3 = some ⟨oj3, oi3, .func (PySem.W.fnOf "__init__" "BadTable.__init__" (defArgs i_BadTable) (defBody i_BadTable) (defScope i_BadTable) .none kj3 dj3 pj3 ai3 cj3 tj3), si3⟩)
    (o3 : PySem.W.codeIn K cj3 "BadTable.__init__" = true)
    (p3 : PySem.W.keepIn K (.ref i3) = true)
    (g4 : PySem.W.nsIn K mainGlobals "BadPoly" = some (some (.ref C4)))
    (e4 : eclB K C4 C0 ["what"] = true)
    {oi4 ai4 : Option Addr} {si4 : Array (Option Value)} {oj4 kj4 dj4 pj4 cj4 tj4 : Value}
    (n4 : PySem.W.findIn K (.ref C4) "__init__" = some (some (.ref i4)))
    (t4 : PySem.W.typeIn K (.ref i4) = some (.type "function"))
    (m4 : K.lookup i4 = some ⟨oj4, oi4, .func (PySem.W.fnOf "__init__" "BadPoly.__init__" (defArgs i_BadPoly) (defBody i_BadPoly) (defScope i_BadPoly) .none kj4 dj4 pj4 ai4 cj4 tj4), si4⟩)
    (o4 : PySem.W.codeIn K cj4 "BadPoly.__init__" = true)
    (p4 : PySem.W.keepIn K (.ref i4) = true)
    (g5 : PySem.W.nsIn K mainGlobals "BadLot" = some (some (.ref C5)))
    (e5 : eclB K C5 C0 ["what", "lot"] = true)
    {oi5 ai5 : Option Addr} {si5 : Array (Option Value)} {oj5 kj5 dj5 pj5 cj5 tj5 : Value}
    (n5 : PySem.W.findIn K (.ref C5) "__init__" = some (some (.ref i5)))
    (t5 : PySem.W.typeIn K (.ref i5) = some (.type "function"))
    (m5 : K.lookup i5 = some ⟨oj5, oi5, .func (PySem.W.fnOf "__init__" "BadLot.__init__" (defArgs i_BadLot) (defBody i_BadLot) (defScope i_BadLot) .none kj5 dj5 pj5 ai5 cj5 tj5), si5⟩)
    (o5 : PySem.W.codeIn K cj5 "BadLot.__init__" = true)
    (p5 : PySem.W.keepIn K (.ref i5) = true)
    (g6 : PySem.W.nsIn K mainGlobals "BadName" = some (some (.ref C6)))
    (e6 : eclB K C6 C0 ["name"] = true)
    {oi6 ai6 : Option Addr} {si6 : Array (Option Value)} {oj6 kj6 dj6 pj6 cj6 tj6 : Value}
    (n6 : PySem.W.findIn K (.ref C6) "__init__" = some (some (.ref i6)))
    (t6 : PySem.W.typeIn K (.ref i6) = some (.type "function"))
    (m6 : K.lookup i6 = some ⟨oj6, oi6, .func (PySem.W.fnOf "__init__" "BadName.__init__" (defArgs i_BadName) (defBody i_BadName) (defScope i_BadName) .none kj6 dj6 pj6 ai6 cj6 tj6), si6⟩)
    (o6 : PySem.W.codeIn K cj6 "BadName.__init__" = true)
    (p6 : PySem.W.keepIn K (.ref i6) = true)
    (g7 : PySem.W.nsIn K mainGlobals "BadText" = some (some (.ref C7)))
    (e7 : eclB K C7 C0 ["line", "word"] = true)
    {oi7 ai7 : Option Addr} {si7 : Array (Option Value)} {oj7 kj7 dj7 pj7 cj7 tj7 : Value}
    (n7 : PySem.W.findIn K (.ref C7) "__init__" = some (some (.ref i7)))
    (t7 : PySem.W.typeIn K (.ref i7) = some (.type "function"))
    (m7 : K.lookup i7 = some ⟨oj7, oi7, .func (PySem.W.fnOf "__init__" "BadText.__init__" (defArgs i_BadText) (defBody i_BadText) (defScope i_BadText) .none kj7 dj7 pj7 ai7 cj7 tj7), si7⟩)
    (o7 : PySem.W.codeIn K cj7 "BadText.__init__" = true)
    (p7 : PySem.W.keepIn K (.ref i7) = true)
    (g8 : PySem.W.nsIn K mainGlobals "NoPlace" = some (some (.ref C8)))
    (e8 : eclB K C8 C0 ["what", "place"] = true)
    {oi8 ai8 : Option Addr} {si8 : Array (Option Value)} {oj8 kj8 dj8 pj8 cj8 tj8 : Value}
    (n8 : PySem.W.findIn K (.ref C8) "__init__" = some (some (.ref i8)))
    (t8 : PySem.W.typeIn K (.ref i8) = some (.type "function"))
    (m8 : K.lookup i8 = some ⟨oj8, oi8, .func (PySem.W.fnOf "__init__" "NoPlace.__init__" (defArgs i_NoPlace) (defBody i_NoPlace) (defScope i_NoPlace) .none kj8 dj8 pj8 ai8 cj8 tj8), si8⟩)
    (o8 : PySem.W.codeIn K cj8 "NoPlace.__init__" = true)
    (p8 : PySem.W.keepIn K (.ref i8) = true)
    (g9 : PySem.W.nsIn K mainGlobals "NoName" = some (some (.ref C9)))
    (e9 : eclB K C9 C0 ["name"] = true)
    {oi9 ai9 : Option Addr} {si9 : Array (Option Value)} {oj9 kj9 dj9 pj9 cj9 tj9 : Value}
    (n9 : PySem.W.findIn K (.ref C9) "__init__" = some (some (.ref i9)))
    (t9 : PySem.W.typeIn K (.ref i9) = some (.type "function"))
    (m9 : K.lookup i9 = some ⟨oj9, oi9, .func (PySem.W.fnOf "__init__" "NoName.__init__" (defArgs i_NoName) (defBody i_NoName) (defScope i_NoName) .none kj9 dj9 pj9 ai9 cj9 tj9), si9⟩)
    (o9 : PySem.W.codeIn K cj9 "NoName.__init__" = true)
    (p9 : PySem.W.keepIn K (.ref i9) = true)
    (g10 : PySem.W.nsIn K mainGlobals "TakenName" = some (some (.ref C10)))
    (e10 : eclB K C10 C0 ["name"] = true)
    {oi10 ai10 : Option Addr} {si10 : Array (Option Value)} {oj10 kj10 dj10 pj10 cj10 tj10 : Value}
    (n10 : PySem.W.findIn K (.ref C10) "__init__" = some (some (.ref i10)))
    (t10 : PySem.W.typeIn K (.ref i10) = some (.type "function"))
    (m10 : K.lookup i10 = some ⟨oj10, oi10, .func (PySem.W.fnOf "__init__" "TakenName.__init__" (defArgs i_TakenName) (defBody i_TakenName) (defScope i_TakenName) .none kj10 dj10 pj10 ai10 cj10 tj10), si10⟩)
    (o10 : PySem.W.codeIn K cj10 "TakenName.__init__" = true)
    (p10 : PySem.W.keepIn K (.ref i10) = true)
    (g11 : PySem.W.nsIn K mainGlobals "Unlike" = some (some (.ref C11)))
    (e11 : eclB K C11 C0 ["what"] = true)
    {oi11 ai11 : Option Addr} {si11 : Array (Option Value)} {oj11 kj11 dj11 pj11 cj11 tj11 : Value}
    (n11 : PySem.W.findIn K (.ref C11) "__init__" = some (some (.ref i11)))
    (t11 : PySem.W.typeIn K (.ref i11) = some (.type "function"))
    (m11 : K.lookup i11 = some ⟨oj11, oi11, .func (PySem.W.fnOf "__init__" "Unlike.__init__" (defArgs i_Unlike) (defBody i_Unlike) (defScope i_Unlike) .none kj11 dj11 pj11 ai11 cj11 tj11), si11⟩)
    (o11 : PySem.W.codeIn K cj11 "Unlike.__init__" = true)
    (p11 : PySem.W.keepIn K (.ref i11) = true)
    (g12 : PySem.W.nsIn K mainGlobals "NotBetween" = some (some (.ref C12)))
    (e12 : eclB K C12 C0 ["row"] = true)
    {oi12 ai12 : Option Addr} {si12 : Array (Option Value)} {oj12 kj12 dj12 pj12 cj12 tj12 : Value}
    (n12 : PySem.W.findIn K (.ref C12) "__init__" = some (some (.ref i12)))
    (t12 : PySem.W.typeIn K (.ref i12) = some (.type "function"))
    (m12 : K.lookup i12 = some ⟨oj12, oi12, .func (PySem.W.fnOf "__init__" "NotBetween.__init__" (defArgs i_NotBetween) (defBody i_NotBetween) (defScope i_NotBetween) .none kj12 dj12 pj12 ai12 cj12 tj12), si12⟩)
    (o12 : PySem.W.codeIn K cj12 "NotBetween.__init__" = true)
    (p12 : PySem.W.keepIn K (.ref i12) = true)
    (g13 : PySem.W.nsIn K mainGlobals "TooMany" = some (some (.ref C13)))
    (e13 : eclB K C13 C0 ["what", "many", "limit"] = true)
    {oi13 ai13 : Option Addr} {si13 : Array (Option Value)} {oj13 kj13 dj13 pj13 cj13 tj13 : Value}
    (n13 : PySem.W.findIn K (.ref C13) "__init__" = some (some (.ref i13)))
    (t13 : PySem.W.typeIn K (.ref i13) = some (.type "function"))
    (m13 : K.lookup i13 = some ⟨oj13, oi13, .func (PySem.W.fnOf "__init__" "TooMany.__init__" (defArgs i_TooMany) (defBody i_TooMany) (defScope i_TooMany) .none kj13 dj13 pj13 ai13 cj13 tj13), si13⟩)
    (o13 : PySem.W.codeIn K cj13 "TooMany.__init__" = true)
    (p13 : PySem.W.keepIn K (.ref i13) = true)
    (g14 : PySem.W.nsIn K mainGlobals "NotKept" = some (some (.ref C14)))
    (e14 : eclB K C14 C0 ["promise", "witness"] = true)
    {oi14 ai14 : Option Addr} {si14 : Array (Option Value)} {oj14 kj14 dj14 pj14 cj14 tj14 : Value}
    (n14 : PySem.W.findIn K (.ref C14) "__init__" = some (some (.ref i14)))
    (t14 : PySem.W.typeIn K (.ref i14) = some (.type "function"))
    (m14 : K.lookup i14 = some ⟨oj14, oi14, .func (PySem.W.fnOf "__init__" "NotKept.__init__" (defArgs i_NotKept) (defBody i_NotKept) (defScope i_NotKept) .none kj14 dj14 pj14 ai14 cj14 tj14), si14⟩)
    (o14 : PySem.W.codeIn K cj14 "NotKept.__init__" = true)
    (p14 : PySem.W.keepIn K (.ref i14) = true)
    (g15 : PySem.W.nsIn K mainGlobals "NothingToUndo" = some (some (.ref C15)))
    (e15 : eclB K C15 C0 [] = true)
    (q15 : PySem.W.excIn K C15 [.type "ValueError", .type "Exception", .type "BaseException", .type "object"] "ValueError.__new__" = true)
    (g16 : PySem.W.nsIn K mainGlobals "NothingToRedo" = some (some (.ref C16)))
    (e16 : eclB K C16 C0 [] = true)
    (q16 : PySem.W.excIn K C16 [.type "ValueError", .type "Exception", .type "BaseException", .type "object"] "ValueError.__new__" = true)
    (nd : [C0, C1, C2, C3, C4, C5, C6, C7, C8, C9, C10, C11, C12, C13, C14, C15, C16].Nodup) :
    LawF l w K 5 "script" mg fa h true F_law := by
  have ef := hfa.symm.trans (PySem.W.mg_of X Gm a10)
  cases ef
  obtain ⟨G, hG⟩ : ∃ G : Cfg, G = { K := K, ca := fun n => [C0, C1, C2, C3, C4, C5, C6, C7, C8, C9, C10, C11, C12, C13, C14, C15, C16].getD n 0, fa := fun _ => 0, px := none, T := [] } := ⟨_, rfl⟩
  have hGK : G.K = K := by rw [hG]
  have hC0 : G.ca 0 = C0 := by rw [hG]; rfl
  have hC1 : G.ca 1 = C1 := by rw [hG]; rfl
  have hC2 : G.ca 2 = C2 := by rw [hG]; rfl
  have hC3 : G.ca 3 = C3 := by rw [hG]; rfl
  have hC4 : G.ca 4 = C4 := by rw [hG]; rfl
  have hC5 : G.ca 5 = C5 := by rw [hG]; rfl
  have hC6 : G.ca 6 = C6 := by rw [hG]; rfl
  have hC7 : G.ca 7 = C7 := by rw [hG]; rfl
  have hC8 : G.ca 8 = C8 := by rw [hG]; rfl
  have hC9 : G.ca 9 = C9 := by rw [hG]; rfl
  have hC10 : G.ca 10 = C10 := by rw [hG]; rfl
  have hC11 : G.ca 11 = C11 := by rw [hG]; rfl
  have hC12 : G.ca 12 = C12 := by rw [hG]; rfl
  have hC13 : G.ca 13 = C13 := by rw [hG]; rfl
  have hC14 : G.ca 14 = C14 := by rw [hG]; rfl
  have hC15 : G.ca 15 = C15 := by rw [hG]; rfl
  have hC16 : G.ca 16 = C16 := by rw [hG]; rfl
  have F0 := fun_mk (st := s_u_law_pen) l0 c0 k0
  have B0 := F0.binds (ps := ["script"]) fun _ _ _ _ _ _ us hl => match us, hl with | [_], _ => rfl
  have F1 := fun_mk (st := s_u_law_draw) l1 c1 k1
  have B1 := F1.binds (ps := ["pen", "many"]) fun _ _ _ _ _ _ us hl => match us, hl with | [_, _], _ => rfl
  have F2 := fun_mk (st := s_u_law_pick) l2 c2 k2
  have B2 := F2.binds (ps := ["pen", "some"]) fun _ _ _ _ _ _ us hl => match us, hl with | [_, _], _ => rfl
  have F3 := fun_mk (st := s_u_law_kinds) l3 c3 k3
  have B3 := F3.binds (ps := ["e"]) fun _ _ _ _ _ _ us hl => match us, hl with | [_], _ => rfl
  have F4 := fun_mk (st := s_u_law_more_kinds) l4 c4 k4
  have B4 := F4.binds (ps := ["e"]) fun _ _ _ _ _ _ us hl => match us, hl with | [_], _ => rfl
  have F5 := fun_mk (st := s_u_law_field) l5 c5 k5
  have B5 := F5.binds (ps := ["pen"]) fun _ _ _ _ _ _ us hl => match us, hl with | [_], _ => rfl
  have F6 := fun_mk (st := s_u_law_raised) l6 c6 k6
  have B6 := F6.binds (ps := ["kind", "one", "two"]) fun _ _ _ _ _ _ us hl => match us, hl with | [_, _, _], _ => rfl
  have F7 := fun_mk (st := s_u_law_raised_too) l7 c7 k7
  have B7 := F7.binds (ps := ["kind", "one", "two", "three"]) fun _ _ _ _ _ _ us hl => match us, hl with | [_, _, _, _], _ => rfl
  have F8 := fun_mk (st := s_u_law_told) l8 c8 k8
  have B8 := F8.binds (ps := ["kind", "one", "two", "three"]) fun _ _ _ _ _ _ us hl => match us, hl with | [_, _, _, _], _ => rfl
  have F9 := fun_mk (st := s_u_law_due) l9 c9 k9
  have B9 := F9.binds (ps := ["kind", "one", "two", "three"]) fun _ _ _ _ _ _ us hl => match us, hl with | [_, _, _, _], _ => rfl
  have F10 := fun_mk (st := s_law) l10 c10 k10
  have B10 := F10.binds (ps := ["script"]) fun _ _ _ _ _ _ us hl => match us, hl with | [_], _ => rfl
  have I1 := fun_mk (st := i_BadNumber) m1 o1 p1
  have J1 := I1.binds (ps := ["self", "what", "number"]) fun _ _ _ _ _ _ us hl => match us, hl with | [_, _, _], _ => rfl
  have I2 := fun_mk (st := i_BadRow) m2 o2 p2
  have J2 := I2.binds (ps := ["self", "what", "row"]) fun _ _ _ _ _ _ us hl => match us, hl with | [_, _, _], _ => rfl
  have I3 := fun_mk (st := i_BadTable) m3 o3 p3
  have J3 := I3.binds (ps := ["self", "what"]) fun _ _ _ _ _ _ us hl => match us, hl with | [_, _], _ => rfl
  have I4 := fun_mk (st := i_BadPoly) m4 o4 p4
  have J4 := I4.binds (ps := ["self", "what"]) fun _ _ _ _ _ _ us hl => match us, hl with | [_, _], _ => rfl
  have I5 := fun_mk (st := i_BadLot) m5 o5 p5
  have J5 := I5.binds (ps := ["self", "what", "lot"]) fun _ _ _ _ _ _ us hl => match us, hl with | [_, _, _], _ => rfl
  have I6 := fun_mk (st := i_BadName) m6 o6 p6
  have J6 := I6.binds (ps := ["self", "name"]) fun _ _ _ _ _ _ us hl => match us, hl with | [_, _], _ => rfl
  have I7 := fun_mk (st := i_BadText) m7 o7 p7
  have J7 := I7.binds (ps := ["self", "line", "word"]) fun _ _ _ _ _ _ us hl => match us, hl with | [_, _, _], _ => rfl
  have I8 := fun_mk (st := i_NoPlace) m8 o8 p8
  have J8 := I8.binds (ps := ["self", "what", "place"]) fun _ _ _ _ _ _ us hl => match us, hl with | [_, _, _], _ => rfl
  have I9 := fun_mk (st := i_NoName) m9 o9 p9
  have J9 := I9.binds (ps := ["self", "name"]) fun _ _ _ _ _ _ us hl => match us, hl with | [_, _], _ => rfl
  have I10 := fun_mk (st := i_TakenName) m10 o10 p10
  have J10 := I10.binds (ps := ["self", "name"]) fun _ _ _ _ _ _ us hl => match us, hl with | [_, _], _ => rfl
  have I11 := fun_mk (st := i_Unlike) m11 o11 p11
  have J11 := I11.binds (ps := ["self", "what"]) fun _ _ _ _ _ _ us hl => match us, hl with | [_, _], _ => rfl
  have I12 := fun_mk (st := i_NotBetween) m12 o12 p12
  have J12 := I12.binds (ps := ["self", "row"]) fun _ _ _ _ _ _ us hl => match us, hl with | [_, _], _ => rfl
  have I13 := fun_mk (st := i_TooMany) m13 o13 p13
  have J13 := I13.binds (ps := ["self", "what", "many", "limit"]) fun _ _ _ _ _ _ us hl => match us, hl with | [_, _, _, _], _ => rfl
  have I14 := fun_mk (st := i_NotKept) m14 o14 p14
  have J14 := I14.binds (ps := ["self", "promise", "witness"]) fun _ _ _ _ _ _ us hl => match us, hl with | [_, _, _], _ => rfl
  have ER : ErrTab G 17 := by
    subst hG
    exact ⟨by decide, fun i hi => match i, hi with
        | 0, _ => errB_ok e0
        | 1, _ => (eclB_ok e1).1
        | 2, _ => (eclB_ok e2).1
        | 3, _ => (eclB_ok e3).1
        | 4, _ => (eclB_ok e4).1
        | 5, _ => (eclB_ok e5).1
        | 6, _ => (eclB_ok e6).1
        | 7, _ => (eclB_ok e7).1
        | 8, _ => (eclB_ok e8).1
        | 9, _ => (eclB_ok e9).1
        | 10, _ => (eclB_ok e10).1
        | 11, _ => (eclB_ok e11).1
        | 12, _ => (eclB_ok e12).1
        | 13, _ => (eclB_ok e13).1
        | 14, _ => (eclB_ok e14).1
        | 15, _ => (eclB_ok e15).1
        | 16, _ => (eclB_ok e16).1
        | i + 17, hi => absurd hi (by omega),
      fun i hi h0 => match i, hi, h0 with
        | 0, _, h0 => absurd rfl h0
        | 1, _, _ => ecl_mro e1
        | 2, _, _ => ecl_mro e2
        | 3, _, _ => ecl_mro e3
        | 4, _, _ => ecl_mro e4
        | 5, _, _ => ecl_mro e5
        | 6, _, _ => ecl_mro e6
        | 7, _, _ => ecl_mro e7
        | 8, _, _ => ecl_mro e8
        | 9, _, _ => ecl_mro e9
        | 10, _, _ => ecl_mro e10
        | 11, _, _ => ecl_mro e11
        | 12, _, _ => ecl_mro e12
        | 13, _, _ => ecl_mro e13
        | 14, _, _ => ecl_mro e14
        | 15, _, _ => ecl_mro e15
        | 16, _, _ => ecl_mro e16
        | i + 17, hi, _ => absurd hi (by omega),
      fun i j hi hj e => getD_inj nd hi hj e, gs, tkn⟩
  have HF : ∀ (f : Str) (c : Nat), f ∈ flds c → PySem.W.findIn G.K (.ref (G.ca c)) f = some none ∧ ErrI G.K (G.ca c) := fun f c hf => by
    match c, hf with
    | 0, hf => exact absurd (show f ∈ ([] : List Str) from hf) (by simp)
    | 1, hf => exact ⟨by rw [hGK, hC1]; exact (eclB_ok e1).2.2 f hf, ER.errI (by decide)⟩
    | 2, hf => exact ⟨by rw [hGK, hC2]; exact (eclB_ok e2).2.2 f hf, ER.errI (by decide)⟩
    | 3, hf => exact ⟨by rw [hGK, hC3]; exact (eclB_ok e3).2.2 f hf, ER.errI (by decide)⟩
    | 4, hf => exact ⟨by rw [hGK, hC4]; exact (eclB_ok e4).2.2 f hf, ER.errI (by decide)⟩
    | 5, hf => exact ⟨by rw [hGK, hC5]; exact (eclB_ok e5).2.2 f hf, ER.errI (by decide)⟩
    | 6, hf => exact ⟨by rw [hGK, hC6]; exact (eclB_ok e6).2.2 f hf, ER.errI (by decide)⟩
    | 7, hf => exact ⟨by rw [hGK, hC7]; exact (eclB_ok e7).2.2 f hf, ER.errI (by decide)⟩
    | 8, hf => exact ⟨by rw [hGK, hC8]; exact (eclB_ok e8).2.2 f hf, ER.errI (by decide)⟩
    | 9, hf => exact ⟨by rw [hGK, hC9]; exact (eclB_ok e9).2.2 f hf, ER.errI (by decide)⟩
    | 10, hf => exact ⟨by rw [hGK, hC10]; exact (eclB_ok e10).2.2 f hf, ER.errI (by decide)⟩
    | 11, hf => exact ⟨by rw [hGK, hC11]; exact (eclB_ok e11).2.2 f hf, ER.errI (by decide)⟩
    | 12, hf => exact ⟨by rw [hGK, hC12]; exact (eclB_ok e12).2.2 f hf, ER.errI (by decide)⟩
    | 13, hf => exact ⟨by rw [hGK, hC13]; exact (eclB_ok e13).2.2 f hf, ER.errI (by decide)⟩
    | 14, hf => exact ⟨by rw [hGK, hC14]; exact (eclB_ok e14).2.2 f hf, ER.errI (by decide)⟩
    | 15, hf => exact absurd (show f ∈ ([] : List Str) from hf) (by simp)
    | 16, hf => exact absurd (show f ∈ ([] : List Str) from hf) (by simp)
    | c + 17, hf => exact absurd (show f ∈ ([] : List Str) from hf) (by simp)
  refine ⟨PySem.W.fnOf "law" "law" (defArgs s_law) (defBody s_law) (defScope s_law) .none kV10 dc10 pm10 an10 cd10 ct10, [], G, hGK, (by subst hG; exact fun p hp => (by cases hp)), fun p hp => (by cases hp), fun p hp => (by cases hp), fun p hp => (by cases hp), fun s u => .of_eq rfl, fun base KB GB _ hsy => ?_⟩
  have T : Txt l.prog w G mg base (fun n => [f0, f1, f2, f3, f4, f5, f6, f7, f8, f9, fa, 0, i1, i2, i3, i4, i5, i6, i7, i8, i9, i10, i11, i12, i13, i14, 0, 0].getD n 0) (fun n => ([PySem.W.fnOf "_law_pen" "_law_pen" (defArgs s_u_law_pen) (defBody s_u_law_pen) (defScope s_u_law_pen) .none kV0 dc0 pm0 an0 cd0 ct0, PySem.W.fnOf "_law_draw" "_law_draw" (defArgs s_u_law_draw) (defBody s_u_law_draw) (defScope s_u_law_draw) .none kV1 dc1 pm1 an1 cd1 ct1, PySem.W.fnOf "_law_pick" "_law_pick" (defArgs s_u_law_pick) (defBody s_u_law_pick) (defScope s_u_law_pick) .none kV2 dc2 pm2 an2 cd2 ct2, PySem.W.fnOf "_law_kinds" "_law_kinds" (defArgs s_u_law_kinds) (defBody s_u_law_kinds) (defScope s_u_law_kinds) .none kV3 dc3 pm3 an3 cd3 ct3, PySem.W.fnOf "_law_more_kinds" "_law_more_kinds" (defArgs s_u_law_more_kinds) (defBody s_u_law_more_kinds) (defScope s_u_law_more_kinds) .none kV4 dc4 pm4 an4 cd4 ct4, PySem.W.fnOf "_law_field" "_law_field" (defArgs s_u_law_field) (defBody s_u_law_field) (defScope s_u_law_field) .none kV5 dc5 pm5 an5 cd5 ct5, PySem.W.fnOf "_law_raised" "_law_raised" (defArgs s_u_law_raised) (defBody s_u_law_raised) (defScope s_u_law_raised) .none kV6 dc6 pm6 an6 cd6 ct6, PySem.W.fnOf "_law_raised_too" "_law_raised_too" (defArgs s_u_law_raised_too) (defBody s_u_law_raised_too) (defScope s_u_law_raised_too) .none kV7 dc7 pm7 an7 cd7 ct7, PySem.W.fnOf "_law_told" "_law_told" (defArgs s_u_law_told) (defBody s_u_law_told) (defScope s_u_law_told) .none kV8 dc8 pm8 an8 cd8 ct8, PySem.W.fnOf "_law_due" "_law_due" (defArgs s_u_law_due) (defBody s_u_law_due) (defScope s_u_law_due) .none kV9 dc9 pm9 an9 cd9 ct9, PySem.W.fnOf "law" "law" (defArgs s_law) (defBody s_law) (defScope s_law) .none kV10 dc10 pm10 an10 cd10 ct10, PySem.W.fnOf "law" "law" (defArgs s_law) (defBody s_law) (defScope s_law) .none kV10 dc10 pm10 an10 cd10 ct10, PySem.W.fnOf "__init__" "BadNumber.__init__" (defArgs i_BadNumber) (defBody i_BadNumber) (defScope i_BadNumber) .none kj1 dj1 pj1 ai1 cj1 tj1, PySem.W.fnOf "__init__" "BadRow.__init__" (defArgs i_BadRow) (defBody i_BadRow) (defScope i_BadRow) .none kj2 dj2 pj2 ai2 cj2 tj2, PySem.W.fnOf "__init__" "BadTable.__init__" (defArgs i_BadTable) (defBody i_BadTable) (defScope i_BadTable) .none kj3 dj3 pj3 ai3 cj3 tj3, PySem.W.fnOf "__init__" "BadPoly.__init__" (defArgs i_BadPoly) (defBody i_BadPoly) (defScope i_BadPoly) .none kj4 dj4 pj4 ai4 cj4 tj4, PySem.W.fnOf "__init__" "BadLot.__init__" (defArgs i_BadLot) (defBody i_BadLot) (defScope i_BadLot) .none kj5 dj5 pj5 ai5 cj5 tj5, PySem.W.fnOf "__init__" "BadName.__init__" (defArgs i_BadName) (defBody i_BadName) (defScope i_BadName) .none kj6 dj6 pj6 ai6 cj6 tj6, PySem.W.fnOf "__init__" "BadText.__init__" (defArgs i_BadText) (defBody i_BadText) (defScope i_BadText) .none kj7 dj7 pj7 ai7 cj7 tj7, PySem.W.fnOf "__init__" "NoPlace.__init__" (defArgs i_NoPlace) (defBody i_NoPlace) (defScope i_NoPlace) .none kj8 dj8 pj8 ai8 cj8 tj8, PySem.W.fnOf "__init__" "NoName.__init__" (defArgs i_NoName) (defBody i_NoName) (defScope i_NoName) .none kj9 dj9 pj9 ai9 cj9 tj9, PySem.W.fnOf "__init__" "TakenName.__init__" (defArgs i_TakenName) (defBody i_TakenName) (defScope i_TakenName) .none kj10 dj10 pj10 ai10 cj10 tj10, PySem.W.fnOf "__init__" "Unlike.__init__" (defArgs i_Unlike) (defBody i_Unlike) (defScope i_Unlike) .none kj11 dj11 pj11 ai11 cj11 tj11, PySem.W.fnOf "__init__" "NotBetween.__init__" (defArgs i_NotBetween) (defBody i_NotBetween) (defScope i_NotBetween) .none kj12 dj12 pj12 ai12 cj12 tj12, PySem.W.fnOf "__init__" "TooMany.__init__" (defArgs i_TooMany) (defBody i_TooMany) (defScope i_TooMany) .none kj13 dj13 pj13 ai13 cj13 tj13, PySem.W.fnOf "__init__" "NotKept.__init__" (defArgs i_NotKept) (defBody i_NotKept) (defScope i_NotKept) .none kj14 dj14 pj14 ai14 cj14 tj14, PySem.W.fnOf "law" "law" (defArgs s_law) (defBody s_law) (defScope s_law) .none kV10 dc10 pm10 an10 cd10 ct10, PySem.W.fnOf "law" "law" (defArgs s_law) (defBody s_law) (defScope s_law) .none kV10 dc10 pm10 an10 cd10 ct10] : List FuncData).getD n (PySem.W.fnOf "law" "law" (defArgs s_law) (defBody s_law) (defScope s_law) .none kV10 dc10 pm10 an10 cd10 ct10)) := by
    subst hG
    exact ⟨rfl,
      hsy rfl,
      ER,
      HF,
      ⟨F0, PySem.W.mg_of X Gm a0, B0⟩,
      ⟨F1, PySem.W.mg_of X Gm a1, B1⟩,
      ⟨F2, PySem.W.mg_of X Gm a2, B2⟩,
      ⟨F3, PySem.W.mg_of X Gm a3, B3⟩,
      ⟨F4, PySem.W.mg_of X Gm a4, B4⟩,
      ⟨F5, PySem.W.mg_of X Gm a5, B5⟩,
      ⟨F6, PySem.W.mg_of X Gm a6, B6⟩,
      ⟨F7, PySem.W.mg_of X Gm a7, B7⟩,
      ⟨F8, PySem.W.mg_of X Gm a8, B8⟩,
      ⟨F9, PySem.W.mg_of X Gm a9, B9⟩,
      ⟨F10, PySem.W.mg_of X Gm a10, B10⟩,
      PySem.W.mg_none_of X Gm z_ValueError,
      PySem.W.mg_none_of X Gm z_int,
      PySem.W.mg_none_of X Gm z_isinstance,
      PySem.W.mg_none_of X Gm z_len,
      PySem.W.mg_none_of X Gm z_list,
      PySem.W.mg_none_of X Gm z_range,
      PySem.W.mg_none_of X Gm z_repr,
      PySem.W.mg_of X Gm g0,
      PySem.W.mg_of X Gm g1,
      PySem.W.mg_of X Gm g2,
      PySem.W.mg_of X Gm g3,
      PySem.W.mg_of X Gm g4,
      PySem.W.mg_of X Gm g5,
      PySem.W.mg_of X Gm g6,
      PySem.W.mg_of X Gm g7,
      PySem.W.mg_of X Gm g8,
      PySem.W.mg_of X Gm g9,
      PySem.W.mg_of X Gm g10,
      PySem.W.mg_of X Gm g11,
      PySem.W.mg_of X Gm g12,
      PySem.W.mg_of X Gm g13,
      PySem.W.mg_of X Gm g14,
      PySem.W.mg_of X Gm g15,
      PySem.W.mg_of X Gm g16,
      errMk_of (PySem.W.mg_of X Gm g1) e1 n1 t1 I1 J1,
      errMk_of (PySem.W.mg_of X Gm g2) e2 n2 t2 I2 J2,
      errMk_of (PySem.W.mg_of X Gm g3) e3 n3 t3 I3 J3,
      errMk_of (PySem.W.mg_of X Gm g4) e4 n4 t4 I4 J4,
      errMk_of (PySem.W.mg_of X Gm g5) e5 n5 t5 I5 J5,
      errMk_of (PySem.W.mg_of X Gm g6) e6 n6 t6 I6 J6,
      errMk_of (PySem.W.mg_of X Gm g7) e7 n7 t7 I7 J7,
      errMk_of (PySem.W.mg_of X Gm g8) e8 n8 t8 I8 J8,
      errMk_of (PySem.W.mg_of X Gm g9) e9 n9 t9 I9 J9,
      errMk_of (PySem.W.mg_of X Gm g10) e10 n10 t10 I10 J10,
      errMk_of (PySem.W.mg_of X Gm g11) e11 n11 t11 I11 J11,
      errMk_of (PySem.W.mg_of X Gm g12) e12 n12 t12 I12 J12,
      errMk_of (PySem.W.mg_of X Gm g13) e13 n13 t13 I13 J13,
      errMk_of (PySem.W.mg_of X Gm g14) e14 n14 t14 I14 J14,
      ⟨PySem.W.mg_of X Gm g15, q15⟩,
      ⟨PySem.W.mg_of X Gm g16, q16⟩⟩
  exact ok_law T
end
end P
end Fx

namespace Fx
open PySem PySem.Spec PyProof.Rows L2
namespace P
/-! ### the plain law -/
theorem sizes : (0 ≤ sizeLine ∧ 1 ≤ sizeLine ∧ 2 ≤ sizeLine ∧ 3 ≤ sizeLine ∧ 4 ≤ sizeLine ∧ 9 ≤ sizeLine) ∧ 12 ≤ sizeLine ∧ 4 + 12 ≤ sizeLine := by decide
theorem field_ok {p : Pen} {n i : Nat} {S : Store} (h : p.Ok n) (hn : n < 2 ^ 59) (hS : S[i]? = some p.cell) :
    ∃ (v : PV) (p' : Pen), F_u_law_field [.ref i] S = .ok v (S.set i p'.cell) ∧ p'.Ok (n + 2) ∧ Sm v 400 3 := by
  obtain ⟨d, p1, e1, ok1, d0, d1⟩ := draw_ok (many := 8) h (by omega) (by decide) (by decide) hS
  have hS1 : (S.set i p1.cell)[i]? = some p1.cell := set_get hS
  have hz : ∀ k : Nat, k ≤ 100 → k ≤ sizeLine := fun k hk => Nat.le_trans hk (by decide)
  have z2 : (2 : Nat) ≤ sizeLine := hz 2 (by decide)
  have z1 : (1 : Nat) ≤ sizeLine := hz 1 (by decide)
  have z0 : (0 : Nat) ≤ sizeLine := hz 0 (by decide)
  have z9 : (9 : Nat) ≤ sizeLine := hz 9 (by decide)
  by_cases h0 : d = 0
  · obtain ⟨m, p2, e2, ok2, m0, m1⟩ := draw_ok (many := 100) ok1 (by omega) (by decide) (by decide) hS1
    refine ⟨.lst [.int m, .lst []], p2, ?_, ok2, ?_⟩
    · refine runF_run.trans ?_
      show SOut.toO (r_u_law_field [.val (.ref i), .no] S) = _
      simp only [r_u_law_field, ob_ok, ob_exc, ob_stuck, ob_ite, os_ok, os_exc, os_stuck, os_ite, st_nx, st_rt, st_bk, st_ct, st_exc, st_stuck, st_ite, so_rt, so_nx, so_exc, so_stuck, so_ite, sv_val, sb_val, sb_own, ov_some, obb_some, bl_run, rC_run, rVar_run, rBor_run, rOp_run, rDGet_run, rIx_run, raNil_run, raCons_run, rTup_run, rLst_run, rDct_run, rCell_run, rCell0_run, rCall_run, rBlt_run, rLen_run, rList_run, rTuple_run, rRepr_run, opRepr_run, negV_int, rNeg_run, rTruB_run, rTru_run, rtAnd_run, rtOr_run, rtNot_run, rIfE_run, andV_t, andV_f, rAndV_run, rOrV_run, rNotV_run, add_int, add_lst, add_tup, add_str, sub_int, mul_int, mod_int, div_int, pow_int, cmp_int, eq_run, ne_run, eqPV_int, eqPV_str, is_non, isnt_non, dget_some, dget_run, ix_lst, ix_tup, len_lst, len_tup, len_scr, list_lst, list_tup, list_scr, int_run, abs_run, seqO_some, riSeq_run, riRg1_run, rg1_run, riRg2_run, rg2_run, gnm_run, sBind_run, sSeq_run, sNext_run, sBreak_run, sCont_run, sRet_run, sRetN_run, sExpr_run, sSet_run, sIf_run, dput_some, dputAt_run, sDPut_run, sPar_run, sOwn_run, rlLst_run, appO_run, appH_run, sAppend_run, frzO_run, sFrz_run, sRaise_run, sRaise0_run, suO_nx, suO_rt, suO_ite, endTry_run, subO_t, subO_f, tryO_exc, tryO_nx, tryO_rt, tryO_ite, sTry_run, sFor_run, forL_nil, forO_nx, forO_ct, forO_bk, forO_rt, forO_ite, forL_cons, toX_rt, toX_nx, toX_ite, xisO_run, rXIs_run, xfO_run, rXF_run, okO_ok, cxO_run, rCallX_run, List.getElem?_cons_zero, List.getElem?_cons_succ, List.set_cons_zero, List.set_cons_succ, List.length_cons, List.length_nil, Option.map_some, Option.map_none, if_true, if_false, ite_true, ite_false, reduceIte, decide_true, decide_false, Bool.not_true, Bool.not_false, Bool.false_eq_true, e1, h0, e2, Nat.reduceAdd, z2, z1, z0, List.set_set]
    · exact (sm_lst (smL_cons (sm_int (by omega) |>.mono (Nat.le_refl _) (Nat.zero_le 1)) (smL_cons (sm_lst (smL_nil (j := 0))) smL_nil))).mono (by decide) (by decide)
  · by_cases h1 : d = 1
    · have pc : (0 : Int) ≤ 6 ∧ (6 : Int) ≤ 1000000 ∧ Int.natAbs 10 < 2 ^ 64 := by decide
      have pw : (10 : Int) ^ (6 : Int).toNat = 1000000 := rfl
      obtain ⟨m, p2, e2, ok2, m0, m1⟩ := draw_ok (many := 1000000) ok1 (by omega) (by decide) (by decide) hS1
      refine ⟨.tup [.str "a", .tup [.int m]], p2, ?_, ok2, ?_⟩
      · refine runF_run.trans ?_
        show SOut.toO (r_u_law_field [.val (.ref i), .no] S) = _
        have n10 : ¬ ((1 : Int) = 0) := by decide
        simp only [r_u_law_field, ob_ok, ob_exc, ob_stuck, ob_ite, os_ok, os_exc, os_stuck, os_ite, st_nx, st_rt, st_bk, st_ct, st_exc, st_stuck, st_ite, so_rt, so_nx, so_exc, so_stuck, so_ite, sv_val, sb_val, sb_own, ov_some, obb_some, bl_run, rC_run, rVar_run, rBor_run, rOp_run, rDGet_run, rIx_run, raNil_run, raCons_run, rTup_run, rLst_run, rDct_run, rCell_run, rCell0_run, rCall_run, rBlt_run, rLen_run, rList_run, rTuple_run, rRepr_run, opRepr_run, negV_int, rNeg_run, rTruB_run, rTru_run, rtAnd_run, rtOr_run, rtNot_run, rIfE_run, andV_t, andV_f, rAndV_run, rOrV_run, rNotV_run, add_int, add_lst, add_tup, add_str, sub_int, mul_int, mod_int, div_int, pow_int, cmp_int, eq_run, ne_run, eqPV_int, eqPV_str, is_non, isnt_non, dget_some, dget_run, ix_lst, ix_tup, len_lst, len_tup, len_scr, list_lst, list_tup, list_scr, int_run, abs_run, seqO_some, riSeq_run, riRg1_run, rg1_run, riRg2_run, rg2_run, gnm_run, sBind_run, sSeq_run, sNext_run, sBreak_run, sCont_run, sRet_run, sRetN_run, sExpr_run, sSet_run, sIf_run, dput_some, dputAt_run, sDPut_run, sPar_run, sOwn_run, rlLst_run, appO_run, appH_run, sAppend_run, frzO_run, sFrz_run, sRaise_run, sRaise0_run, suO_nx, suO_rt, suO_ite, endTry_run, subO_t, subO_f, tryO_exc, tryO_nx, tryO_rt, tryO_ite, sTry_run, sFor_run, forL_nil, forO_nx, forO_ct, forO_bk, forO_rt, forO_ite, forL_cons, toX_rt, toX_nx, toX_ite, xisO_run, rXIs_run, xfO_run, rXF_run, okO_ok, cxO_run, rCallX_run, List.getElem?_cons_zero, List.getElem?_cons_succ, List.set_cons_zero, List.set_cons_succ, List.length_cons, List.length_nil, Option.map_some, Option.map_none, if_true, if_false, ite_true, ite_false, reduceIte, decide_true, decide_false, Bool.not_true, Bool.not_false, Bool.false_eq_true, e1, h1, e2, Nat.reduceAdd, z2, z1, z0, pc, pw, n10, List.set_set, and_self]
      · exact (sm_tup (smL_cons (sm_str (k := 1) (okS_string _) (by decide) |>.mono (Nat.le_refl _) (Nat.zero_le 1)) (smL_cons (sm_tup (smL_cons (sm_int (by omega)) smL_nil)) smL_nil))).mono (by decide) (by decide)
    · have pc : (0 : Int) ≤ 40 ∧ (40 : Int) ≤ 1000000 ∧ Int.natAbs 10 < 2 ^ 64 := by decide
      have pw : (10 : Int) ^ (40 : Int).toNat = 10 ^ 40 := rfl
      obtain ⟨x, p2, e2, ok2, hx⟩ := pick_ok (xs := [.non, .bl true, .bl false, .int 0, .int (-1), .str "x", .str "", .int (10 ^ 40), .dct [.inr "k"] [.int 1]]) ok1 (by omega) (by decide) (by decide) hS1
      refine ⟨x, p2, ?_, ok2, ?_⟩
      · refine runF_run.trans ?_
        show SOut.toO (r_u_law_field [.val (.ref i), .no] S) = _
        simp only [r_u_law_field, ob_ok, ob_exc, ob_stuck, ob_ite, os_ok, os_exc, os_stuck, os_ite, st_nx, st_rt, st_bk, st_ct, st_exc, st_stuck, st_ite, so_rt, so_nx, so_exc, so_stuck, so_ite, sv_val, sb_val, sb_own, ov_some, obb_some, bl_run, rC_run, rVar_run, rBor_run, rOp_run, rDGet_run, rIx_run, raNil_run, raCons_run, rTup_run, rLst_run, rDct_run, rCell_run, rCell0_run, rCall_run, rBlt_run, rLen_run, rList_run, rTuple_run, rRepr_run, opRepr_run, negV_int, rNeg_run, rTruB_run, rTru_run, rtAnd_run, rtOr_run, rtNot_run, rIfE_run, andV_t, andV_f, rAndV_run, rOrV_run, rNotV_run, add_int, add_lst, add_tup, add_str, sub_int, mul_int, mod_int, div_int, pow_int, cmp_int, eq_run, ne_run, eqPV_int, eqPV_str, is_non, isnt_non, dget_some, dget_run, ix_lst, ix_tup, len_lst, len_tup, len_scr, list_lst, list_tup, list_scr, int_run, abs_run, seqO_some, riSeq_run, riRg1_run, rg1_run, riRg2_run, rg2_run, gnm_run, sBind_run, sSeq_run, sNext_run, sBreak_run, sCont_run, sRet_run, sRetN_run, sExpr_run, sSet_run, sIf_run, dput_some, dputAt_run, sDPut_run, sPar_run, sOwn_run, rlLst_run, appO_run, appH_run, sAppend_run, frzO_run, sFrz_run, sRaise_run, sRaise0_run, suO_nx, suO_rt, suO_ite, endTry_run, subO_t, subO_f, tryO_exc, tryO_nx, tryO_rt, tryO_ite, sTry_run, sFor_run, forL_nil, forO_nx, forO_ct, forO_bk, forO_rt, forO_ite, forL_cons, toX_rt, toX_nx, toX_ite, xisO_run, rXIs_run, xfO_run, rXF_run, okO_ok, cxO_run, rCallX_run, List.getElem?_cons_zero, List.getElem?_cons_succ, List.set_cons_zero, List.set_cons_succ, List.length_cons, List.length_nil, Option.map_some, Option.map_none, if_true, if_false, ite_true, ite_false, reduceIte, decide_true, decide_false, Bool.not_true, Bool.not_false, Bool.false_eq_true, e1, h0, h1, e2, Nat.reduceAdd, z9, pc, pw, List.set_set, and_self]
      · simp only [List.mem_cons, List.not_mem_nil, or_false] at hx
        rcases hx with rfl | rfl | rfl | rfl | rfl | rfl | rfl | rfl | rfl
        · exact sm_non.mono (by decide) (by decide)
        · exact (sm_bl _).mono (by decide) (by decide)
        · exact (sm_bl _).mono (by decide) (by decide)
        · exact (sm_int (by decide)).mono (by decide) (by decide)
        · exact (sm_int (by decide)).mono (by decide) (by decide)
        · exact (sm_str (k := 1) (okS_string _) (by decide)).mono (by decide) (by decide)
        · exact (sm_str (k := 1) (okS_string _) (by decide)).mono (by decide) (by decide)
        · exact (sm_int (by decide)).mono (by decide) (by decide)
        · refine ⟨.dict [(.str "k", .int 1)], rfl, ?_, ?_, ?_, ?_⟩ <;> decide +kernel
end P
end Fx

namespace Fx
open PySem PySem.Spec PyProof.Rows L2
namespace P
theorem tru_bl {b : Bool} : truPV (.bl b) = some b := rfl
theorem ie_0_1 : isE 17 0 1 = some true := by decide +kernel
theorem ie_0_2 : isE 17 0 2 = some true := by decide +kernel
theorem ie_0_3 : isE 17 0 3 = some true := by decide +kernel
theorem ie_0_4 : isE 17 0 4 = some true := by decide +kernel
theorem ie_0_5 : isE 17 0 5 = some true := by decide +kernel
theorem ie_0_6 : isE 17 0 6 = some true := by decide +kernel
theorem ie_0_7 : isE 17 0 7 = some true := by decide +kernel
theorem ie_0_8 : isE 17 0 8 = some true := by decide +kernel
theorem ie_0_9 : isE 17 0 9 = some true := by decide +kernel
theorem ie_0_10 : isE 17 0 10 = some true := by decide +kernel
theorem ie_0_11 : isE 17 0 11 = some true := by decide +kernel
theorem ie_0_12 : isE 17 0 12 = some true := by decide +kernel
theorem ie_0_13 : isE 17 0 13 = some true := by decide +kernel
theorem ie_0_14 : isE 17 0 14 = some true := by decide +kernel
theorem ie_0_15 : isE 17 0 15 = some true := by decide +kernel
theorem ie_0_16 : isE 17 0 16 = some true := by decide +kernel
theorem ie_1_1 : isE 17 1 1 = some true := by decide +kernel
theorem ie_1_2 : isE 17 1 2 = some false := by decide +kernel
theorem ie_1_3 : isE 17 1 3 = some false := by decide +kernel
theorem ie_1_4 : isE 17 1 4 = some false := by decide +kernel
theorem ie_1_5 : isE 17 1 5 = some false := by decide +kernel
theorem ie_1_6 : isE 17 1 6 = some false := by decide +kernel
theorem ie_1_7 : isE 17 1 7 = some false := by decide +kernel
theorem ie_1_8 : isE 17 1 8 = some false := by decide +kernel
theorem ie_1_9 : isE 17 1 9 = some false := by decide +kernel
theorem ie_1_10 : isE 17 1 10 = some false := by decide +kernel
theorem ie_1_11 : isE 17 1 11 = some false := by decide +kernel
theorem ie_1_12 : isE 17 1 12 = some false := by decide +kernel
theorem ie_1_13 : isE 17 1 13 = some false := by decide +kernel
theorem ie_1_14 : isE 17 1 14 = some false := by decide +kernel
theorem ie_1_15 : isE 17 1 15 = some false := by decide +kernel
theorem ie_1_16 : isE 17 1 16 = some false := by decide +kernel
theorem ie_2_1 : isE 17 2 1 = some false := by decide +kernel
theorem ie_2_2 : isE 17 2 2 = some true := by decide +kernel
theorem ie_2_3 : isE 17 2 3 = some false := by decide +kernel
theorem ie_2_4 : isE 17 2 4 = some false := by decide +kernel
theorem ie_2_5 : isE 17 2 5 = some false := by decide +kernel
theorem ie_2_6 : isE 17 2 6 = some false := by decide +kernel
theorem ie_2_7 : isE 17 2 7 = some false := by decide +kernel
theorem ie_2_8 : isE 17 2 8 = some false := by decide +kernel
theorem ie_2_9 : isE 17 2 9 = some false := by decide +kernel
theorem ie_2_10 : isE 17 2 10 = some false := by decide +kernel
theorem ie_2_11 : isE 17 2 11 = some false := by decide +kernel
theorem ie_2_12 : isE 17 2 12 = some false := by decide +kernel
theorem ie_2_13 : isE 17 2 13 = some false := by decide +kernel
theorem ie_2_14 : isE 17 2 14 = some false := by decide +kernel
theorem ie_2_15 : isE 17 2 15 = some false := by decide +kernel
theorem ie_2_16 : isE 17 2 16 = some false := by decide +kernel
theorem ie_3_1 : isE 17 3 1 = some false := by decide +kernel
theorem ie_3_2 : isE 17 3 2 = some false := by decide +kernel
theorem ie_3_3 : isE 17 3 3 = some true := by decide +kernel
theorem ie_3_4 : isE 17 3 4 = some false := by decide +kernel
theorem ie_3_5 : isE 17 3 5 = some false := by decide +kernel
theorem ie_3_6 : isE 17 3 6 = some false := by decide +kernel
theorem ie_3_7 : isE 17 3 7 = some false := by decide +kernel
theorem ie_3_8 : isE 17 3 8 = some false := by decide +kernel
theorem ie_3_9 : isE 17 3 9 = some false := by decide +kernel
theorem ie_3_10 : isE 17 3 10 = some false := by decide +kernel
theorem ie_3_11 : isE 17 3 11 = some false := by decide +kernel
theorem ie_3_12 : isE 17 3 12 = some false := by decide +kernel
theorem ie_3_13 : isE 17 3 13 = some false := by decide +kernel
theorem ie_3_14 : isE 17 3 14 = some false := by decide +kernel
theorem ie_3_15 : isE 17 3 15 = some false := by decide +kernel
theorem ie_3_16 : isE 17 3 16 = some false := by decide +kernel
theorem ie_4_1 : isE 17 4 1 = some false := by decide +kernel
theorem ie_4_2 : isE 17 4 2 = some false := by decide +kernel
theorem ie_4_3 : isE 17 4 3 = some false := by decide +kernel
theorem ie_4_4 : isE 17 4 4 = some true := by decide +kernel
theorem ie_4_5 : isE 17 4 5 = some false := by decide +kernel
theorem ie_4_6 : isE 17 4 6 = some false := by decide +kernel
theorem ie_4_7 : isE 17 4 7 = some false := by decide +kernel
theorem ie_4_8 : isE 17 4 8 = some false := by decide +kernel
theorem ie_4_9 : isE 17 4 9 = some false := by decide +kernel
theorem ie_4_10 : isE 17 4 10 = some false := by decide +kernel
theorem ie_4_11 : isE 17 4 11 = some false := by decide +kernel
theorem ie_4_12 : isE 17 4 12 = some false := by decide +kernel
theorem ie_4_13 : isE 17 4 13 = some false := by decide +kernel
theorem ie_4_14 : isE 17 4 14 = some false := by decide +kernel
theorem ie_4_15 : isE 17 4 15 = some false := by decide +kernel
theorem ie_4_16 : isE 17 4 16 = some false := by decide +kernel
theorem ie_5_1 : isE 17 5 1 = some false := by decide +kernel
theorem ie_5_2 : isE 17 5 2 = some false := by decide +kernel
theorem ie_5_3 : isE 17 5 3 = some false := by decide +kernel
theorem ie_5_4 : isE 17 5 4 = some false := by decide +kernel
theorem ie_5_5 : isE 17 5 5 = some true := by decide +kernel
theorem ie_5_6 : isE 17 5 6 = some false := by decide +kernel
theorem ie_5_7 : isE 17 5 7 = some false := by decide +kernel
theorem ie_5_8 : isE 17 5 8 = some false := by decide +kernel
theorem ie_5_9 : isE 17 5 9 = some false := by decide +kernel
theorem ie_5_10 : isE 17 5 10 = some false := by decide +kernel
theorem ie_5_11 : isE 17 5 11 = some false := by decide +kernel
theorem ie_5_12 : isE 17 5 12 = some false := by decide +kernel
theorem ie_5_13 : isE 17 5 13 = some false := by decide +kernel
theorem ie_5_14 : isE 17 5 14 = some false := by decide +kernel
theorem ie_5_15 : isE 17 5 15 = some false := by decide +kernel
theorem ie_5_16 : isE 17 5 16 = some false := by decide +kernel
theorem ie_6_1 : isE 17 6 1 = some false := by decide +kernel
theorem ie_6_2 : isE 17 6 2 = some false := by decide +kernel
theorem ie_6_3 : isE 17 6 3 = some false := by decide +kernel
theorem ie_6_4 : isE 17 6 4 = some false := by decide +kernel
theorem ie_6_5 : isE 17 6 5 = some false := by decide +kernel
theorem ie_6_6 : isE 17 6 6 = some true := by decide +kernel
theorem ie_6_7 : isE 17 6 7 = some false := by decide +kernel
theorem ie_6_8 : isE 17 6 8 = some false := by decide +kernel
theorem ie_6_9 : isE 17 6 9 = some false := by decide +kernel
theorem ie_6_10 : isE 17 6 10 = some false := by decide +kernel
theorem ie_6_11 : isE 17 6 11 = some false := by decide +kernel
theorem ie_6_12 : isE 17 6 12 = some false := by decide +kernel
theorem ie_6_13 : isE 17 6 13 = some false := by decide +kernel
theorem ie_6_14 : isE 17 6 14 = some false := by decide +kernel
theorem ie_6_15 : isE 17 6 15 = some false := by decide +kernel
theorem ie_6_16 : isE 17 6 16 = some false := by decide +kernel
theorem ie_7_1 : isE 17 7 1 = some false := by decide +kernel
theorem ie_7_2 : isE 17 7 2 = some false := by decide +kernel
theorem ie_7_3 : isE 17 7 3 = some false := by decide +kernel
theorem ie_7_4 : isE 17 7 4 = some false := by decide +kernel
theorem ie_7_5 : isE 17 7 5 = some false := by decide +kernel
theorem ie_7_6 : isE 17 7 6 = some false := by decide +kernel
theorem ie_7_7 : isE 17 7 7 = some true := by decide +kernel
theorem ie_7_8 : isE 17 7 8 = some false := by decide +kernel
theorem ie_7_9 : isE 17 7 9 = some false := by decide +kernel
theorem ie_7_10 : isE 17 7 10 = some false := by decide +kernel
theorem ie_7_11 : isE 17 7 11 = some false := by decide +kernel
theorem ie_7_12 : isE 17 7 12 = some false := by decide +kernel
theorem ie_7_13 : isE 17 7 13 = some false := by decide +kernel
theorem ie_7_14 : isE 17 7 14 = some false := by decide +kernel
theorem ie_7_15 : isE 17 7 15 = some false := by decide +kernel
theorem ie_7_16 : isE 17 7 16 = some false := by decide +kernel
theorem ie_8_1 : isE 17 8 1 = some false := by decide +kernel
theorem ie_8_2 : isE 17 8 2 = some false := by decide +kernel
theorem ie_8_3 : isE 17 8 3 = some false := by decide +kernel
theorem ie_8_4 : isE 17 8 4 = some false := by decide +kernel
theorem ie_8_5 : isE 17 8 5 = some false := by decide +kernel
theorem ie_8_6 : isE 17 8 6 = some false := by decide +kernel
theorem ie_8_7 : isE 17 8 7 = some false := by decide +kernel
theorem ie_8_8 : isE 17 8 8 = some true := by decide +kernel
theorem ie_8_9 : isE 17 8 9 = some false := by decide +kernel
theorem ie_8_10 : isE 17 8 10 = some false := by decide +kernel
theorem ie_8_11 : isE 17 8 11 = some false := by decide +kernel
theorem ie_8_12 : isE 17 8 12 = some false := by decide +kernel
theorem ie_8_13 : isE 17 8 13 = some false := by decide +kernel
theorem ie_8_14 : isE 17 8 14 = some false := by decide +kernel
theorem ie_8_15 : isE 17 8 15 = some false := by decide +kernel
theorem ie_8_16 : isE 17 8 16 = some false := by decide +kernel
theorem ie_9_1 : isE 17 9 1 = some false := by decide +kernel
theorem ie_9_2 : isE 17 9 2 = some false := by decide +kernel
theorem ie_9_3 : isE 17 9 3 = some false := by decide +kernel
theorem ie_9_4 : isE 17 9 4 = some false := by decide +kernel
theorem ie_9_5 : isE 17 9 5 = some false := by decide +kernel
theorem ie_9_6 : isE 17 9 6 = some false := by decide +kernel
theorem ie_9_7 : isE 17 9 7 = some false := by decide +kernel
theorem ie_9_8 : isE 17 9 8 = some false := by decide +kernel
theorem ie_9_9 : isE 17 9 9 = some true := by decide +kernel
theorem ie_9_10 : isE 17 9 10 = some false := by decide +kernel
theorem ie_9_11 : isE 17 9 11 = some false := by decide +kernel
theorem ie_9_12 : isE 17 9 12 = some false := by decide +kernel
theorem ie_9_13 : isE 17 9 13 = some false := by decide +kernel
theorem ie_9_14 : isE 17 9 14 = some false := by decide +kernel
theorem ie_9_15 : isE 17 9 15 = some false := by decide +kernel
theorem ie_9_16 : isE 17 9 16 = some false := by decide +kernel
theorem ie_10_1 : isE 17 10 1 = some false := by decide +kernel
theorem ie_10_2 : isE 17 10 2 = some false := by decide +kernel
theorem ie_10_3 : isE 17 10 3 = some false := by decide +kernel
theorem ie_10_4 : isE 17 10 4 = some false := by decide +kernel
theorem ie_10_5 : isE 17 10 5 = some false := by decide +kernel
theorem ie_10_6 : isE 17 10 6 = some false := by decide +kernel
theorem ie_10_7 : isE 17 10 7 = some false := by decide +kernel
theorem ie_10_8 : isE 17 10 8 = some false := by decide +kernel
theorem ie_10_9 : isE 17 10 9 = some false := by decide +kernel
theorem ie_10_10 : isE 17 10 10 = some true := by decide +kernel
theorem ie_10_11 : isE 17 10 11 = some false := by decide +kernel
theorem ie_10_12 : isE 17 10 12 = some false := by decide +kernel
theorem ie_10_13 : isE 17 10 13 = some false := by decide +kernel
theorem ie_10_14 : isE 17 10 14 = some false := by decide +kernel
theorem ie_10_15 : isE 17 10 15 = some false := by decide +kernel
theorem ie_10_16 : isE 17 10 16 = some false := by decide +kernel
theorem ie_11_1 : isE 17 11 1 = some false := by decide +kernel
theorem ie_11_2 : isE 17 11 2 = some false := by decide +kernel
theorem ie_11_3 : isE 17 11 3 = some false := by decide +kernel
theorem ie_11_4 : isE 17 11 4 = some false := by decide +kernel
theorem ie_11_5 : isE 17 11 5 = some false := by decide +kernel
theorem ie_11_6 : isE 17 11 6 = some false := by decide +kernel
theorem ie_11_7 : isE 17 11 7 = some false := by decide +kernel
theorem ie_11_8 : isE 17 11 8 = some false := by decide +kernel
theorem ie_11_9 : isE 17 11 9 = some false := by decide +kernel
theorem ie_11_10 : isE 17 11 10 = some false := by decide +kernel
theorem ie_11_11 : isE 17 11 11 = some true := by decide +kernel
theorem ie_11_12 : isE 17 11 12 = some false := by decide +kernel
theorem ie_11_13 : isE 17 11 13 = some false := by decide +kernel
theorem ie_11_14 : isE 17 11 14 = some false := by decide +kernel
theorem ie_11_15 : isE 17 11 15 = some false := by decide +kernel
theorem ie_11_16 : isE 17 11 16 = some false := by decide +kernel
theorem ie_12_1 : isE 17 12 1 = some false := by decide +kernel
theorem ie_12_2 : isE 17 12 2 = some false := by decide +kernel
theorem ie_12_3 : isE 17 12 3 = some false := by decide +kernel
theorem ie_12_4 : isE 17 12 4 = some false := by decide +kernel
theorem ie_12_5 : isE 17 12 5 = some false := by decide +kernel
theorem ie_12_6 : isE 17 12 6 = some false := by decide +kernel
theorem ie_12_7 : isE 17 12 7 = some false := by decide +kernel
theorem ie_12_8 : isE 17 12 8 = some false := by decide +kernel
theorem ie_12_9 : isE 17 12 9 = some false := by decide +kernel
theorem ie_12_10 : isE 17 12 10 = some false := by decide +kernel
theorem ie_12_11 : isE 17 12 11 = some false := by decide +kernel
theorem ie_12_12 : isE 17 12 12 = some true := by decide +kernel
theorem ie_12_13 : isE 17 12 13 = some false := by decide +kernel
theorem ie_12_14 : isE 17 12 14 = some false := by decide +kernel
theorem ie_12_15 : isE 17 12 15 = some false := by decide +kernel
theorem ie_12_16 : isE 17 12 16 = some false := by decide +kernel
theorem ie_13_1 : isE 17 13 1 = some false := by decide +kernel
theorem ie_13_2 : isE 17 13 2 = some false := by decide +kernel
theorem ie_13_3 : isE 17 13 3 = some false := by decide +kernel
theorem ie_13_4 : isE 17 13 4 = some false := by decide +kernel
theorem ie_13_5 : isE 17 13 5 = some false := by decide +kernel
theorem ie_13_6 : isE 17 13 6 = some false := by decide +kernel
theorem ie_13_7 : isE 17 13 7 = some false := by decide +kernel
theorem ie_13_8 : isE 17 13 8 = some false := by decide +kernel
theorem ie_13_9 : isE 17 13 9 = some false := by decide +kernel
theorem ie_13_10 : isE 17 13 10 = some false := by decide +kernel
theorem ie_13_11 : isE 17 13 11 = some false := by decide +kernel
theorem ie_13_12 : isE 17 13 12 = some false := by decide +kernel
theorem ie_13_13 : isE 17 13 13 = some true := by decide +kernel
theorem ie_13_14 : isE 17 13 14 = some false := by decide +kernel
theorem ie_13_15 : isE 17 13 15 = some false := by decide +kernel
theorem ie_13_16 : isE 17 13 16 = some false := by decide +kernel
theorem ie_14_1 : isE 17 14 1 = some false := by decide +kernel
theorem ie_14_2 : isE 17 14 2 = some false := by decide +kernel
theorem ie_14_3 : isE 17 14 3 = some false := by decide +kernel
theorem ie_14_4 : isE 17 14 4 = some false := by decide +kernel
theorem ie_14_5 : isE 17 14 5 = some false := by decide +kernel
theorem ie_14_6 : isE 17 14 6 = some false := by decide +kernel
theorem ie_14_7 : isE 17 14 7 = some false := by decide +kernel
theorem ie_14_8 : isE 17 14 8 = some false := by decide +kernel
theorem ie_14_9 : isE 17 14 9 = some false := by decide +kernel
theorem ie_14_10 : isE 17 14 10 = some false := by decide +kernel
theorem ie_14_11 : isE 17 14 11 = some false := by decide +kernel
theorem ie_14_12 : isE 17 14 12 = some false := by decide +kernel
theorem ie_14_13 : isE 17 14 13 = some false := by decide +kernel
theorem ie_14_14 : isE 17 14 14 = some true := by decide +kernel
theorem ie_14_15 : isE 17 14 15 = some false := by decide +kernel
theorem ie_14_16 : isE 17 14 16 = some false := by decide +kernel
theorem ie_15_1 : isE 17 15 1 = some false := by decide +kernel
theorem ie_15_2 : isE 17 15 2 = some false := by decide +kernel
theorem ie_15_3 : isE 17 15 3 = some false := by decide +kernel
theorem ie_15_4 : isE 17 15 4 = some false := by decide +kernel
theorem ie_15_5 : isE 17 15 5 = some false := by decide +kernel
theorem ie_15_6 : isE 17 15 6 = some false := by decide +kernel
theorem ie_15_7 : isE 17 15 7 = some false := by decide +kernel
theorem ie_15_8 : isE 17 15 8 = some false := by decide +kernel
theorem ie_15_9 : isE 17 15 9 = some false := by decide +kernel
theorem ie_15_10 : isE 17 15 10 = some false := by decide +kernel
theorem ie_15_11 : isE 17 15 11 = some false := by decide +kernel
theorem ie_15_12 : isE 17 15 12 = some false := by decide +kernel
theorem ie_15_13 : isE 17 15 13 = some false := by decide +kernel
theorem ie_15_14 : isE 17 15 14 = some false := by decide +kernel
theorem ie_15_15 : isE 17 15 15 = some true := by decide +kernel
theorem ie_15_16 : isE 17 15 16 = some false := by decide +kernel
theorem ie_16_1 : isE 17 16 1 = some false := by decide +kernel
theorem ie_16_2 : isE 17 16 2 = some false := by decide +kernel
theorem ie_16_3 : isE 17 16 3 = some false := by decide +kernel
theorem ie_16_4 : isE 17 16 4 = some false := by decide +kernel
theorem ie_16_5 : isE 17 16 5 = some false := by decide +kernel
theorem ie_16_6 : isE 17 16 6 = some false := by decide +kernel
theorem ie_16_7 : isE 17 16 7 = some false := by decide +kernel
theorem ie_16_8 : isE 17 16 8 = some false := by decide +kernel
theorem ie_16_9 : isE 17 16 9 = some false := by decide +kernel
theorem ie_16_10 : isE 17 16 10 = some false := by decide +kernel
theorem ie_16_11 : isE 17 16 11 = some false := by decide +kernel
theorem ie_16_12 : isE 17 16 12 = some false := by decide +kernel
theorem ie_16_13 : isE 17 16 13 = some false := by decide +kernel
theorem ie_16_14 : isE 17 16 14 = some false := by decide +kernel
theorem ie_16_15 : isE 17 16 15 = some false := by decide +kernel
theorem ie_16_16 : isE 17 16 16 = some true := by decide +kernel
theorem iv_1 : isV 17 1 = some true := by decide +kernel
theorem iv_2 : isV 17 2 = some true := by decide +kernel
theorem iv_3 : isV 17 3 = some true := by decide +kernel
theorem iv_4 : isV 17 4 = some true := by decide +kernel
theorem iv_5 : isV 17 5 = some true := by decide +kernel
theorem iv_6 : isV 17 6 = some true := by decide +kernel
theorem iv_7 : isV 17 7 = some true := by decide +kernel
theorem iv_8 : isV 17 8 = some true := by decide +kernel
theorem iv_9 : isV 17 9 = some true := by decide +kernel
theorem iv_10 : isV 17 10 = some true := by decide +kernel
theorem iv_11 : isV 17 11 = some true := by decide +kernel
theorem iv_12 : isV 17 12 = some true := by decide +kernel
theorem iv_13 : isV 17 13 = some true := by decide +kernel
theorem iv_14 : isV 17 14 = some true := by decide +kernel
theorem iv_15 : isV 17 15 = some true := by decide +kernel
theorem iv_16 : isV 17 16 = some true := by decide +kernel
theorem in_a {k : Int} {S : Store} : opIn false (.int k) (.tup [.int 0, .int 1, .int 4, .int 7]) S = .ok (.bl (decide (k ∈ [0, 1, 4, 7]))) S := rfl
theorem in_b {k : Int} {S : Store} : opIn false (.int k) (.tup [.int 2, .int 3, .int 10, .int 11]) S = .ok (.bl (decide (k ∈ [2, 3, 10, 11]))) S := rfl
theorem in_c {k : Int} {S : Store} : opIn false (.int k) (.tup [.int 5, .int 8, .int 9]) S = .ok (.bl (decide (k ∈ [5, 8, 9]))) S := rfl
theorem in_d {k : Int} {S : Store} : opIn false (.int k) (.tup [.int 6, .int 13]) S = .ok (.bl (decide (k ∈ [6, 13]))) S := rfl
theorem aw_0 : atI [PV.str "number", PV.str "row", PV.str "table", PV.str "poly", PV.str "lot", PV.str "badname", PV.str "text", PV.str "place", PV.str "noname", PV.str "taken", PV.str "unlike", PV.str "notbetween", PV.str "many", PV.str "kept", PV.str "undo", PV.str "redo"] (0 : Int) = some (.str "number") := rfl
theorem aw_1 : atI [PV.str "number", PV.str "row", PV.str "table", PV.str "poly", PV.str "lot", PV.str "badname", PV.str "text", PV.str "place", PV.str "noname", PV.str "taken", PV.str "unlike", PV.str "notbetween", PV.str "many", PV.str "kept", PV.str "undo", PV.str "redo"] (1 : Int) = some (.str "row") := rfl
theorem aw_2 : atI [PV.str "number", PV.str "row", PV.str "table", PV.str "poly", PV.str "lot", PV.str "badname", PV.str "text", PV.str "place", PV.str "noname", PV.str "taken", PV.str "unlike", PV.str "notbetween", PV.str "many", PV.str "kept", PV.str "undo", PV.str "redo"] (2 : Int) = some (.str "table") := rfl
theorem aw_3 : atI [PV.str "number", PV.str "row", PV.str "table", PV.str "poly", PV.str "lot", PV.str "badname", PV.str "text", PV.str "place", PV.str "noname", PV.str "taken", PV.str "unlike", PV.str "notbetween", PV.str "many", PV.str "kept", PV.str "undo", PV.str "redo"] (3 : Int) = some (.str "poly") := rfl
theorem aw_4 : atI [PV.str "number", PV.str "row", PV.str "table", PV.str "poly", PV.str "lot", PV.str "badname", PV.str "text", PV.str "place", PV.str "noname", PV.str "taken", PV.str "unlike", PV.str "notbetween", PV.str "many", PV.str "kept", PV.str "undo", PV.str "redo"] (4 : Int) = some (.str "lot") := rfl
theorem aw_5 : atI [PV.str "number", PV.str "row", PV.str "table", PV.str "poly", PV.str "lot", PV.str "badname", PV.str "text", PV.str "place", PV.str "noname", PV.str "taken", PV.str "unlike", PV.str "notbetween", PV.str "many", PV.str "kept", PV.str "undo", PV.str "redo"] (5 : Int) = some (.str "badname") := rfl
theorem aw_6 : atI [PV.str "number", PV.str "row", PV.str "table", PV.str "poly", PV.str "lot", PV.str "badname", PV.str "text", PV.str "place", PV.str "noname", PV.str "taken", PV.str "unlike", PV.str "notbetween", PV.str "many", PV.str "kept", PV.str "undo", PV.str "redo"] (6 : Int) = some (.str "text") := rfl
theorem aw_7 : atI [PV.str "number", PV.str "row", PV.str "table", PV.str "poly", PV.str "lot", PV.str "badname", PV.str "text", PV.str "place", PV.str "noname", PV.str "taken", PV.str "unlike", PV.str "notbetween", PV.str "many", PV.str "kept", PV.str "undo", PV.str "redo"] (7 : Int) = some (.str "place") := rfl
theorem aw_8 : atI [PV.str "number", PV.str "row", PV.str "table", PV.str "poly", PV.str "lot", PV.str "badname", PV.str "text", PV.str "place", PV.str "noname", PV.str "taken", PV.str "unlike", PV.str "notbetween", PV.str "many", PV.str "kept", PV.str "undo", PV.str "redo"] (8 : Int) = some (.str "noname") := rfl
theorem aw_9 : atI [PV.str "number", PV.str "row", PV.str "table", PV.str "poly", PV.str "lot", PV.str "badname", PV.str "text", PV.str "place", PV.str "noname", PV.str "taken", PV.str "unlike", PV.str "notbetween", PV.str "many", PV.str "kept", PV.str "undo", PV.str "redo"] (9 : Int) = some (.str "taken") := rfl
theorem aw_10 : atI [PV.str "number", PV.str "row", PV.str "table", PV.str "poly", PV.str "lot", PV.str "badname", PV.str "text", PV.str "place", PV.str "noname", PV.str "taken", PV.str "unlike", PV.str "notbetween", PV.str "many", PV.str "kept", PV.str "undo", PV.str "redo"] (10 : Int) = some (.str "unlike") := rfl
theorem aw_11 : atI [PV.str "number", PV.str "row", PV.str "table", PV.str "poly", PV.str "lot", PV.str "badname", PV.str "text", PV.str "place", PV.str "noname", PV.str "taken", PV.str "unlike", PV.str "notbetween", PV.str "many", PV.str "kept", PV.str "undo", PV.str "redo"] (11 : Int) = some (.str "notbetween") := rfl
theorem aw_12 : atI [PV.str "number", PV.str "row", PV.str "table", PV.str "poly", PV.str "lot", PV.str "badname", PV.str "text", PV.str "place", PV.str "noname", PV.str "taken", PV.str "unlike", PV.str "notbetween", PV.str "many", PV.str "kept", PV.str "undo", PV.str "redo"] (12 : Int) = some (.str "many") := rfl
theorem aw_13 : atI [PV.str "number", PV.str "row", PV.str "table", PV.str "poly", PV.str "lot", PV.str "badname", PV.str "text", PV.str "place", PV.str "noname", PV.str "taken", PV.str "unlike", PV.str "notbetween", PV.str "many", PV.str "kept", PV.str "undo", PV.str "redo"] (13 : Int) = some (.str "kept") := rfl
theorem aw_14 : atI [PV.str "number", PV.str "row", PV.str "table", PV.str "poly", PV.str "lot", PV.str "badname", PV.str "text", PV.str "place", PV.str "noname", PV.str "taken", PV.str "unlike", PV.str "notbetween", PV.str "many", PV.str "kept", PV.str "undo", PV.str "redo"] (14 : Int) = some (.str "undo") := rfl
theorem aw_15 : atI [PV.str "number", PV.str "row", PV.str "table", PV.str "poly", PV.str "lot", PV.str "badname", PV.str "text", PV.str "place", PV.str "noname", PV.str "taken", PV.str "unlike", PV.str "notbetween", PV.str "many", PV.str "kept", PV.str "undo", PV.str "redo"] (15 : Int) = some (.str "redo") := rfl
theorem more_0 {one two three : PV} {x1 x2 : Str} {S : Store} (h1 : reprPV true one = some x1) (h2 : reprPV true two = some x2) : F_u_law_more_kinds 1 (List.reverse ["what", "number"]) (List.reverse [one, two]) S = .ok (.lst []) S := by
  have hz : ∀ k : Nat, k ≤ 100 → k ≤ sizeLine := fun k hk => Nat.le_trans hk (by decide)
  have hy : (0 : Nat) < sizeLine := by decide
  have z0 : (0 : Nat) ≤ sizeLine := hz 0 (by decide)
  have z1 : (1 : Nat) ≤ sizeLine := hz 1 (by decide)
  have z2 : (2 : Nat) ≤ sizeLine := hz 2 (by decide)
  have z3 : (3 : Nat) ≤ sizeLine := hz 3 (by decide)
  have z4 : (4 : Nat) ≤ sizeLine := hz 4 (by decide)
  have z12 : (12 : Nat) ≤ sizeLine := hz 12 (by decide)
  have z16 : (16 : Nat) ≤ sizeLine := hz 16 (by decide)
  refine runH_run.trans ?_
  show toX (r_u_law_more_kinds [.exc 1 (List.reverse ["what", "number"]) (List.reverse [one, two]), .no] S) = _
  simp only [r_u_law_more_kinds, ob_ok, ob_exc, ob_stuck, ob_ite, os_ok, os_exc, os_stuck, os_ite, st_nx, st_rt, st_bk, st_ct, st_exc, st_stuck, st_ite, so_rt, so_nx, so_exc, so_stuck, so_ite, sv_val, sb_val, sb_own, ov_some, obb_some, bl_run, rC_run, rVar_run, rBor_run, rOp_run, rDGet_run, rIx_run, raNil_run, raCons_run, rTup_run, rLst_run, rDct_run, rCell_run, rCell0_run, rCall_run, rBlt_run, rLen_run, rList_run, rTuple_run, rRepr_run, opRepr_run, negV_int, rNeg_run, rTruB_run, rTru_run, rtAnd_run, rtOr_run, rtNot_run, rIfE_run, andV_t, andV_f, rAndV_run, rOrV_run, rNotV_run, add_int, add_lst, add_tup, add_str, sub_int, mul_int, mod_int, div_int, pow_int, cmp_int, eq_run, ne_run, eqPV_int, eqPV_str, is_non, isnt_non, dget_some, dget_run, ix_lst, ix_tup, len_lst, len_tup, len_scr, list_lst, list_tup, list_scr, int_run, abs_run, seqO_some, riSeq_run, riRg1_run, rg1_run, riRg2_run, rg2_run, gnm_run, sBind_run, sSeq_run, sNext_run, sBreak_run, sCont_run, sRet_run, sRetN_run, sExpr_run, sSet_run, sIf_run, dput_some, dputAt_run, sDPut_run, sPar_run, sOwn_run, rlLst_run, appO_run, appH_run, sAppend_run, frzO_run, sFrz_run, sRaise_run, sRaise0_run, suO_nx, suO_rt, suO_ite, endTry_run, subO_t, subO_f, tryO_exc, tryO_nx, tryO_rt, tryO_ite, sTry_run, sFor_run, forL_nil, forO_nx, forO_ct, forO_bk, forO_rt, forO_ite, forL_cons, toX_rt, toX_nx, toX_ite, xisO_run, rXIs_run, xfO_run, rXF_run, okO_ok, cxO_run, rCallX_run, List.getElem?_cons_zero, List.getElem?_cons_succ, List.set_cons_zero, List.set_cons_succ, List.length_cons, List.length_nil, Option.map_some, Option.map_none, if_true, if_false, ite_true, ite_false, reduceIte, decide_true, decide_false, Bool.not_true, Bool.not_false, Bool.false_eq_true, ie_1_1, ie_2_1, ie_3_1, ie_4_1, ie_5_1, ie_6_1, ie_7_1, ie_8_1, ie_9_1, ie_10_1, ie_11_1, ie_12_1, ie_13_1, ie_14_1, ie_15_1, ie_16_1, tru_bl, fm_BadNumber_what, fm_BadNumber_number, lk_BadNumber_what, lk_BadNumber_number, h1, h2, z0, z1, z2, z3, z4, z12, z16, hy, Int.reduceEq, List.mem_cons, List.not_mem_nil, or_false, or_true, false_or, true_or, Nat.reduceAdd, List.cons_append, List.nil_append]
theorem kinds_0 {one two three : PV} {x1 x2 : Str} {S : Store} (h1 : reprPV true one = some x1) (h2 : reprPV true two = some x2) : F_u_law_kinds 1 (List.reverse ["what", "number"]) (List.reverse [one, two]) S = .ok (.lst [.tup [.str "number", one, .str x2]]) S := by
  have hz : ∀ k : Nat, k ≤ 100 → k ≤ sizeLine := fun k hk => Nat.le_trans hk (by decide)
  have hy : (0 : Nat) < sizeLine := by decide
  have z0 : (0 : Nat) ≤ sizeLine := hz 0 (by decide)
  have z1 : (1 : Nat) ≤ sizeLine := hz 1 (by decide)
  have z2 : (2 : Nat) ≤ sizeLine := hz 2 (by decide)
  have z3 : (3 : Nat) ≤ sizeLine := hz 3 (by decide)
  have z4 : (4 : Nat) ≤ sizeLine := hz 4 (by decide)
  have z12 : (12 : Nat) ≤ sizeLine := hz 12 (by decide)
  have z16 : (16 : Nat) ≤ sizeLine := hz 16 (by decide)
  have em := more_0 (three := three) (S := S) h1 h2
  refine runH_run.trans ?_
  show toX (r_u_law_kinds [.exc 1 (List.reverse ["what", "number"]) (List.reverse [one, two]), .no] S) = _
  simp only [r_u_law_kinds, ob_ok, ob_exc, ob_stuck, ob_ite, os_ok, os_exc, os_stuck, os_ite, st_nx, st_rt, st_bk, st_ct, st_exc, st_stuck, st_ite, so_rt, so_nx, so_exc, so_stuck, so_ite, sv_val, sb_val, sb_own, ov_some, obb_some, bl_run, rC_run, rVar_run, rBor_run, rOp_run, rDGet_run, rIx_run, raNil_run, raCons_run, rTup_run, rLst_run, rDct_run, rCell_run, rCell0_run, rCall_run, rBlt_run, rLen_run, rList_run, rTuple_run, rRepr_run, opRepr_run, negV_int, rNeg_run, rTruB_run, rTru_run, rtAnd_run, rtOr_run, rtNot_run, rIfE_run, andV_t, andV_f, rAndV_run, rOrV_run, rNotV_run, add_int, add_lst, add_tup, add_str, sub_int, mul_int, mod_int, div_int, pow_int, cmp_int, eq_run, ne_run, eqPV_int, eqPV_str, is_non, isnt_non, dget_some, dget_run, ix_lst, ix_tup, len_lst, len_tup, len_scr, list_lst, list_tup, list_scr, int_run, abs_run, seqO_some, riSeq_run, riRg1_run, rg1_run, riRg2_run, rg2_run, gnm_run, sBind_run, sSeq_run, sNext_run, sBreak_run, sCont_run, sRet_run, sRetN_run, sExpr_run, sSet_run, sIf_run, dput_some, dputAt_run, sDPut_run, sPar_run, sOwn_run, rlLst_run, appO_run, appH_run, sAppend_run, frzO_run, sFrz_run, sRaise_run, sRaise0_run, suO_nx, suO_rt, suO_ite, endTry_run, subO_t, subO_f, tryO_exc, tryO_nx, tryO_rt, tryO_ite, sTry_run, sFor_run, forL_nil, forO_nx, forO_ct, forO_bk, forO_rt, forO_ite, forL_cons, toX_rt, toX_nx, toX_ite, xisO_run, rXIs_run, xfO_run, rXF_run, okO_ok, cxO_run, rCallX_run, List.getElem?_cons_zero, List.getElem?_cons_succ, List.set_cons_zero, List.set_cons_succ, List.length_cons, List.length_nil, Option.map_some, Option.map_none, if_true, if_false, ite_true, ite_false, reduceIte, decide_true, decide_false, Bool.not_true, Bool.not_false, Bool.false_eq_true, ie_1_1, ie_2_1, ie_3_1, ie_4_1, ie_5_1, ie_6_1, ie_7_1, ie_8_1, ie_9_1, ie_10_1, ie_11_1, ie_12_1, ie_13_1, ie_14_1, ie_15_1, ie_16_1, tru_bl, fm_BadNumber_what, fm_BadNumber_number, lk_BadNumber_what, lk_BadNumber_number, h1, h2, z0, z1, z2, z3, z4, z12, z16, hy, Int.reduceEq, List.mem_cons, List.not_mem_nil, or_false, or_true, false_or, true_or, Nat.reduceAdd, List.cons_append, List.nil_append, em]
theorem told_0 {one two three : PV} {x1 x2 : Str} {S : Store} (h1 : reprPV true one = some x1) (h2 : reprPV true two = some x2) : F_u_law_told [.int 0, one, two, three] S = .ok (.lst [.tup [.str "number", one, .str x2]]) S := by
  have ek := kinds_0 (three := three) (S := S) h1 h2
  refine runF_run.trans ?_
  show SOut.toO (r_u_law_told [.val (.int 0), .val one, .val two, .val three, .no, .no] S) = _
  have er : F_u_law_raised [.int 0, one, two] S = .exc 1 (List.reverse ["what", "number"]) (List.reverse [one, two]) S := by
    refine runF_run.trans ?_
    show SOut.toO (r_u_law_raised [.val (.int 0), .val one, .val two] S) = _
    have l3 : (0 : Nat) ≤ 1000 ∧ (1 : Nat) ≤ 1000 ∧ (2 : Nat) ≤ 1000 ∧ (3 : Nat) ≤ 1000 := by decide
    simp only [r_u_law_raised, ob_ok, ob_exc, ob_stuck, ob_ite, os_ok, os_exc, os_stuck, os_ite, st_nx, st_rt, st_bk, st_ct, st_exc, st_stuck, st_ite, so_rt, so_nx, so_exc, so_stuck, so_ite, sv_val, sb_val, sb_own, ov_some, obb_some, bl_run, rC_run, rVar_run, rBor_run, rOp_run, rDGet_run, rIx_run, raNil_run, raCons_run, rTup_run, rLst_run, rDct_run, rCell_run, rCell0_run, rCall_run, rBlt_run, rLen_run, rList_run, rTuple_run, rRepr_run, opRepr_run, negV_int, rNeg_run, rTruB_run, rTru_run, rtAnd_run, rtOr_run, rtNot_run, rIfE_run, andV_t, andV_f, rAndV_run, rOrV_run, rNotV_run, add_int, add_lst, add_tup, add_str, sub_int, mul_int, mod_int, div_int, pow_int, cmp_int, eq_run, ne_run, eqPV_int, eqPV_str, is_non, isnt_non, dget_some, dget_run, ix_lst, ix_tup, len_lst, len_tup, len_scr, list_lst, list_tup, list_scr, int_run, abs_run, seqO_some, riSeq_run, riRg1_run, rg1_run, riRg2_run, rg2_run, gnm_run, sBind_run, sSeq_run, sNext_run, sBreak_run, sCont_run, sRet_run, sRetN_run, sExpr_run, sSet_run, sIf_run, dput_some, dputAt_run, sDPut_run, sPar_run, sOwn_run, rlLst_run, appO_run, appH_run, sAppend_run, frzO_run, sFrz_run, sRaise_run, sRaise0_run, suO_nx, suO_rt, suO_ite, endTry_run, subO_t, subO_f, tryO_exc, tryO_nx, tryO_rt, tryO_ite, sTry_run, sFor_run, forL_nil, forO_nx, forO_ct, forO_bk, forO_rt, forO_ite, forL_cons, toX_rt, toX_nx, toX_ite, xisO_run, rXIs_run, xfO_run, rXF_run, okO_ok, cxO_run, rCallX_run, List.getElem?_cons_zero, List.getElem?_cons_succ, List.set_cons_zero, List.set_cons_succ, List.length_cons, List.length_nil, Option.map_some, Option.map_none, if_true, if_false, ite_true, ite_false, reduceIte, decide_true, decide_false, Bool.not_true, Bool.not_false, Bool.false_eq_true, Int.reduceEq, List.mem_cons, List.not_mem_nil, or_false, or_true, false_or, true_or, Nat.reduceAdd, List.cons_append, List.nil_append, l3, and_self]
  have cl : ∀ a b c d e : PV, clean [.val a, .val b, .val c, .val d, .val e, .no] = true := fun _ _ _ _ _ => rfl
  simp only [r_u_law_told, ob_ok, ob_exc, ob_stuck, ob_ite, os_ok, os_exc, os_stuck, os_ite, st_nx, st_rt, st_bk, st_ct, st_exc, st_stuck, st_ite, so_rt, so_nx, so_exc, so_stuck, so_ite, sv_val, sb_val, sb_own, ov_some, obb_some, bl_run, rC_run, rVar_run, rBor_run, rOp_run, rDGet_run, rIx_run, raNil_run, raCons_run, rTup_run, rLst_run, rDct_run, rCell_run, rCell0_run, rCall_run, rBlt_run, rLen_run, rList_run, rTuple_run, rRepr_run, opRepr_run, negV_int, rNeg_run, rTruB_run, rTru_run, rtAnd_run, rtOr_run, rtNot_run, rIfE_run, andV_t, andV_f, rAndV_run, rOrV_run, rNotV_run, add_int, add_lst, add_tup, add_str, sub_int, mul_int, mod_int, div_int, pow_int, cmp_int, eq_run, ne_run, eqPV_int, eqPV_str, is_non, isnt_non, dget_some, dget_run, ix_lst, ix_tup, len_lst, len_tup, len_scr, list_lst, list_tup, list_scr, int_run, abs_run, seqO_some, riSeq_run, riRg1_run, rg1_run, riRg2_run, rg2_run, gnm_run, sBind_run, sSeq_run, sNext_run, sBreak_run, sCont_run, sRet_run, sRetN_run, sExpr_run, sSet_run, sIf_run, dput_some, dputAt_run, sDPut_run, sPar_run, sOwn_run, rlLst_run, appO_run, appH_run, sAppend_run, frzO_run, sFrz_run, sRaise_run, sRaise0_run, suO_nx, suO_rt, suO_ite, endTry_run, subO_t, subO_f, tryO_exc, tryO_nx, tryO_rt, tryO_ite, sTry_run, sFor_run, forL_nil, forO_nx, forO_ct, forO_bk, forO_rt, forO_ite, forL_cons, toX_rt, toX_nx, toX_ite, xisO_run, rXIs_run, xfO_run, rXF_run, okO_ok, cxO_run, rCallX_run, List.getElem?_cons_zero, List.getElem?_cons_succ, List.set_cons_zero, List.set_cons_succ, List.length_cons, List.length_nil, Option.map_some, Option.map_none, if_true, if_false, ite_true, ite_false, reduceIte, decide_true, decide_false, Bool.not_true, Bool.not_false, Bool.false_eq_true, Int.reduceEq, List.mem_cons, List.not_mem_nil, or_false, or_true, false_or, true_or, Nat.reduceAdd, List.cons_append, List.nil_append, er, ie_0_1, iv_1, tru_bl, ek, cl]
theorem due_0 {one two three : PV} {x1 x2 : Str} {S : Store} (h1 : reprPV true one = some x1) (h2 : reprPV true two = some x2) : F_u_law_due [.int 0, one, two, three] S = .ok (.tup [.str "number", one, .str x2]) S := by
  have hz : ∀ k : Nat, k ≤ 100 → k ≤ sizeLine := fun k hk => Nat.le_trans hk (by decide)
  have hy : (0 : Nat) < sizeLine := by decide
  have z0 : (0 : Nat) ≤ sizeLine := hz 0 (by decide)
  have z1 : (1 : Nat) ≤ sizeLine := hz 1 (by decide)
  have z2 : (2 : Nat) ≤ sizeLine := hz 2 (by decide)
  have z3 : (3 : Nat) ≤ sizeLine := hz 3 (by decide)
  have z4 : (4 : Nat) ≤ sizeLine := hz 4 (by decide)
  have z12 : (12 : Nat) ≤ sizeLine := hz 12 (by decide)
  have z16 : (16 : Nat) ≤ sizeLine := hz 16 (by decide)
  refine runF_run.trans ?_
  show SOut.toO (r_u_law_due [.val (.int 0), .val one, .val two, .val three, .no] S) = _
  simp only [r_u_law_due, ob_ok, ob_exc, ob_stuck, ob_ite, os_ok, os_exc, os_stuck, os_ite, st_nx, st_rt, st_bk, st_ct, st_exc, st_stuck, st_ite, so_rt, so_nx, so_exc, so_stuck, so_ite, sv_val, sb_val, sb_own, ov_some, obb_some, bl_run, rC_run, rVar_run, rBor_run, rOp_run, rDGet_run, rIx_run, raNil_run, raCons_run, rTup_run, rLst_run, rDct_run, rCell_run, rCell0_run, rCall_run, rBlt_run, rLen_run, rList_run, rTuple_run, rRepr_run, opRepr_run, negV_int, rNeg_run, rTruB_run, rTru_run, rtAnd_run, rtOr_run, rtNot_run, rIfE_run, andV_t, andV_f, rAndV_run, rOrV_run, rNotV_run, add_int, add_lst, add_tup, add_str, sub_int, mul_int, mod_int, div_int, pow_int, cmp_int, eq_run, ne_run, eqPV_int, eqPV_str, is_non, isnt_non, dget_some, dget_run, ix_lst, ix_tup, len_lst, len_tup, len_scr, list_lst, list_tup, list_scr, int_run, abs_run, seqO_some, riSeq_run, riRg1_run, rg1_run, riRg2_run, rg2_run, gnm_run, sBind_run, sSeq_run, sNext_run, sBreak_run, sCont_run, sRet_run, sRetN_run, sExpr_run, sSet_run, sIf_run, dput_some, dputAt_run, sDPut_run, sPar_run, sOwn_run, rlLst_run, appO_run, appH_run, sAppend_run, frzO_run, sFrz_run, sRaise_run, sRaise0_run, suO_nx, suO_rt, suO_ite, endTry_run, subO_t, subO_f, tryO_exc, tryO_nx, tryO_rt, tryO_ite, sTry_run, sFor_run, forL_nil, forO_nx, forO_ct, forO_bk, forO_rt, forO_ite, forL_cons, toX_rt, toX_nx, toX_ite, xisO_run, rXIs_run, xfO_run, rXF_run, okO_ok, cxO_run, rCallX_run, List.getElem?_cons_zero, List.getElem?_cons_succ, List.set_cons_zero, List.set_cons_succ, List.length_cons, List.length_nil, Option.map_some, Option.map_none, if_true, if_false, ite_true, ite_false, reduceIte, decide_true, decide_false, Bool.not_true, Bool.not_false, Bool.false_eq_true, in_a, in_b, in_c, in_d, Int.reduceEq, List.mem_cons, List.not_mem_nil, or_false, or_true, false_or, true_or, Nat.reduceAdd, List.cons_append, List.nil_append, aw_0, h1, h2, z0, z1, z2, z3, z4, z12, z16, hy]
theorem more_1 {one two three : PV} {x1 x2 : Str} {S : Store} (h1 : reprPV true one = some x1) (h2 : reprPV true two = some x2) : F_u_law_more_kinds 2 (List.reverse ["what", "row"]) (List.reverse [one, two]) S = .ok (.lst []) S := by
  have hz : ∀ k : Nat, k ≤ 100 → k ≤ sizeLine := fun k hk => Nat.le_trans hk (by decide)
  have hy : (0 : Nat) < sizeLine := by decide
  have z0 : (0 : Nat) ≤ sizeLine := hz 0 (by decide)
  have z1 : (1 : Nat) ≤ sizeLine := hz 1 (by decide)
  have z2 : (2 : Nat) ≤ sizeLine := hz 2 (by decide)
  have z3 : (3 : Nat) ≤ sizeLine := hz 3 (by decide)
  have z4 : (4 : Nat) ≤ sizeLine := hz 4 (by decide)
  have z12 : (12 : Nat) ≤ sizeLine := hz 12 (by decide)
  have z16 : (16 : Nat) ≤ sizeLine := hz 16 (by decide)
  refine runH_run.trans ?_
  show toX (r_u_law_more_kinds [.exc 2 (List.reverse ["what", "row"]) (List.reverse [one, two]), .no] S) = _
  simp only [r_u_law_more_kinds, ob_ok, ob_exc, ob_stuck, ob_ite, os_ok, os_exc, os_stuck, os_ite, st_nx, st_rt, st_bk, st_ct, st_exc, st_stuck, st_ite, so_rt, so_nx, so_exc, so_stuck, so_ite, sv_val, sb_val, sb_own, ov_some, obb_some, bl_run, rC_run, rVar_run, rBor_run, rOp_run, rDGet_run, rIx_run, raNil_run, raCons_run, rTup_run, rLst_run, rDct_run, rCell_run, rCell0_run, rCall_run, rBlt_run, rLen_run, rList_run, rTuple_run, rRepr_run, opRepr_run, negV_int, rNeg_run, rTruB_run, rTru_run, rtAnd_run, rtOr_run, rtNot_run, rIfE_run, andV_t, andV_f, rAndV_run, rOrV_run, rNotV_run, add_int, add_lst, add_tup, add_str, sub_int, mul_int, mod_int, div_int, pow_int, cmp_int, eq_run, ne_run, eqPV_int, eqPV_str, is_non, isnt_non, dget_some, dget_run, ix_lst, ix_tup, len_lst, len_tup, len_scr, list_lst, list_tup, list_scr, int_run, abs_run, seqO_some, riSeq_run, riRg1_run, rg1_run, riRg2_run, rg2_run, gnm_run, sBind_run, sSeq_run, sNext_run, sBreak_run, sCont_run, sRet_run, sRetN_run, sExpr_run, sSet_run, sIf_run, dput_some, dputAt_run, sDPut_run, sPar_run, sOwn_run, rlLst_run, appO_run, appH_run, sAppend_run, frzO_run, sFrz_run, sRaise_run, sRaise0_run, suO_nx, suO_rt, suO_ite, endTry_run, subO_t, subO_f, tryO_exc, tryO_nx, tryO_rt, tryO_ite, sTry_run, sFor_run, forL_nil, forO_nx, forO_ct, forO_bk, forO_rt, forO_ite, forL_cons, toX_rt, toX_nx, toX_ite, xisO_run, rXIs_run, xfO_run, rXF_run, okO_ok, cxO_run, rCallX_run, List.getElem?_cons_zero, List.getElem?_cons_succ, List.set_cons_zero, List.set_cons_succ, List.length_cons, List.length_nil, Option.map_some, Option.map_none, if_true, if_false, ite_true, ite_false, reduceIte, decide_true, decide_false, Bool.not_true, Bool.not_false, Bool.false_eq_true, ie_1_2, ie_2_2, ie_3_2, ie_4_2, ie_5_2, ie_6_2, ie_7_2, ie_8_2, ie_9_2, ie_10_2, ie_11_2, ie_12_2, ie_13_2, ie_14_2, ie_15_2, ie_16_2, tru_bl, fm_BadRow_what, fm_BadRow_row, lk_BadRow_what, lk_BadRow_row, h1, h2, z0, z1, z2, z3, z4, z12, z16, hy, Int.reduceEq, List.mem_cons, List.not_mem_nil, or_false, or_true, false_or, true_or, Nat.reduceAdd, List.cons_append, List.nil_append]
theorem kinds_1 {one two three : PV} {x1 x2 : Str} {S : Store} (h1 : reprPV true one = some x1) (h2 : reprPV true two = some x2) : F_u_law_kinds 2 (List.reverse ["what", "row"]) (List.reverse [one, two]) S = .ok (.lst [.tup [.str "row", one, .str x2]]) S := by
  have hz : ∀ k : Nat, k ≤ 100 → k ≤ sizeLine := fun k hk => Nat.le_trans hk (by decide)
  have hy : (0 : Nat) < sizeLine := by decide
  have z0 : (0 : Nat) ≤ sizeLine := hz 0 (by decide)
  have z1 : (1 : Nat) ≤ sizeLine := hz 1 (by decide)
  have z2 : (2 : Nat) ≤ sizeLine := hz 2 (by decide)
  have z3 : (3 : Nat) ≤ sizeLine := hz 3 (by decide)
  have z4 : (4 : Nat) ≤ sizeLine := hz 4 (by decide)
  have z12 : (12 : Nat) ≤ sizeLine := hz 12 (by decide)
  have z16 : (16 : Nat) ≤ sizeLine := hz 16 (by decide)
  have em := more_1 (three := three) (S := S) h1 h2
  refine runH_run.trans ?_
  show toX (r_u_law_kinds [.exc 2 (List.reverse ["what", "row"]) (List.reverse [one, two]), .no] S) = _
  simp only [r_u_law_kinds, ob_ok, ob_exc, ob_stuck, ob_ite, os_ok, os_exc, os_stuck, os_ite, st_nx, st_rt, st_bk, st_ct, st_exc, st_stuck, st_ite, so_rt, so_nx, so_exc, so_stuck, so_ite, sv_val, sb_val, sb_own, ov_some, obb_some, bl_run, rC_run, rVar_run, rBor_run, rOp_run, rDGet_run, rIx_run, raNil_run, raCons_run, rTup_run, rLst_run, rDct_run, rCell_run, rCell0_run, rCall_run, rBlt_run, rLen_run, rList_run, rTuple_run, rRepr_run, opRepr_run, negV_int, rNeg_run, rTruB_run, rTru_run, rtAnd_run, rtOr_run, rtNot_run, rIfE_run, andV_t, andV_f, rAndV_run, rOrV_run, rNotV_run, add_int, add_lst, add_tup, add_str, sub_int, mul_int, mod_int, div_int, pow_int, cmp_int, eq_run, ne_run, eqPV_int, eqPV_str, is_non, isnt_non, dget_some, dget_run, ix_lst, ix_tup, len_lst, len_tup, len_scr, list_lst, list_tup, list_scr, int_run, abs_run, seqO_some, riSeq_run, riRg1_run, rg1_run, riRg2_run, rg2_run, gnm_run, sBind_run, sSeq_run, sNext_run, sBreak_run, sCont_run, sRet_run, sRetN_run, sExpr_run, sSet_run, sIf_run, dput_some, dputAt_run, sDPut_run, sPar_run, sOwn_run, rlLst_run, appO_run, appH_run, sAppend_run, frzO_run, sFrz_run, sRaise_run, sRaise0_run, suO_nx, suO_rt, suO_ite, endTry_run, subO_t, subO_f, tryO_exc, tryO_nx, tryO_rt, tryO_ite, sTry_run, sFor_run, forL_nil, forO_nx, forO_ct, forO_bk, forO_rt, forO_ite, forL_cons, toX_rt, toX_nx, toX_ite, xisO_run, rXIs_run, xfO_run, rXF_run, okO_ok, cxO_run, rCallX_run, List.getElem?_cons_zero, List.getElem?_cons_succ, List.set_cons_zero, List.set_cons_succ, List.length_cons, List.length_nil, Option.map_some, Option.map_none, if_true, if_false, ite_true, ite_false, reduceIte, decide_true, decide_false, Bool.not_true, Bool.not_false, Bool.false_eq_true, ie_1_2, ie_2_2, ie_3_2, ie_4_2, ie_5_2, ie_6_2, ie_7_2, ie_8_2, ie_9_2, ie_10_2, ie_11_2, ie_12_2, ie_13_2, ie_14_2, ie_15_2, ie_16_2, tru_bl, fm_BadRow_what, fm_BadRow_row, lk_BadRow_what, lk_BadRow_row, h1, h2, z0, z1, z2, z3, z4, z12, z16, hy, Int.reduceEq, List.mem_cons, List.not_mem_nil, or_false, or_true, false_or, true_or, Nat.reduceAdd, List.cons_append, List.nil_append, em]
theorem told_1 {one two three : PV} {x1 x2 : Str} {S : Store} (h1 : reprPV true one = some x1) (h2 : reprPV true two = some x2) : F_u_law_told [.int 1, one, two, three] S = .ok (.lst [.tup [.str "row", one, .str x2]]) S := by
  have ek := kinds_1 (three := three) (S := S) h1 h2
  refine runF_run.trans ?_
  show SOut.toO (r_u_law_told [.val (.int 1), .val one, .val two, .val three, .no, .no] S) = _
  have er : F_u_law_raised [.int 1, one, two] S = .exc 2 (List.reverse ["what", "row"]) (List.reverse [one, two]) S := by
    refine runF_run.trans ?_
    show SOut.toO (r_u_law_raised [.val (.int 1), .val one, .val two] S) = _
    have l3 : (0 : Nat) ≤ 1000 ∧ (1 : Nat) ≤ 1000 ∧ (2 : Nat) ≤ 1000 ∧ (3 : Nat) ≤ 1000 := by decide
    simp only [r_u_law_raised, ob_ok, ob_exc, ob_stuck, ob_ite, os_ok, os_exc, os_stuck, os_ite, st_nx, st_rt, st_bk, st_ct, st_exc, st_stuck, st_ite, so_rt, so_nx, so_exc, so_stuck, so_ite, sv_val, sb_val, sb_own, ov_some, obb_some, bl_run, rC_run, rVar_run, rBor_run, rOp_run, rDGet_run, rIx_run, raNil_run, raCons_run, rTup_run, rLst_run, rDct_run, rCell_run, rCell0_run, rCall_run, rBlt_run, rLen_run, rList_run, rTuple_run, rRepr_run, opRepr_run, negV_int, rNeg_run, rTruB_run, rTru_run, rtAnd_run, rtOr_run, rtNot_run, rIfE_run, andV_t, andV_f, rAndV_run, rOrV_run, rNotV_run, add_int, add_lst, add_tup, add_str, sub_int, mul_int, mod_int, div_int, pow_int, cmp_int, eq_run, ne_run, eqPV_int, eqPV_str, is_non, isnt_non, dget_some, dget_run, ix_lst, ix_tup, len_lst, len_tup, len_scr, list_lst, list_tup, list_scr, int_run, abs_run, seqO_some, riSeq_run, riRg1_run, rg1_run, riRg2_run, rg2_run, gnm_run, sBind_run, sSeq_run, sNext_run, sBreak_run, sCont_run, sRet_run, sRetN_run, sExpr_run, sSet_run, sIf_run, dput_some, dputAt_run, sDPut_run, sPar_run, sOwn_run, rlLst_run, appO_run, appH_run, sAppend_run, frzO_run, sFrz_run, sRaise_run, sRaise0_run, suO_nx, suO_rt, suO_ite, endTry_run, subO_t, subO_f, tryO_exc, tryO_nx, tryO_rt, tryO_ite, sTry_run, sFor_run, forL_nil, forO_nx, forO_ct, forO_bk, forO_rt, forO_ite, forL_cons, toX_rt, toX_nx, toX_ite, xisO_run, rXIs_run, xfO_run, rXF_run, okO_ok, cxO_run, rCallX_run, List.getElem?_cons_zero, List.getElem?_cons_succ, List.set_cons_zero, List.set_cons_succ, List.length_cons, List.length_nil, Option.map_some, Option.map_none, if_true, if_false, ite_true, ite_false, reduceIte, decide_true, decide_false, Bool.not_true, Bool.not_false, Bool.false_eq_true, Int.reduceEq, List.mem_cons, List.not_mem_nil, or_false, or_true, false_or, true_or, Nat.reduceAdd, List.cons_append, List.nil_append, l3, and_self]
  have cl : ∀ a b c d e : PV, clean [.val a, .val b, .val c, .val d, .val e, .no] = true := fun _ _ _ _ _ => rfl
  simp only [r_u_law_told, ob_ok, ob_exc, ob_stuck, ob_ite, os_ok, os_exc, os_stuck, os_ite, st_nx, st_rt, st_bk, st_ct, st_exc, st_stuck, st_ite, so_rt, so_nx, so_exc, so_stuck, so_ite, sv_val, sb_val, sb_own, ov_some, obb_some, bl_run, rC_run, rVar_run, rBor_run, rOp_run, rDGet_run, rIx_run, raNil_run, raCons_run, rTup_run, rLst_run, rDct_run, rCell_run, rCell0_run, rCall_run, rBlt_run, rLen_run, rList_run, rTuple_run, rRepr_run, opRepr_run, negV_int, rNeg_run, rTruB_run, rTru_run, rtAnd_run, rtOr_run, rtNot_run, rIfE_run, andV_t, andV_f, rAndV_run, rOrV_run, rNotV_run, add_int, add_lst, add_tup, add_str, sub_int, mul_int, mod_int, div_int, pow_int, cmp_int, eq_run, ne_run, eqPV_int, eqPV_str, is_non, isnt_non, dget_some, dget_run, ix_lst, ix_tup, len_lst, len_tup, len_scr, list_lst, list_tup, list_scr, int_run, abs_run, seqO_some, riSeq_run, riRg1_run, rg1_run, riRg2_run, rg2_run, gnm_run, sBind_run, sSeq_run, sNext_run, sBreak_run, sCont_run, sRet_run, sRetN_run, sExpr_run, sSet_run, sIf_run, dput_some, dputAt_run, sDPut_run, sPar_run, sOwn_run, rlLst_run, appO_run, appH_run, sAppend_run, frzO_run, sFrz_run, sRaise_run, sRaise0_run, suO_nx, suO_rt, suO_ite, endTry_run, subO_t, subO_f, tryO_exc, tryO_nx, tryO_rt, tryO_ite, sTry_run, sFor_run, forL_nil, forO_nx, forO_ct, forO_bk, forO_rt, forO_ite, forL_cons, toX_rt, toX_nx, toX_ite, xisO_run, rXIs_run, xfO_run, rXF_run, okO_ok, cxO_run, rCallX_run, List.getElem?_cons_zero, List.getElem?_cons_succ, List.set_cons_zero, List.set_cons_succ, List.length_cons, List.length_nil, Option.map_some, Option.map_none, if_true, if_false, ite_true, ite_false, reduceIte, decide_true, decide_false, Bool.not_true, Bool.not_false, Bool.false_eq_true, Int.reduceEq, List.mem_cons, List.not_mem_nil, or_false, or_true, false_or, true_or, Nat.reduceAdd, List.cons_append, List.nil_append, er, ie_0_2, iv_2, tru_bl, ek, cl]
theorem due_1 {one two three : PV} {x1 x2 : Str} {S : Store} (h1 : reprPV true one = some x1) (h2 : reprPV true two = some x2) : F_u_law_due [.int 1, one, two, three] S = .ok (.tup [.str "row", one, .str x2]) S := by
  have hz : ∀ k : Nat, k ≤ 100 → k ≤ sizeLine := fun k hk => Nat.le_trans hk (by decide)
  have hy : (0 : Nat) < sizeLine := by decide
  have z0 : (0 : Nat) ≤ sizeLine := hz 0 (by decide)
  have z1 : (1 : Nat) ≤ sizeLine := hz 1 (by decide)
  have z2 : (2 : Nat) ≤ sizeLine := hz 2 (by decide)
  have z3 : (3 : Nat) ≤ sizeLine := hz 3 (by decide)
  have z4 : (4 : Nat) ≤ sizeLine := hz 4 (by decide)
  have z12 : (12 : Nat) ≤ sizeLine := hz 12 (by decide)
  have z16 : (16 : Nat) ≤ sizeLine := hz 16 (by decide)
  refine runF_run.trans ?_
  show SOut.toO (r_u_law_due [.val (.int 1), .val one, .val two, .val three, .no] S) = _
  simp only [r_u_law_due, ob_ok, ob_exc, ob_stuck, ob_ite, os_ok, os_exc, os_stuck, os_ite, st_nx, st_rt, st_bk, st_ct, st_exc, st_stuck, st_ite, so_rt, so_nx, so_exc, so_stuck, so_ite, sv_val, sb_val, sb_own, ov_some, obb_some, bl_run, rC_run, rVar_run, rBor_run, rOp_run, rDGet_run, rIx_run, raNil_run, raCons_run, rTup_run, rLst_run, rDct_run, rCell_run, rCell0_run, rCall_run, rBlt_run, rLen_run, rList_run, rTuple_run, rRepr_run, opRepr_run, negV_int, rNeg_run, rTruB_run, rTru_run, rtAnd_run, rtOr_run, rtNot_run, rIfE_run, andV_t, andV_f, rAndV_run, rOrV_run, rNotV_run, add_int, add_lst, add_tup, add_str, sub_int, mul_int, mod_int, div_int, pow_int, cmp_int, eq_run, ne_run, eqPV_int, eqPV_str, is_non, isnt_non, dget_some, dget_run, ix_lst, ix_tup, len_lst, len_tup, len_scr, list_lst, list_tup, list_scr, int_run, abs_run, seqO_some, riSeq_run, riRg1_run, rg1_run, riRg2_run, rg2_run, gnm_run, sBind_run, sSeq_run, sNext_run, sBreak_run, sCont_run, sRet_run, sRetN_run, sExpr_run, sSet_run, sIf_run, dput_some, dputAt_run, sDPut_run, sPar_run, sOwn_run, rlLst_run, appO_run, appH_run, sAppend_run, frzO_run, sFrz_run, sRaise_run, sRaise0_run, suO_nx, suO_rt, suO_ite, endTry_run, subO_t, subO_f, tryO_exc, tryO_nx, tryO_rt, tryO_ite, sTry_run, sFor_run, forL_nil, forO_nx, forO_ct, forO_bk, forO_rt, forO_ite, forL_cons, toX_rt, toX_nx, toX_ite, xisO_run, rXIs_run, xfO_run, rXF_run, okO_ok, cxO_run, rCallX_run, List.getElem?_cons_zero, List.getElem?_cons_succ, List.set_cons_zero, List.set_cons_succ, List.length_cons, List.length_nil, Option.map_some, Option.map_none, if_true, if_false, ite_true, ite_false, reduceIte, decide_true, decide_false, Bool.not_true, Bool.not_false, Bool.false_eq_true, in_a, in_b, in_c, in_d, Int.reduceEq, List.mem_cons, List.not_mem_nil, or_false, or_true, false_or, true_or, Nat.reduceAdd, List.cons_append, List.nil_append, aw_1, h1, h2, z0, z1, z2, z3, z4, z12, z16, hy]
theorem more_2 {one two three : PV} {x1 x2 : Str} {S : Store} (h1 : reprPV true one = some x1) (h2 : reprPV true two = some x2) : F_u_law_more_kinds 3 (List.reverse ["what"]) (List.reverse [one]) S = .ok (.lst []) S := by
  have hz : ∀ k : Nat, k ≤ 100 → k ≤ sizeLine := fun k hk => Nat.le_trans hk (by decide)
  have hy : (0 : Nat) < sizeLine := by decide
  have z0 : (0 : Nat) ≤ sizeLine := hz 0 (by decide)
  have z1 : (1 : Nat) ≤ sizeLine := hz 1 (by decide)
  have z2 : (2 : Nat) ≤ sizeLine := hz 2 (by decide)
  have z3 : (3 : Nat) ≤ sizeLine := hz 3 (by decide)
  have z4 : (4 : Nat) ≤ sizeLine := hz 4 (by decide)
  have z12 : (12 : Nat) ≤ sizeLine := hz 12 (by decide)
  have z16 : (16 : Nat) ≤ sizeLine := hz 16 (by decide)
  refine runH_run.trans ?_
  show toX (r_u_law_more_kinds [.exc 3 (List.reverse ["what"]) (List.reverse [one]), .no] S) = _
  simp only [r_u_law_more_kinds, ob_ok, ob_exc, ob_stuck, ob_ite, os_ok, os_exc, os_stuck, os_ite, st_nx, st_rt, st_bk, st_ct, st_exc, st_stuck, st_ite, so_rt, so_nx, so_exc, so_stuck, so_ite, sv_val, sb_val, sb_own, ov_some, obb_some, bl_run, rC_run, rVar_run, rBor_run, rOp_run, rDGet_run, rIx_run, raNil_run, raCons_run, rTup_run, rLst_run, rDct_run, rCell_run, rCell0_run, rCall_run, rBlt_run, rLen_run, rList_run, rTuple_run, rRepr_run, opRepr_run, negV_int, rNeg_run, rTruB_run, rTru_run, rtAnd_run, rtOr_run, rtNot_run, rIfE_run, andV_t, andV_f, rAndV_run, rOrV_run, rNotV_run, add_int, add_lst, add_tup, add_str, sub_int, mul_int, mod_int, div_int, pow_int, cmp_int, eq_run, ne_run, eqPV_int, eqPV_str, is_non, isnt_non, dget_some, dget_run, ix_lst, ix_tup, len_lst, len_tup, len_scr, list_lst, list_tup, list_scr, int_run, abs_run, seqO_some, riSeq_run, riRg1_run, rg1_run, riRg2_run, rg2_run, gnm_run, sBind_run, sSeq_run, sNext_run, sBreak_run, sCont_run, sRet_run, sRetN_run, sExpr_run, sSet_run, sIf_run, dput_some, dputAt_run, sDPut_run, sPar_run, sOwn_run, rlLst_run, appO_run, appH_run, sAppend_run, frzO_run, sFrz_run, sRaise_run, sRaise0_run, suO_nx, suO_rt, suO_ite, endTry_run, subO_t, subO_f, tryO_exc, tryO_nx, tryO_rt, tryO_ite, sTry_run, sFor_run, forL_nil, forO_nx, forO_ct, forO_bk, forO_rt, forO_ite, forL_cons, toX_rt, toX_nx, toX_ite, xisO_run, rXIs_run, xfO_run, rXF_run, okO_ok, cxO_run, rCallX_run, List.getElem?_cons_zero, List.getElem?_cons_succ, List.set_cons_zero, List.set_cons_succ, List.length_cons, List.length_nil, Option.map_some, Option.map_none, if_true, if_false, ite_true, ite_false, reduceIte, decide_true, decide_false, Bool.not_true, Bool.not_false, Bool.false_eq_true, ie_1_3, ie_2_3, ie_3_3, ie_4_3, ie_5_3, ie_6_3, ie_7_3, ie_8_3, ie_9_3, ie_10_3, ie_11_3, ie_12_3, ie_13_3, ie_14_3, ie_15_3, ie_16_3, tru_bl, fm_BadTable_what, lk_BadTable_what, h1, h2, z0, z1, z2, z3, z4, z12, z16, hy, Int.reduceEq, List.mem_cons, List.not_mem_nil, or_false, or_true, false_or, true_or, Nat.reduceAdd, List.cons_append, List.nil_append]
theorem kinds_2 {one two three : PV} {x1 x2 : Str} {S : Store} (h1 : reprPV true one = some x1) (h2 : reprPV true two = some x2) : F_u_law_kinds 3 (List.reverse ["what"]) (List.reverse [one]) S = .ok (.lst [.tup [.str "table", one]]) S := by
  have hz : ∀ k : Nat, k ≤ 100 → k ≤ sizeLine := fun k hk => Nat.le_trans hk (by decide)
  have hy : (0 : Nat) < sizeLine := by decide
  have z0 : (0 : Nat) ≤ sizeLine := hz 0 (by decide)
  have z1 : (1 : Nat) ≤ sizeLine := hz 1 (by decide)
  have z2 : (2 : Nat) ≤ sizeLine := hz 2 (by decide)
  have z3 : (3 : Nat) ≤ sizeLine := hz 3 (by decide)
  have z4 : (4 : Nat) ≤ sizeLine := hz 4 (by decide)
  have z12 : (12 : Nat) ≤ sizeLine := hz 12 (by decide)
  have z16 : (16 : Nat) ≤ sizeLine := hz 16 (by decide)
  have em := more_2 (three := three) (S := S) h1 h2
  refine runH_run.trans ?_
  show toX (r_u_law_kinds [.exc 3 (List.reverse ["what"]) (List.reverse [one]), .no] S) = _
  simp only [r_u_law_kinds, ob_ok, ob_exc, ob_stuck, ob_ite, os_ok, os_exc, os_stuck, os_ite, st_nx, st_rt, st_bk, st_ct, st_exc, st_stuck, st_ite, so_rt, so_nx, so_exc, so_stuck, so_ite, sv_val, sb_val, sb_own, ov_some, obb_some, bl_run, rC_run, rVar_run, rBor_run, rOp_run, rDGet_run, rIx_run, raNil_run, raCons_run, rTup_run, rLst_run, rDct_run, rCell_run, rCell0_run, rCall_run, rBlt_run, rLen_run, rList_run, rTuple_run, rRepr_run, opRepr_run, negV_int, rNeg_run, rTruB_run, rTru_run, rtAnd_run, rtOr_run, rtNot_run, rIfE_run, andV_t, andV_f, rAndV_run, rOrV_run, rNotV_run, add_int, add_lst, add_tup, add_str, sub_int, mul_int, mod_int, div_int, pow_int, cmp_int, eq_run, ne_run, eqPV_int, eqPV_str, is_non, isnt_non, dget_some, dget_run, ix_lst, ix_tup, len_lst, len_tup, len_scr, list_lst, list_tup, list_scr, int_run, abs_run, seqO_some, riSeq_run, riRg1_run, rg1_run, riRg2_run, rg2_run, gnm_run, sBind_run, sSeq_run, sNext_run, sBreak_run, sCont_run, sRet_run, sRetN_run, sExpr_run, sSet_run, sIf_run, dput_some, dputAt_run, sDPut_run, sPar_run, sOwn_run, rlLst_run, appO_run, appH_run, sAppend_run, frzO_run, sFrz_run, sRaise_run, sRaise0_run, suO_nx, suO_rt, suO_ite, endTry_run, subO_t, subO_f, tryO_exc, tryO_nx, tryO_rt, tryO_ite, sTry_run, sFor_run, forL_nil, forO_nx, forO_ct, forO_bk, forO_rt, forO_ite, forL_cons, toX_rt, toX_nx, toX_ite, xisO_run, rXIs_run, xfO_run, rXF_run, okO_ok, cxO_run, rCallX_run, List.getElem?_cons_zero, List.getElem?_cons_succ, List.set_cons_zero, List.set_cons_succ, List.length_cons, List.length_nil, Option.map_some, Option.map_none, if_true, if_false, ite_true, ite_false, reduceIte, decide_true, decide_false, Bool.not_true, Bool.not_false, Bool.false_eq_true, ie_1_3, ie_2_3, ie_3_3, ie_4_3, ie_5_3, ie_6_3, ie_7_3, ie_8_3, ie_9_3, ie_10_3, ie_11_3, ie_12_3, ie_13_3, ie_14_3, ie_15_3, ie_16_3, tru_bl, fm_BadTable_what, lk_BadTable_what, h1, h2, z0, z1, z2, z3, z4, z12, z16, hy, Int.reduceEq, List.mem_cons, List.not_mem_nil, or_false, or_true, false_or, true_or, Nat.reduceAdd, List.cons_append, List.nil_append, em]
theorem told_2 {one two three : PV} {x1 x2 : Str} {S : Store} (h1 : reprPV true one = some x1) (h2 : reprPV true two = some x2) : F_u_law_told [.int 2, one, two, three] S = .ok (.lst [.tup [.str "table", one]]) S := by
  have ek := kinds_2 (three := three) (S := S) h1 h2
  refine runF_run.trans ?_
  show SOut.toO (r_u_law_told [.val (.int 2), .val one, .val two, .val three, .no, .no] S) = _
  have er : F_u_law_raised [.int 2, one, two] S = .exc 3 (List.reverse ["what"]) (List.reverse [one]) S := by
    refine runF_run.trans ?_
    show SOut.toO (r_u_law_raised [.val (.int 2), .val one, .val two] S) = _
    have l3 : (0 : Nat) ≤ 1000 ∧ (1 : Nat) ≤ 1000 ∧ (2 : Nat) ≤ 1000 ∧ (3 : Nat) ≤ 1000 := by decide
    simp only [r_u_law_raised, ob_ok, ob_exc, ob_stuck, ob_ite, os_ok, os_exc, os_stuck, os_ite, st_nx, st_rt, st_bk, st_ct, st_exc, st_stuck, st_ite, so_rt, so_nx, so_exc, so_stuck, so_ite, sv_val, sb_val, sb_own, ov_some, obb_some, bl_run, rC_run, rVar_run, rBor_run, rOp_run, rDGet_run, rIx_run, raNil_run, raCons_run, rTup_run, rLst_run, rDct_run, rCell_run, rCell0_run, rCall_run, rBlt_run, rLen_run, rList_run, rTuple_run, rRepr_run, opRepr_run, negV_int, rNeg_run, rTruB_run, rTru_run, rtAnd_run, rtOr_run, rtNot_run, rIfE_run, andV_t, andV_f, rAndV_run, rOrV_run, rNotV_run, add_int, add_lst, add_tup, add_str, sub_int, mul_int, mod_int, div_int, pow_int, cmp_int, eq_run, ne_run, eqPV_int, eqPV_str, is_non, isnt_non, dget_some, dget_run, ix_lst, ix_tup, len_lst, len_tup, len_scr, list_lst, list_tup, list_scr, int_run, abs_run, seqO_some, riSeq_run, riRg1_run, rg1_run, riRg2_run, rg2_run, gnm_run, sBind_run, sSeq_run, sNext_run, sBreak_run, sCont_run, sRet_run, sRetN_run, sExpr_run, sSet_run, sIf_run, dput_some, dputAt_run, sDPut_run, sPar_run, sOwn_run, rlLst_run, appO_run, appH_run, sAppend_run, frzO_run, sFrz_run, sRaise_run, sRaise0_run, suO_nx, suO_rt, suO_ite, endTry_run, subO_t, subO_f, tryO_exc, tryO_nx, tryO_rt, tryO_ite, sTry_run, sFor_run, forL_nil, forO_nx, forO_ct, forO_bk, forO_rt, forO_ite, forL_cons, toX_rt, toX_nx, toX_ite, xisO_run, rXIs_run, xfO_run, rXF_run, okO_ok, cxO_run, rCallX_run, List.getElem?_cons_zero, List.getElem?_cons_succ, List.set_cons_zero, List.set_cons_succ, List.length_cons, List.length_nil, Option.map_some, Option.map_none, if_true, if_false, ite_true, ite_false, reduceIte, decide_true, decide_false, Bool.not_true, Bool.not_false, Bool.false_eq_true, Int.reduceEq, List.mem_cons, List.not_mem_nil, or_false, or_true, false_or, true_or, Nat.reduceAdd, List.cons_append, List.nil_append, l3, and_self]
  have cl : ∀ a b c d e : PV, clean [.val a, .val b, .val c, .val d, .val e, .no] = true := fun _ _ _ _ _ => rfl
  simp only [r_u_law_told, ob_ok, ob_exc, ob_stuck, ob_ite, os_ok, os_exc, os_stuck, os_ite, st_nx, st_rt, st_bk, st_ct, st_exc, st_stuck, st_ite, so_rt, so_nx, so_exc, so_stuck, so_ite, sv_val, sb_val, sb_own, ov_some, obb_some, bl_run, rC_run, rVar_run, rBor_run, rOp_run, rDGet_run, rIx_run, raNil_run, raCons_run, rTup_run, rLst_run, rDct_run, rCell_run, rCell0_run, rCall_run, rBlt_run, rLen_run, rList_run, rTuple_run, rRepr_run, opRepr_run, negV_int, rNeg_run, rTruB_run, rTru_run, rtAnd_run, rtOr_run, rtNot_run, rIfE_run, andV_t, andV_f, rAndV_run, rOrV_run, rNotV_run, add_int, add_lst, add_tup, add_str, sub_int, mul_int, mod_int, div_int, pow_int, cmp_int, eq_run, ne_run, eqPV_int, eqPV_str, is_non, isnt_non, dget_some, dget_run, ix_lst, ix_tup, len_lst, len_tup, len_scr, list_lst, list_tup, list_scr, int_run, abs_run, seqO_some, riSeq_run, riRg1_run, rg1_run, riRg2_run, rg2_run, gnm_run, sBind_run, sSeq_run, sNext_run, sBreak_run, sCont_run, sRet_run, sRetN_run, sExpr_run, sSet_run, sIf_run, dput_some, dputAt_run, sDPut_run, sPar_run, sOwn_run, rlLst_run, appO_run, appH_run, sAppend_run, frzO_run, sFrz_run, sRaise_run, sRaise0_run, suO_nx, suO_rt, suO_ite, endTry_run, subO_t, subO_f, tryO_exc, tryO_nx, tryO_rt, tryO_ite, sTry_run, sFor_run, forL_nil, forO_nx, forO_ct, forO_bk, forO_rt, forO_ite, forL_cons, toX_rt, toX_nx, toX_ite, xisO_run, rXIs_run, xfO_run, rXF_run, okO_ok, cxO_run, rCallX_run, List.getElem?_cons_zero, List.getElem?_cons_succ, List.set_cons_zero, List.set_cons_succ, List.length_cons, List.length_nil, Option.map_some, Option.map_none, if_true, if_false, ite_true, ite_false, reduceIte, decide_true, decide_false, Bool.not_true, Bool.not_false, Bool.false_eq_true, Int.reduceEq, List.mem_cons, List.not_mem_nil, or_false, or_true, false_or, true_or, Nat.reduceAdd, List.cons_append, List.nil_append, er, ie_0_3, iv_3, tru_bl, ek, cl]
theorem due_2 {one two three : PV} {x1 x2 : Str} {S : Store} (h1 : reprPV true one = some x1) (h2 : reprPV true two = some x2) : F_u_law_due [.int 2, one, two, three] S = .ok (.tup [.str "table", one]) S := by
  have hz : ∀ k : Nat, k ≤ 100 → k ≤ sizeLine := fun k hk => Nat.le_trans hk (by decide)
  have hy : (0 : Nat) < sizeLine := by decide
  have z0 : (0 : Nat) ≤ sizeLine := hz 0 (by decide)
  have z1 : (1 : Nat) ≤ sizeLine := hz 1 (by decide)
  have z2 : (2 : Nat) ≤ sizeLine := hz 2 (by decide)
  have z3 : (3 : Nat) ≤ sizeLine := hz 3 (by decide)
  have z4 : (4 : Nat) ≤ sizeLine := hz 4 (by decide)
  have z12 : (12 : Nat) ≤ sizeLine := hz 12 (by decide)
  have z16 : (16 : Nat) ≤ sizeLine := hz 16 (by decide)
  refine runF_run.trans ?_
  show SOut.toO (r_u_law_due [.val (.int 2), .val one, .val two, .val three, .no] S) = _
  simp only [r_u_law_due, ob_ok, ob_exc, ob_stuck, ob_ite, os_ok, os_exc, os_stuck, os_ite, st_nx, st_rt, st_bk, st_ct, st_exc, st_stuck, st_ite, so_rt, so_nx, so_exc, so_stuck, so_ite, sv_val, sb_val, sb_own, ov_some, obb_some, bl_run, rC_run, rVar_run, rBor_run, rOp_run, rDGet_run, rIx_run, raNil_run, raCons_run, rTup_run, rLst_run, rDct_run, rCell_run, rCell0_run, rCall_run, rBlt_run, rLen_run, rList_run, rTuple_run, rRepr_run, opRepr_run, negV_int, rNeg_run, rTruB_run, rTru_run, rtAnd_run, rtOr_run, rtNot_run, rIfE_run, andV_t, andV_f, rAndV_run, rOrV_run, rNotV_run, add_int, add_lst, add_tup, add_str, sub_int, mul_int, mod_int, div_int, pow_int, cmp_int, eq_run, ne_run, eqPV_int, eqPV_str, is_non, isnt_non, dget_some, dget_run, ix_lst, ix_tup, len_lst, len_tup, len_scr, list_lst, list_tup, list_scr, int_run, abs_run, seqO_some, riSeq_run, riRg1_run, rg1_run, riRg2_run, rg2_run, gnm_run, sBind_run, sSeq_run, sNext_run, sBreak_run, sCont_run, sRet_run, sRetN_run, sExpr_run, sSet_run, sIf_run, dput_some, dputAt_run, sDPut_run, sPar_run, sOwn_run, rlLst_run, appO_run, appH_run, sAppend_run, frzO_run, sFrz_run, sRaise_run, sRaise0_run, suO_nx, suO_rt, suO_ite, endTry_run, subO_t, subO_f, tryO_exc, tryO_nx, tryO_rt, tryO_ite, sTry_run, sFor_run, forL_nil, forO_nx, forO_ct, forO_bk, forO_rt, forO_ite, forL_cons, toX_rt, toX_nx, toX_ite, xisO_run, rXIs_run, xfO_run, rXF_run, okO_ok, cxO_run, rCallX_run, List.getElem?_cons_zero, List.getElem?_cons_succ, List.set_cons_zero, List.set_cons_succ, List.length_cons, List.length_nil, Option.map_some, Option.map_none, if_true, if_false, ite_true, ite_false, reduceIte, decide_true, decide_false, Bool.not_true, Bool.not_false, Bool.false_eq_true, in_a, in_b, in_c, in_d, Int.reduceEq, List.mem_cons, List.not_mem_nil, or_false, or_true, false_or, true_or, Nat.reduceAdd, List.cons_append, List.nil_append, aw_2, h1, h2, z0, z1, z2, z3, z4, z12, z16, hy]
theorem more_3 {one two three : PV} {x1 x2 : Str} {S : Store} (h1 : reprPV true one = some x1) (h2 : reprPV true two = some x2) : F_u_law_more_kinds 4 (List.reverse ["what"]) (List.reverse [one]) S = .ok (.lst []) S := by
  have hz : ∀ k : Nat, k ≤ 100 → k ≤ sizeLine := fun k hk => Nat.le_trans hk (by decide)
  have hy : (0 : Nat) < sizeLine := by decide
  have z0 : (0 : Nat) ≤ sizeLine := hz 0 (by decide)
  have z1 : (1 : Nat) ≤ sizeLine := hz 1 (by decide)
  have z2 : (2 : Nat) ≤ sizeLine := hz 2 (by decide)
  have z3 : (3 : Nat) ≤ sizeLine := hz 3 (by decide)
  have z4 : (4 : Nat) ≤ sizeLine := hz 4 (by decide)
  have z12 : (12 : Nat) ≤ sizeLine := hz 12 (by decide)
  have z16 : (16 : Nat) ≤ sizeLine := hz 16 (by decide)
  refine runH_run.trans ?_
  show toX (r_u_law_more_kinds [.exc 4 (List.reverse ["what"]) (List.reverse [one]), .no] S) = _
  simp only [r_u_law_more_kinds, ob_ok, ob_exc, ob_stuck, ob_ite, os_ok, os_exc, os_stuck, os_ite, st_nx, st_rt, st_bk, st_ct, st_exc, st_stuck, st_ite, so_rt, so_nx, so_exc, so_stuck, so_ite, sv_val, sb_val, sb_own, ov_some, obb_some, bl_run, rC_run, rVar_run, rBor_run, rOp_run, rDGet_run, rIx_run, raNil_run, raCons_run, rTup_run, rLst_run, rDct_run, rCell_run, rCell0_run, rCall_run, rBlt_run, rLen_run, rList_run, rTuple_run, rRepr_run, opRepr_run, negV_int, rNeg_run, rTruB_run, rTru_run, rtAnd_run, rtOr_run, rtNot_run, rIfE_run, andV_t, andV_f, rAndV_run, rOrV_run, rNotV_run, add_int, add_lst, add_tup, add_str, sub_int, mul_int, mod_int, div_int, pow_int, cmp_int, eq_run, ne_run, eqPV_int, eqPV_str, is_non, isnt_non, dget_some, dget_run, ix_lst, ix_tup, len_lst, len_tup, len_scr, list_lst, list_tup, list_scr, int_run, abs_run, seqO_some, riSeq_run, riRg1_run, rg1_run, riRg2_run, rg2_run, gnm_run, sBind_run, sSeq_run, sNext_run, sBreak_run, sCont_run, sRet_run, sRetN_run, sExpr_run, sSet_run, sIf_run, dput_some, dputAt_run, sDPut_run, sPar_run, sOwn_run, rlLst_run, appO_run, appH_run, sAppend_run, frzO_run, sFrz_run, sRaise_run, sRaise0_run, suO_nx, suO_rt, suO_ite, endTry_run, subO_t, subO_f, tryO_exc, tryO_nx, tryO_rt, tryO_ite, sTry_run, sFor_run, forL_nil, forO_nx, forO_ct, forO_bk, forO_rt, forO_ite, forL_cons, toX_rt, toX_nx, toX_ite, xisO_run, rXIs_run, xfO_run, rXF_run, okO_ok, cxO_run, rCallX_run, List.getElem?_cons_zero, List.getElem?_cons_succ, List.set_cons_zero, List.set_cons_succ, List.length_cons, List.length_nil, Option.map_some, Option.map_none, if_true, if_false, ite_true, ite_false, reduceIte, decide_true, decide_false, Bool.not_true, Bool.not_false, Bool.false_eq_true, ie_1_4, ie_2_4, ie_3_4, ie_4_4, ie_5_4, ie_6_4, ie_7_4, ie_8_4, ie_9_4, ie_10_4, ie_11_4, ie_12_4, ie_13_4, ie_14_4, ie_15_4, ie_16_4, tru_bl, fm_BadPoly_what, lk_BadPoly_what, h1, h2, z0, z1, z2, z3, z4, z12, z16, hy, Int.reduceEq, List.mem_cons, List.not_mem_nil, or_false, or_true, false_or, true_or, Nat.reduceAdd, List.cons_append, List.nil_append]
theorem kinds_3 {one two three : PV} {x1 x2 : Str} {S : Store} (h1 : reprPV true one = some x1) (h2 : reprPV true two = some x2) : F_u_law_kinds 4 (List.reverse ["what"]) (List.reverse [one]) S = .ok (.lst [.tup [.str "poly", one]]) S := by
  have hz : ∀ k : Nat, k ≤ 100 → k ≤ sizeLine := fun k hk => Nat.le_trans hk (by decide)
  have hy : (0 : Nat) < sizeLine := by decide
  have z0 : (0 : Nat) ≤ sizeLine := hz 0 (by decide)
  have z1 : (1 : Nat) ≤ sizeLine := hz 1 (by decide)
  have z2 : (2 : Nat) ≤ sizeLine := hz 2 (by decide)
  have z3 : (3 : Nat) ≤ sizeLine := hz 3 (by decide)
  have z4 : (4 : Nat) ≤ sizeLine := hz 4 (by decide)
  have z12 : (12 : Nat) ≤ sizeLine := hz 12 (by decide)
  have z16 : (16 : Nat) ≤ sizeLine := hz 16 (by decide)
  have em := more_3 (three := three) (S := S) h1 h2
  refine runH_run.trans ?_
  show toX (r_u_law_kinds [.exc 4 (List.reverse ["what"]) (List.reverse [one]), .no] S) = _
  simp only [r_u_law_kinds, ob_ok, ob_exc, ob_stuck, ob_ite, os_ok, os_exc, os_stuck, os_ite, st_nx, st_rt, st_bk, st_ct, st_exc, st_stuck, st_ite, so_rt, so_nx, so_exc, so_stuck, so_ite, sv_val, sb_val, sb_own, ov_some, obb_some, bl_run, rC_run, rVar_run, rBor_run, rOp_run, rDGet_run, rIx_run, raNil_run, raCons_run, rTup_run, rLst_run, rDct_run, rCell_run, rCell0_run, rCall_run, rBlt_run, rLen_run, rList_run, rTuple_run, rRepr_run, opRepr_run, negV_int, rNeg_run, rTruB_run, rTru_run, rtAnd_run, rtOr_run, rtNot_run, rIfE_run, andV_t, andV_f, rAndV_run, rOrV_run, rNotV_run, add_int, add_lst, add_tup, add_str, sub_int, mul_int, mod_int, div_int, pow_int, cmp_int, eq_run, ne_run, eqPV_int, eqPV_str, is_non, isnt_non, dget_some, dget_run, ix_lst, ix_tup, len_lst, len_tup, len_scr, list_lst, list_tup, list_scr, int_run, abs_run, seqO_some, riSeq_run, riRg1_run, rg1_run, riRg2_run, rg2_run, gnm_run, sBind_run, sSeq_run, sNext_run, sBreak_run, sCont_run, sRet_run, sRetN_run, sExpr_run, sSet_run, sIf_run, dput_some, dputAt_run, sDPut_run, sPar_run, sOwn_run, rlLst_run, appO_run, appH_run, sAppend_run, frzO_run, sFrz_run, sRaise_run, sRaise0_run, suO_nx, suO_rt, suO_ite, endTry_run, subO_t, subO_f, tryO_exc, tryO_nx, tryO_rt, tryO_ite, sTry_run, sFor_run, forL_nil, forO_nx, forO_ct, forO_bk, forO_rt, forO_ite, forL_cons, toX_rt, toX_nx, toX_ite, xisO_run, rXIs_run, xfO_run, rXF_run, okO_ok, cxO_run, rCallX_run, List.getElem?_cons_zero, List.getElem?_cons_succ, List.set_cons_zero, List.set_cons_succ, List.length_cons, List.length_nil, Option.map_some, Option.map_none, if_true, if_false, ite_true, ite_false, reduceIte, decide_true, decide_false, Bool.not_true, Bool.not_false, Bool.false_eq_true, ie_1_4, ie_2_4, ie_3_4, ie_4_4, ie_5_4, ie_6_4, ie_7_4, ie_8_4, ie_9_4, ie_10_4, ie_11_4, ie_12_4, ie_13_4, ie_14_4, ie_15_4, ie_16_4, tru_bl, fm_BadPoly_what, lk_BadPoly_what, h1, h2, z0, z1, z2, z3, z4, z12, z16, hy, Int.reduceEq, List.mem_cons, List.not_mem_nil, or_false, or_true, false_or, true_or, Nat.reduceAdd, List.cons_append, List.nil_append, em]
theorem told_3 {one two three : PV} {x1 x2 : Str} {S : Store} (h1 : reprPV true one = some x1) (h2 : reprPV true two = some x2) : F_u_law_told [.int 3, one, two, three] S = .ok (.lst [.tup [.str "poly", one]]) S := by
  have ek := kinds_3 (three := three) (S := S) h1 h2
  refine runF_run.trans ?_
  show SOut.toO (r_u_law_told [.val (.int 3), .val one, .val two, .val three, .no, .no] S) = _
  have er : F_u_law_raised [.int 3, one, two] S = .exc 4 (List.reverse ["what"]) (List.reverse [one]) S := by
    refine runF_run.trans ?_
    show SOut.toO (r_u_law_raised [.val (.int 3), .val one, .val two] S) = _
    have l3 : (0 : Nat) ≤ 1000 ∧ (1 : Nat) ≤ 1000 ∧ (2 : Nat) ≤ 1000 ∧ (3 : Nat) ≤ 1000 := by decide
    simp only [r_u_law_raised, ob_ok, ob_exc, ob_stuck, ob_ite, os_ok, os_exc, os_stuck, os_ite, st_nx, st_rt, st_bk, st_ct, st_exc, st_stuck, st_ite, so_rt, so_nx, so_exc, so_stuck, so_ite, sv_val, sb_val, sb_own, ov_some, obb_some, bl_run, rC_run, rVar_run, rBor_run, rOp_run, rDGet_run, rIx_run, raNil_run, raCons_run, rTup_run, rLst_run, rDct_run, rCell_run, rCell0_run, rCall_run, rBlt_run, rLen_run, rList_run, rTuple_run, rRepr_run, opRepr_run, negV_int, rNeg_run, rTruB_run, rTru_run, rtAnd_run, rtOr_run, rtNot_run, rIfE_run, andV_t, andV_f, rAndV_run, rOrV_run, rNotV_run, add_int, add_lst, add_tup, add_str, sub_int, mul_int, mod_int, div_int, pow_int, cmp_int, eq_run, ne_run, eqPV_int, eqPV_str, is_non, isnt_non, dget_some, dget_run, ix_lst, ix_tup, len_lst, len_tup, len_scr, list_lst, list_tup, list_scr, int_run, abs_run, seqO_some, riSeq_run, riRg1_run, rg1_run, riRg2_run, rg2_run, gnm_run, sBind_run, sSeq_run, sNext_run, sBreak_run, sCont_run, sRet_run, sRetN_run, sExpr_run, sSet_run, sIf_run, dput_some, dputAt_run, sDPut_run, sPar_run, sOwn_run, rlLst_run, appO_run, appH_run, sAppend_run, frzO_run, sFrz_run, sRaise_run, sRaise0_run, suO_nx, suO_rt, suO_ite, endTry_run, subO_t, subO_f, tryO_exc, tryO_nx, tryO_rt, tryO_ite, sTry_run, sFor_run, forL_nil, forO_nx, forO_ct, forO_bk, forO_rt, forO_ite, forL_cons, toX_rt, toX_nx, toX_ite, xisO_run, rXIs_run, xfO_run, rXF_run, okO_ok, cxO_run, rCallX_run, List.getElem?_cons_zero, List.getElem?_cons_succ, List.set_cons_zero, List.set_cons_succ, List.length_cons, List.length_nil, Option.map_some, Option.map_none, if_true, if_false, ite_true, ite_false, reduceIte, decide_true, decide_false, Bool.not_true, Bool.not_false, Bool.false_eq_true, Int.reduceEq, List.mem_cons, List.not_mem_nil, or_false, or_true, false_or, true_or, Nat.reduceAdd, List.cons_append, List.nil_append, l3, and_self]
  have cl : ∀ a b c d e : PV, clean [.val a, .val b, .val c, .val d, .val e, .no] = true := fun _ _ _ _ _ => rfl
  simp only [r_u_law_told, ob_ok, ob_exc, ob_stuck, ob_ite, os_ok, os_exc, os_stuck, os_ite, st_nx, st_rt, st_bk, st_ct, st_exc, st_stuck, st_ite, so_rt, so_nx, so_exc, so_stuck, so_ite, sv_val, sb_val, sb_own, ov_some, obb_some, bl_run, rC_run, rVar_run, rBor_run, rOp_run, rDGet_run, rIx_run, raNil_run, raCons_run, rTup_run, rLst_run, rDct_run, rCell_run, rCell0_run, rCall_run, rBlt_run, rLen_run, rList_run, rTuple_run, rRepr_run, opRepr_run, negV_int, rNeg_run, rTruB_run, rTru_run, rtAnd_run, rtOr_run, rtNot_run, rIfE_run, andV_t, andV_f, rAndV_run, rOrV_run, rNotV_run, add_int, add_lst, add_tup, add_str, sub_int, mul_int, mod_int, div_int, pow_int, cmp_int, eq_run, ne_run, eqPV_int, eqPV_str, is_non, isnt_non, dget_some, dget_run, ix_lst, ix_tup, len_lst, len_tup, len_scr, list_lst, list_tup, list_scr, int_run, abs_run, seqO_some, riSeq_run, riRg1_run, rg1_run, riRg2_run, rg2_run, gnm_run, sBind_run, sSeq_run, sNext_run, sBreak_run, sCont_run, sRet_run, sRetN_run, sExpr_run, sSet_run, sIf_run, dput_some, dputAt_run, sDPut_run, sPar_run, sOwn_run, rlLst_run, appO_run, appH_run, sAppend_run, frzO_run, sFrz_run, sRaise_run, sRaise0_run, suO_nx, suO_rt, suO_ite, endTry_run, subO_t, subO_f, tryO_exc, tryO_nx, tryO_rt, tryO_ite, sTry_run, sFor_run, forL_nil, forO_nx, forO_ct, forO_bk, forO_rt, forO_ite, forL_cons, toX_rt, toX_nx, toX_ite, xisO_run, rXIs_run, xfO_run, rXF_run, okO_ok, cxO_run, rCallX_run, List.getElem?_cons_zero, List.getElem?_cons_succ, List.set_cons_zero, List.set_cons_succ, List.length_cons, List.length_nil, Option.map_some, Option.map_none, if_true, if_false, ite_true, ite_false, reduceIte, decide_true, decide_false, Bool.not_true, Bool.not_false, Bool.false_eq_true, Int.reduceEq, List.mem_cons, List.not_mem_nil, or_false, or_true, false_or, true_or, Nat.reduceAdd, List.cons_append, List.nil_append, er, ie_0_4, iv_4, tru_bl, ek, cl]
theorem due_3 {one two three : PV} {x1 x2 : Str} {S : Store} (h1 : reprPV true one = some x1) (h2 : reprPV true two = some x2) : F_u_law_due [.int 3, one, two, three] S = .ok (.tup [.str "poly", one]) S := by
  have hz : ∀ k : Nat, k ≤ 100 → k ≤ sizeLine := fun k hk => Nat.le_trans hk (by decide)
  have hy : (0 : Nat) < sizeLine := by decide
  have z0 : (0 : Nat) ≤ sizeLine := hz 0 (by decide)
  have z1 : (1 : Nat) ≤ sizeLine := hz 1 (by decide)
  have z2 : (2 : Nat) ≤ sizeLine := hz 2 (by decide)
  have z3 : (3 : Nat) ≤ sizeLine := hz 3 (by decide)
  have z4 : (4 : Nat) ≤ sizeLine := hz 4 (by decide)
  have z12 : (12 : Nat) ≤ sizeLine := hz 12 (by decide)
  have z16 : (16 : Nat) ≤ sizeLine := hz 16 (by decide)
  refine runF_run.trans ?_
  show SOut.toO (r_u_law_due [.val (.int 3), .val one, .val two, .val three, .no] S) = _
  simp only [r_u_law_due, ob_ok, ob_exc, ob_stuck, ob_ite, os_ok, os_exc, os_stuck, os_ite, st_nx, st_rt, st_bk, st_ct, st_exc, st_stuck, st_ite, so_rt, so_nx, so_exc, so_stuck, so_ite, sv_val, sb_val, sb_own, ov_some, obb_some, bl_run, rC_run, rVar_run, rBor_run, rOp_run, rDGet_run, rIx_run, raNil_run, raCons_run, rTup_run, rLst_run, rDct_run, rCell_run, rCell0_run, rCall_run, rBlt_run, rLen_run, rList_run, rTuple_run, rRepr_run, opRepr_run, negV_int, rNeg_run, rTruB_run, rTru_run, rtAnd_run, rtOr_run, rtNot_run, rIfE_run, andV_t, andV_f, rAndV_run, rOrV_run, rNotV_run, add_int, add_lst, add_tup, add_str, sub_int, mul_int, mod_int, div_int, pow_int, cmp_int, eq_run, ne_run, eqPV_int, eqPV_str, is_non, isnt_non, dget_some, dget_run, ix_lst, ix_tup, len_lst, len_tup, len_scr, list_lst, list_tup, list_scr, int_run, abs_run, seqO_some, riSeq_run, riRg1_run, rg1_run, riRg2_run, rg2_run, gnm_run, sBind_run, sSeq_run, sNext_run, sBreak_run, sCont_run, sRet_run, sRetN_run, sExpr_run, sSet_run, sIf_run, dput_some, dputAt_run, sDPut_run, sPar_run, sOwn_run, rlLst_run, appO_run, appH_run, sAppend_run, frzO_run, sFrz_run, sRaise_run, sRaise0_run, suO_nx, suO_rt, suO_ite, endTry_run, subO_t, subO_f, tryO_exc, tryO_nx, tryO_rt, tryO_ite, sTry_run, sFor_run, forL_nil, forO_nx, forO_ct, forO_bk, forO_rt, forO_ite, forL_cons, toX_rt, toX_nx, toX_ite, xisO_run, rXIs_run, xfO_run, rXF_run, okO_ok, cxO_run, rCallX_run, List.getElem?_cons_zero, List.getElem?_cons_succ, List.set_cons_zero, List.set_cons_succ, List.length_cons, List.length_nil, Option.map_some, Option.map_none, if_true, if_false, ite_true, ite_false, reduceIte, decide_true, decide_false, Bool.not_true, Bool.not_false, Bool.false_eq_true, in_a, in_b, in_c, in_d, Int.reduceEq, List.mem_cons, List.not_mem_nil, or_false, or_true, false_or, true_or, Nat.reduceAdd, List.cons_append, List.nil_append, aw_3, h1, h2, z0, z1, z2, z3, z4, z12, z16, hy]
theorem more_4 {one two three : PV} {x1 x2 : Str} {S : Store} (h1 : reprPV true one = some x1) (h2 : reprPV true two = some x2) : F_u_law_more_kinds 5 (List.reverse ["what", "lot"]) (List.reverse [one, two]) S = .ok (.lst []) S := by
  have hz : ∀ k : Nat, k ≤ 100 → k ≤ sizeLine := fun k hk => Nat.le_trans hk (by decide)
  have hy : (0 : Nat) < sizeLine := by decide
  have z0 : (0 : Nat) ≤ sizeLine := hz 0 (by decide)
  have z1 : (1 : Nat) ≤ sizeLine := hz 1 (by decide)
  have z2 : (2 : Nat) ≤ sizeLine := hz 2 (by decide)
  have z3 : (3 : Nat) ≤ sizeLine := hz 3 (by decide)
  have z4 : (4 : Nat) ≤ sizeLine := hz 4 (by decide)
  have z12 : (12 : Nat) ≤ sizeLine := hz 12 (by decide)
  have z16 : (16 : Nat) ≤ sizeLine := hz 16 (by decide)
  refine runH_run.trans ?_
  show toX (r_u_law_more_kinds [.exc 5 (List.reverse ["what", "lot"]) (List.reverse [one, two]), .no] S) = _
  simp only [r_u_law_more_kinds, ob_ok, ob_exc, ob_stuck, ob_ite, os_ok, os_exc, os_stuck, os_ite, st_nx, st_rt, st_bk, st_ct, st_exc, st_stuck, st_ite, so_rt, so_nx, so_exc, so_stuck, so_ite, sv_val, sb_val, sb_own, ov_some, obb_some, bl_run, rC_run, rVar_run, rBor_run, rOp_run, rDGet_run, rIx_run, raNil_run, raCons_run, rTup_run, rLst_run, rDct_run, rCell_run, rCell0_run, rCall_run, rBlt_run, rLen_run, rList_run, rTuple_run, rRepr_run, opRepr_run, negV_int, rNeg_run, rTruB_run, rTru_run, rtAnd_run, rtOr_run, rtNot_run, rIfE_run, andV_t, andV_f, rAndV_run, rOrV_run, rNotV_run, add_int, add_lst, add_tup, add_str, sub_int, mul_int, mod_int, div_int, pow_int, cmp_int, eq_run, ne_run, eqPV_int, eqPV_str, is_non, isnt_non, dget_some, dget_run, ix_lst, ix_tup, len_lst, len_tup, len_scr, list_lst, list_tup, list_scr, int_run, abs_run, seqO_some, riSeq_run, riRg1_run, rg1_run, riRg2_run, rg2_run, gnm_run, sBind_run, sSeq_run, sNext_run, sBreak_run, sCont_run, sRet_run, sRetN_run, sExpr_run, sSet_run, sIf_run, dput_some, dputAt_run, sDPut_run, sPar_run, sOwn_run, rlLst_run, appO_run, appH_run, sAppend_run, frzO_run, sFrz_run, sRaise_run, sRaise0_run, suO_nx, suO_rt, suO_ite, endTry_run, subO_t, subO_f, tryO_exc, tryO_nx, tryO_rt, tryO_ite, sTry_run, sFor_run, forL_nil, forO_nx, forO_ct, forO_bk, forO_rt, forO_ite, forL_cons, toX_rt, toX_nx, toX_ite, xisO_run, rXIs_run, xfO_run, rXF_run, okO_ok, cxO_run, rCallX_run, List.getElem?_cons_zero, List.getElem?_cons_succ, List.set_cons_zero, List.set_cons_succ, List.length_cons, List.length_nil, Option.map_some, Option.map_none, if_true, if_false, ite_true, ite_false, reduceIte, decide_true, decide_false, Bool.not_true, Bool.not_false, Bool.false_eq_true, ie_1_5, ie_2_5, ie_3_5, ie_4_5, ie_5_5, ie_6_5, ie_7_5, ie_8_5, ie_9_5, ie_10_5, ie_11_5, ie_12_5, ie_13_5, ie_14_5, ie_15_5, ie_16_5, tru_bl, fm_BadLot_what, fm_BadLot_lot, lk_BadLot_what, lk_BadLot_lot, h1, h2, z0, z1, z2, z3, z4, z12, z16, hy, Int.reduceEq, List.mem_cons, List.not_mem_nil, or_false, or_true, false_or, true_or, Nat.reduceAdd, List.cons_append, List.nil_append]
theorem kinds_4 {one two three : PV} {x1 x2 : Str} {S : Store} (h1 : reprPV true one = some x1) (h2 : reprPV true two = some x2) : F_u_law_kinds 5 (List.reverse ["what", "lot"]) (List.reverse [one, two]) S = .ok (.lst [.tup [.str "lot", one, .str x2]]) S := by
  have hz : ∀ k : Nat, k ≤ 100 → k ≤ sizeLine := fun k hk => Nat.le_trans hk (by decide)
  have hy : (0 : Nat) < sizeLine := by decide
  have z0 : (0 : Nat) ≤ sizeLine := hz 0 (by decide)
  have z1 : (1 : Nat) ≤ sizeLine := hz 1 (by decide)
  have z2 : (2 : Nat) ≤ sizeLine := hz 2 (by decide)
  have z3 : (3 : Nat) ≤ sizeLine := hz 3 (by decide)
  have z4 : (4 : Nat) ≤ sizeLine := hz 4 (by decide)
  have z12 : (12 : Nat) ≤ sizeLine := hz 12 (by decide)
  have z16 : (16 : Nat) ≤ sizeLine := hz 16 (by decide)
  have em := more_4 (three := three) (S := S) h1 h2
  refine runH_run.trans ?_
  show toX (r_u_law_kinds [.exc 5 (List.reverse ["what", "lot"]) (List.reverse [one, two]), .no] S) = _
  simp only [r_u_law_kinds, ob_ok, ob_exc, ob_stuck, ob_ite, os_ok, os_exc, os_stuck, os_ite, st_nx, st_rt, st_bk, st_ct, st_exc, st_stuck, st_ite, so_rt, so_nx, so_exc, so_stuck, so_ite, sv_val, sb_val, sb_own, ov_some, obb_some, bl_run, rC_run, rVar_run, rBor_run, rOp_run, rDGet_run, rIx_run, raNil_run, raCons_run, rTup_run, rLst_run, rDct_run, rCell_run, rCell0_run, rCall_run, rBlt_run, rLen_run, rList_run, rTuple_run, rRepr_run, opRepr_run, negV_int, rNeg_run, rTruB_run, rTru_run, rtAnd_run, rtOr_run, rtNot_run, rIfE_run, andV_t, andV_f, rAndV_run, rOrV_run, rNotV_run, add_int, add_lst, add_tup, add_str, sub_int, mul_int, mod_int, div_int, pow_int, cmp_int, eq_run, ne_run, eqPV_int, eqPV_str, is_non, isnt_non, dget_some, dget_run, ix_lst, ix_tup, len_lst, len_tup, len_scr, list_lst, list_tup, list_scr, int_run, abs_run, seqO_some, riSeq_run, riRg1_run, rg1_run, riRg2_run, rg2_run, gnm_run, sBind_run, sSeq_run, sNext_run, sBreak_run, sCont_run, sRet_run, sRetN_run, sExpr_run, sSet_run, sIf_run, dput_some, dputAt_run, sDPut_run, sPar_run, sOwn_run, rlLst_run, appO_run, appH_run, sAppend_run, frzO_run, sFrz_run, sRaise_run, sRaise0_run, suO_nx, suO_rt, suO_ite, endTry_run, subO_t, subO_f, tryO_exc, tryO_nx, tryO_rt, tryO_ite, sTry_run, sFor_run, forL_nil, forO_nx, forO_ct, forO_bk, forO_rt, forO_ite, forL_cons, toX_rt, toX_nx, toX_ite, xisO_run, rXIs_run, xfO_run, rXF_run, okO_ok, cxO_run, rCallX_run, List.getElem?_cons_zero, List.getElem?_cons_succ, List.set_cons_zero, List.set_cons_succ, List.length_cons, List.length_nil, Option.map_some, Option.map_none, if_true, if_false, ite_true, ite_false, reduceIte, decide_true, decide_false, Bool.not_true, Bool.not_false, Bool.false_eq_true, ie_1_5, ie_2_5, ie_3_5, ie_4_5, ie_5_5, ie_6_5, ie_7_5, ie_8_5, ie_9_5, ie_10_5, ie_11_5, ie_12_5, ie_13_5, ie_14_5, ie_15_5, ie_16_5, tru_bl, fm_BadLot_what, fm_BadLot_lot, lk_BadLot_what, lk_BadLot_lot, h1, h2, z0, z1, z2, z3, z4, z12, z16, hy, Int.reduceEq, List.mem_cons, List.not_mem_nil, or_false, or_true, false_or, true_or, Nat.reduceAdd, List.cons_append, List.nil_append, em]
theorem told_4 {one two three : PV} {x1 x2 : Str} {S : Store} (h1 : reprPV true one = some x1) (h2 : reprPV true two = some x2) : F_u_law_told [.int 4, one, two, three] S = .ok (.lst [.tup [.str "lot", one, .str x2]]) S := by
  have ek := kinds_4 (three := three) (S := S) h1 h2
  refine runF_run.trans ?_
  show SOut.toO (r_u_law_told [.val (.int 4), .val one, .val two, .val three, .no, .no] S) = _
  have er : F_u_law_raised [.int 4, one, two] S = .exc 5 (List.reverse ["what", "lot"]) (List.reverse [one, two]) S := by
    refine runF_run.trans ?_
    show SOut.toO (r_u_law_raised [.val (.int 4), .val one, .val two] S) = _
    have l3 : (0 : Nat) ≤ 1000 ∧ (1 : Nat) ≤ 1000 ∧ (2 : Nat) ≤ 1000 ∧ (3 : Nat) ≤ 1000 := by decide
    simp only [r_u_law_raised, ob_ok, ob_exc, ob_stuck, ob_ite, os_ok, os_exc, os_stuck, os_ite, st_nx, st_rt, st_bk, st_ct, st_exc, st_stuck, st_ite, so_rt, so_nx, so_exc, so_stuck, so_ite, sv_val, sb_val, sb_own, ov_some, obb_some, bl_run, rC_run, rVar_run, rBor_run, rOp_run, rDGet_run, rIx_run, raNil_run, raCons_run, rTup_run, rLst_run, rDct_run, rCell_run, rCell0_run, rCall_run, rBlt_run, rLen_run, rList_run, rTuple_run, rRepr_run, opRepr_run, negV_int, rNeg_run, rTruB_run, rTru_run, rtAnd_run, rtOr_run, rtNot_run, rIfE_run, andV_t, andV_f, rAndV_run, rOrV_run, rNotV_run, add_int, add_lst, add_tup, add_str, sub_int, mul_int, mod_int, div_int, pow_int, cmp_int, eq_run, ne_run, eqPV_int, eqPV_str, is_non, isnt_non, dget_some, dget_run, ix_lst, ix_tup, len_lst, len_tup, len_scr, list_lst, list_tup, list_scr, int_run, abs_run, seqO_some, riSeq_run, riRg1_run, rg1_run, riRg2_run, rg2_run, gnm_run, sBind_run, sSeq_run, sNext_run, sBreak_run, sCont_run, sRet_run, sRetN_run, sExpr_run, sSet_run, sIf_run, dput_some, dputAt_run, sDPut_run, sPar_run, sOwn_run, rlLst_run, appO_run, appH_run, sAppend_run, frzO_run, sFrz_run, sRaise_run, sRaise0_run, suO_nx, suO_rt, suO_ite, endTry_run, subO_t, subO_f, tryO_exc, tryO_nx, tryO_rt, tryO_ite, sTry_run, sFor_run, forL_nil, forO_nx, forO_ct, forO_bk, forO_rt, forO_ite, forL_cons, toX_rt, toX_nx, toX_ite, xisO_run, rXIs_run, xfO_run, rXF_run, okO_ok, cxO_run, rCallX_run, List.getElem?_cons_zero, List.getElem?_cons_succ, List.set_cons_zero, List.set_cons_succ, List.length_cons, List.length_nil, Option.map_some, Option.map_none, if_true, if_false, ite_true, ite_false, reduceIte, decide_true, decide_false, Bool.not_true, Bool.not_false, Bool.false_eq_true, Int.reduceEq, List.mem_cons, List.not_mem_nil, or_false, or_true, false_or, true_or, Nat.reduceAdd, List.cons_append, List.nil_append, l3, and_self]
  have cl : ∀ a b c d e : PV, clean [.val a, .val b, .val c, .val d, .val e, .no] = true := fun _ _ _ _ _ => rfl
  simp only [r_u_law_told, ob_ok, ob_exc, ob_stuck, ob_ite, os_ok, os_exc, os_stuck, os_ite, st_nx, st_rt, st_bk, st_ct, st_exc, st_stuck, st_ite, so_rt, so_nx, so_exc, so_stuck, so_ite, sv_val, sb_val, sb_own, ov_some, obb_some, bl_run, rC_run, rVar_run, rBor_run, rOp_run, rDGet_run, rIx_run, raNil_run, raCons_run, rTup_run, rLst_run, rDct_run, rCell_run, rCell0_run, rCall_run, rBlt_run, rLen_run, rList_run, rTuple_run, rRepr_run, opRepr_run, negV_int, rNeg_run, rTruB_run, rTru_run, rtAnd_run, rtOr_run, rtNot_run, rIfE_run, andV_t, andV_f, rAndV_run, rOrV_run, rNotV_run, add_int, add_lst, add_tup, add_str, sub_int, mul_int, mod_int, div_int, pow_int, cmp_int, eq_run, ne_run, eqPV_int, eqPV_str, is_non, isnt_non, dget_some, dget_run, ix_lst, ix_tup, len_lst, len_tup, len_scr, list_lst, list_tup, list_scr, int_run, abs_run, seqO_some, riSeq_run, riRg1_run, rg1_run, riRg2_run, rg2_run, gnm_run, sBind_run, sSeq_run, sNext_run, sBreak_run, sCont_run, sRet_run, sRetN_run, sExpr_run, sSet_run, sIf_run, dput_some, dputAt_run, sDPut_run, sPar_run, sOwn_run, rlLst_run, appO_run, appH_run, sAppend_run, frzO_run, sFrz_run, sRaise_run, sRaise0_run, suO_nx, suO_rt, suO_ite, endTry_run, subO_t, subO_f, tryO_exc, tryO_nx, tryO_rt, tryO_ite, sTry_run, sFor_run, forL_nil, forO_nx, forO_ct, forO_bk, forO_rt, forO_ite, forL_cons, toX_rt, toX_nx, toX_ite, xisO_run, rXIs_run, xfO_run, rXF_run, okO_ok, cxO_run, rCallX_run, List.getElem?_cons_zero, List.getElem?_cons_succ, List.set_cons_zero, List.set_cons_succ, List.length_cons, List.length_nil, Option.map_some, Option.map_none, if_true, if_false, ite_true, ite_false, reduceIte, decide_true, decide_false, Bool.not_true, Bool.not_false, Bool.false_eq_true, Int.reduceEq, List.mem_cons, List.not_mem_nil, or_false, or_true, false_or, true_or, Nat.reduceAdd, List.cons_append, List.nil_append, er, ie_0_5, iv_5, tru_bl, ek, cl]
theorem due_4 {one two three : PV} {x1 x2 : Str} {S : Store} (h1 : reprPV true one = some x1) (h2 : reprPV true two = some x2) : F_u_law_due [.int 4, one, two, three] S = .ok (.tup [.str "lot", one, .str x2]) S := by
  have hz : ∀ k : Nat, k ≤ 100 → k ≤ sizeLine := fun k hk => Nat.le_trans hk (by decide)
  have hy : (0 : Nat) < sizeLine := by decide
  have z0 : (0 : Nat) ≤ sizeLine := hz 0 (by decide)
  have z1 : (1 : Nat) ≤ sizeLine := hz 1 (by decide)
  have z2 : (2 : Nat) ≤ sizeLine := hz 2 (by decide)
  have z3 : (3 : Nat) ≤ sizeLine := hz 3 (by decide)
  have z4 : (4 : Nat) ≤ sizeLine := hz 4 (by decide)
  have z12 : (12 : Nat) ≤ sizeLine := hz 12 (by decide)
  have z16 : (16 : Nat) ≤ sizeLine := hz 16 (by decide)
  refine runF_run.trans ?_
  show SOut.toO (r_u_law_due [.val (.int 4), .val one, .val two, .val three, .no] S) = _
  simp only [r_u_law_due, ob_ok, ob_exc, ob_stuck, ob_ite, os_ok, os_exc, os_stuck, os_ite, st_nx, st_rt, st_bk, st_ct, st_exc, st_stuck, st_ite, so_rt, so_nx, so_exc, so_stuck, so_ite, sv_val, sb_val, sb_own, ov_some, obb_some, bl_run, rC_run, rVar_run, rBor_run, rOp_run, rDGet_run, rIx_run, raNil_run, raCons_run, rTup_run, rLst_run, rDct_run, rCell_run, rCell0_run, rCall_run, rBlt_run, rLen_run, rList_run, rTuple_run, rRepr_run, opRepr_run, negV_int, rNeg_run, rTruB_run, rTru_run, rtAnd_run, rtOr_run, rtNot_run, rIfE_run, andV_t, andV_f, rAndV_run, rOrV_run, rNotV_run, add_int, add_lst, add_tup, add_str, sub_int, mul_int, mod_int, div_int, pow_int, cmp_int, eq_run, ne_run, eqPV_int, eqPV_str, is_non, isnt_non, dget_some, dget_run, ix_lst, ix_tup, len_lst, len_tup, len_scr, list_lst, list_tup, list_scr, int_run, abs_run, seqO_some, riSeq_run, riRg1_run, rg1_run, riRg2_run, rg2_run, gnm_run, sBind_run, sSeq_run, sNext_run, sBreak_run, sCont_run, sRet_run, sRetN_run, sExpr_run, sSet_run, sIf_run, dput_some, dputAt_run, sDPut_run, sPar_run, sOwn_run, rlLst_run, appO_run, appH_run, sAppend_run, frzO_run, sFrz_run, sRaise_run, sRaise0_run, suO_nx, suO_rt, suO_ite, endTry_run, subO_t, subO_f, tryO_exc, tryO_nx, tryO_rt, tryO_ite, sTry_run, sFor_run, forL_nil, forO_nx, forO_ct, forO_bk, forO_rt, forO_ite, forL_cons, toX_rt, toX_nx, toX_ite, xisO_run, rXIs_run, xfO_run, rXF_run, okO_ok, cxO_run, rCallX_run, List.getElem?_cons_zero, List.getElem?_cons_succ, List.set_cons_zero, List.set_cons_succ, List.length_cons, List.length_nil, Option.map_some, Option.map_none, if_true, if_false, ite_true, ite_false, reduceIte, decide_true, decide_false, Bool.not_true, Bool.not_false, Bool.false_eq_true, in_a, in_b, in_c, in_d, Int.reduceEq, List.mem_cons, List.not_mem_nil, or_false, or_true, false_or, true_or, Nat.reduceAdd, List.cons_append, List.nil_append, aw_4, h1, h2, z0, z1, z2, z3, z4, z12, z16, hy]
theorem more_5 {one two three : PV} {x1 x2 : Str} {S : Store} (h1 : reprPV true one = some x1) (h2 : reprPV true two = some x2) : F_u_law_more_kinds 6 (List.reverse ["name"]) (List.reverse [one]) S = .ok (.lst []) S := by
  have hz : ∀ k : Nat, k ≤ 100 → k ≤ sizeLine := fun k hk => Nat.le_trans hk (by decide)
  have hy : (0 : Nat) < sizeLine := by decide
  have z0 : (0 : Nat) ≤ sizeLine := hz 0 (by decide)
  have z1 : (1 : Nat) ≤ sizeLine := hz 1 (by decide)
  have z2 : (2 : Nat) ≤ sizeLine := hz 2 (by decide)
  have z3 : (3 : Nat) ≤ sizeLine := hz 3 (by decide)
  have z4 : (4 : Nat) ≤ sizeLine := hz 4 (by decide)
  have z12 : (12 : Nat) ≤ sizeLine := hz 12 (by decide)
  have z16 : (16 : Nat) ≤ sizeLine := hz 16 (by decide)
  refine runH_run.trans ?_
  show toX (r_u_law_more_kinds [.exc 6 (List.reverse ["name"]) (List.reverse [one]), .no] S) = _
  simp only [r_u_law_more_kinds, ob_ok, ob_exc, ob_stuck, ob_ite, os_ok, os_exc, os_stuck, os_ite, st_nx, st_rt, st_bk, st_ct, st_exc, st_stuck, st_ite, so_rt, so_nx, so_exc, so_stuck, so_ite, sv_val, sb_val, sb_own, ov_some, obb_some, bl_run, rC_run, rVar_run, rBor_run, rOp_run, rDGet_run, rIx_run, raNil_run, raCons_run, rTup_run, rLst_run, rDct_run, rCell_run, rCell0_run, rCall_run, rBlt_run, rLen_run, rList_run, rTuple_run, rRepr_run, opRepr_run, negV_int, rNeg_run, rTruB_run, rTru_run, rtAnd_run, rtOr_run, rtNot_run, rIfE_run, andV_t, andV_f, rAndV_run, rOrV_run, rNotV_run, add_int, add_lst, add_tup, add_str, sub_int, mul_int, mod_int, div_int, pow_int, cmp_int, eq_run, ne_run, eqPV_int, eqPV_str, is_non, isnt_non, dget_some, dget_run, ix_lst, ix_tup, len_lst, len_tup, len_scr, list_lst, list_tup, list_scr, int_run, abs_run, seqO_some, riSeq_run, riRg1_run, rg1_run, riRg2_run, rg2_run, gnm_run, sBind_run, sSeq_run, sNext_run, sBreak_run, sCont_run, sRet_run, sRetN_run, sExpr_run, sSet_run, sIf_run, dput_some, dputAt_run, sDPut_run, sPar_run, sOwn_run, rlLst_run, appO_run, appH_run, sAppend_run, frzO_run, sFrz_run, sRaise_run, sRaise0_run, suO_nx, suO_rt, suO_ite, endTry_run, subO_t, subO_f, tryO_exc, tryO_nx, tryO_rt, tryO_ite, sTry_run, sFor_run, forL_nil, forO_nx, forO_ct, forO_bk, forO_rt, forO_ite, forL_cons, toX_rt, toX_nx, toX_ite, xisO_run, rXIs_run, xfO_run, rXF_run, okO_ok, cxO_run, rCallX_run, List.getElem?_cons_zero, List.getElem?_cons_succ, List.set_cons_zero, List.set_cons_succ, List.length_cons, List.length_nil, Option.map_some, Option.map_none, if_true, if_false, ite_true, ite_false, reduceIte, decide_true, decide_false, Bool.not_true, Bool.not_false, Bool.false_eq_true, ie_1_6, ie_2_6, ie_3_6, ie_4_6, ie_5_6, ie_6_6, ie_7_6, ie_8_6, ie_9_6, ie_10_6, ie_11_6, ie_12_6, ie_13_6, ie_14_6, ie_15_6, ie_16_6, tru_bl, fm_BadName_name, lk_BadName_name, h1, h2, z0, z1, z2, z3, z4, z12, z16, hy, Int.reduceEq, List.mem_cons, List.not_mem_nil, or_false, or_true, false_or, true_or, Nat.reduceAdd, List.cons_append, List.nil_append]
theorem kinds_5 {one two three : PV} {x1 x2 : Str} {S : Store} (h1 : reprPV true one = some x1) (h2 : reprPV true two = some x2) : F_u_law_kinds 6 (List.reverse ["name"]) (List.reverse [one]) S = .ok (.lst [.tup [.str "badname", .str x1]]) S := by
  have hz : ∀ k : Nat, k ≤ 100 → k ≤ sizeLine := fun k hk => Nat.le_trans hk (by decide)
  have hy : (0 : Nat) < sizeLine := by decide
  have z0 : (0 : Nat) ≤ sizeLine := hz 0 (by decide)
  have z1 : (1 : Nat) ≤ sizeLine := hz 1 (by decide)
  have z2 : (2 : Nat) ≤ sizeLine := hz 2 (by decide)
  have z3 : (3 : Nat) ≤ sizeLine := hz 3 (by decide)
  have z4 : (4 : Nat) ≤ sizeLine := hz 4 (by decide)
  have z12 : (12 : Nat) ≤ sizeLine := hz 12 (by decide)
  have z16 : (16 : Nat) ≤ sizeLine := hz 16 (by decide)
  have em := more_5 (three := three) (S := S) h1 h2
  refine runH_run.trans ?_
  show toX (r_u_law_kinds [.exc 6 (List.reverse ["name"]) (List.reverse [one]), .no] S) = _
  simp only [r_u_law_kinds, ob_ok, ob_exc, ob_stuck, ob_ite, os_ok, os_exc, os_stuck, os_ite, st_nx, st_rt, st_bk, st_ct, st_exc, st_stuck, st_ite, so_rt, so_nx, so_exc, so_stuck, so_ite, sv_val, sb_val, sb_own, ov_some, obb_some, bl_run, rC_run, rVar_run, rBor_run, rOp_run, rDGet_run, rIx_run, raNil_run, raCons_run, rTup_run, rLst_run, rDct_run, rCell_run, rCell0_run, rCall_run, rBlt_run, rLen_run, rList_run, rTuple_run, rRepr_run, opRepr_run, negV_int, rNeg_run, rTruB_run, rTru_run, rtAnd_run, rtOr_run, rtNot_run, rIfE_run, andV_t, andV_f, rAndV_run, rOrV_run, rNotV_run, add_int, add_lst, add_tup, add_str, sub_int, mul_int, mod_int, div_int, pow_int, cmp_int, eq_run, ne_run, eqPV_int, eqPV_str, is_non, isnt_non, dget_some, dget_run, ix_lst, ix_tup, len_lst, len_tup, len_scr, list_lst, list_tup, list_scr, int_run, abs_run, seqO_some, riSeq_run, riRg1_run, rg1_run, riRg2_run, rg2_run, gnm_run, sBind_run, sSeq_run, sNext_run, sBreak_run, sCont_run, sRet_run, sRetN_run, sExpr_run, sSet_run, sIf_run, dput_some, dputAt_run, sDPut_run, sPar_run, sOwn_run, rlLst_run, appO_run, appH_run, sAppend_run, frzO_run, sFrz_run, sRaise_run, sRaise0_run, suO_nx, suO_rt, suO_ite, endTry_run, subO_t, subO_f, tryO_exc, tryO_nx, tryO_rt, tryO_ite, sTry_run, sFor_run, forL_nil, forO_nx, forO_ct, forO_bk, forO_rt, forO_ite, forL_cons, toX_rt, toX_nx, toX_ite, xisO_run, rXIs_run, xfO_run, rXF_run, okO_ok, cxO_run, rCallX_run, List.getElem?_cons_zero, List.getElem?_cons_succ, List.set_cons_zero, List.set_cons_succ, List.length_cons, List.length_nil, Option.map_some, Option.map_none, if_true, if_false, ite_true, ite_false, reduceIte, decide_true, decide_false, Bool.not_true, Bool.not_false, Bool.false_eq_true, ie_1_6, ie_2_6, ie_3_6, ie_4_6, ie_5_6, ie_6_6, ie_7_6, ie_8_6, ie_9_6, ie_10_6, ie_11_6, ie_12_6, ie_13_6, ie_14_6, ie_15_6, ie_16_6, tru_bl, fm_BadName_name, lk_BadName_name, h1, h2, z0, z1, z2, z3, z4, z12, z16, hy, Int.reduceEq, List.mem_cons, List.not_mem_nil, or_false, or_true, false_or, true_or, Nat.reduceAdd, List.cons_append, List.nil_append, em]
theorem told_5 {one two three : PV} {x1 x2 : Str} {S : Store} (h1 : reprPV true one = some x1) (h2 : reprPV true two = some x2) : F_u_law_told [.int 5, one, two, three] S = .ok (.lst [.tup [.str "badname", .str x1]]) S := by
  have ek := kinds_5 (three := three) (S := S) h1 h2
  refine runF_run.trans ?_
  show SOut.toO (r_u_law_told [.val (.int 5), .val one, .val two, .val three, .no, .no] S) = _
  have er : F_u_law_raised [.int 5, one, two] S = .exc 6 (List.reverse ["name"]) (List.reverse [one]) S := by
    refine runF_run.trans ?_
    show SOut.toO (r_u_law_raised [.val (.int 5), .val one, .val two] S) = _
    have l3 : (0 : Nat) ≤ 1000 ∧ (1 : Nat) ≤ 1000 ∧ (2 : Nat) ≤ 1000 ∧ (3 : Nat) ≤ 1000 := by decide
    simp only [r_u_law_raised, ob_ok, ob_exc, ob_stuck, ob_ite, os_ok, os_exc, os_stuck, os_ite, st_nx, st_rt, st_bk, st_ct, st_exc, st_stuck, st_ite, so_rt, so_nx, so_exc, so_stuck, so_ite, sv_val, sb_val, sb_own, ov_some, obb_some, bl_run, rC_run, rVar_run, rBor_run, rOp_run, rDGet_run, rIx_run, raNil_run, raCons_run, rTup_run, rLst_run, rDct_run, rCell_run, rCell0_run, rCall_run, rBlt_run, rLen_run, rList_run, rTuple_run, rRepr_run, opRepr_run, negV_int, rNeg_run, rTruB_run, rTru_run, rtAnd_run, rtOr_run, rtNot_run, rIfE_run, andV_t, andV_f, rAndV_run, rOrV_run, rNotV_run, add_int, add_lst, add_tup, add_str, sub_int, mul_int, mod_int, div_int, pow_int, cmp_int, eq_run, ne_run, eqPV_int, eqPV_str, is_non, isnt_non, dget_some, dget_run, ix_lst, ix_tup, len_lst, len_tup, len_scr, list_lst, list_tup, list_scr, int_run, abs_run, seqO_some, riSeq_run, riRg1_run, rg1_run, riRg2_run, rg2_run, gnm_run, sBind_run, sSeq_run, sNext_run, sBreak_run, sCont_run, sRet_run, sRetN_run, sExpr_run, sSet_run, sIf_run, dput_some, dputAt_run, sDPut_run, sPar_run, sOwn_run, rlLst_run, appO_run, appH_run, sAppend_run, frzO_run, sFrz_run, sRaise_run, sRaise0_run, suO_nx, suO_rt, suO_ite, endTry_run, subO_t, subO_f, tryO_exc, tryO_nx, tryO_rt, tryO_ite, sTry_run, sFor_run, forL_nil, forO_nx, forO_ct, forO_bk, forO_rt, forO_ite, forL_cons, toX_rt, toX_nx, toX_ite, xisO_run, rXIs_run, xfO_run, rXF_run, okO_ok, cxO_run, rCallX_run, List.getElem?_cons_zero, List.getElem?_cons_succ, List.set_cons_zero, List.set_cons_succ, List.length_cons, List.length_nil, Option.map_some, Option.map_none, if_true, if_false, ite_true, ite_false, reduceIte, decide_true, decide_false, Bool.not_true, Bool.not_false, Bool.false_eq_true, Int.reduceEq, List.mem_cons, List.not_mem_nil, or_false, or_true, false_or, true_or, Nat.reduceAdd, List.cons_append, List.nil_append, l3, and_self]
  have cl : ∀ a b c d e : PV, clean [.val a, .val b, .val c, .val d, .val e, .no] = true := fun _ _ _ _ _ => rfl
  simp only [r_u_law_told, ob_ok, ob_exc, ob_stuck, ob_ite, os_ok, os_exc, os_stuck, os_ite, st_nx, st_rt, st_bk, st_ct, st_exc, st_stuck, st_ite, so_rt, so_nx, so_exc, so_stuck, so_ite, sv_val, sb_val, sb_own, ov_some, obb_some, bl_run, rC_run, rVar_run, rBor_run, rOp_run, rDGet_run, rIx_run, raNil_run, raCons_run, rTup_run, rLst_run, rDct_run, rCell_run, rCell0_run, rCall_run, rBlt_run, rLen_run, rList_run, rTuple_run, rRepr_run, opRepr_run, negV_int, rNeg_run, rTruB_run, rTru_run, rtAnd_run, rtOr_run, rtNot_run, rIfE_run, andV_t, andV_f, rAndV_run, rOrV_run, rNotV_run, add_int, add_lst, add_tup, add_str, sub_int, mul_int, mod_int, div_int, pow_int, cmp_int, eq_run, ne_run, eqPV_int, eqPV_str, is_non, isnt_non, dget_some, dget_run, ix_lst, ix_tup, len_lst, len_tup, len_scr, list_lst, list_tup, list_scr, int_run, abs_run, seqO_some, riSeq_run, riRg1_run, rg1_run, riRg2_run, rg2_run, gnm_run, sBind_run, sSeq_run, sNext_run, sBreak_run, sCont_run, sRet_run, sRetN_run, sExpr_run, sSet_run, sIf_run, dput_some, dputAt_run, sDPut_run, sPar_run, sOwn_run, rlLst_run, appO_run, appH_run, sAppend_run, frzO_run, sFrz_run, sRaise_run, sRaise0_run, suO_nx, suO_rt, suO_ite, endTry_run, subO_t, subO_f, tryO_exc, tryO_nx, tryO_rt, tryO_ite, sTry_run, sFor_run, forL_nil, forO_nx, forO_ct, forO_bk, forO_rt, forO_ite, forL_cons, toX_rt, toX_nx, toX_ite, xisO_run, rXIs_run, xfO_run, rXF_run, okO_ok, cxO_run, rCallX_run, List.getElem?_cons_zero, List.getElem?_cons_succ, List.set_cons_zero, List.set_cons_succ, List.length_cons, List.length_nil, Option.map_some, Option.map_none, if_true, if_false, ite_true, ite_false, reduceIte, decide_true, decide_false, Bool.not_true, Bool.not_false, Bool.false_eq_true, Int.reduceEq, List.mem_cons, List.not_mem_nil, or_false, or_true, false_or, true_or, Nat.reduceAdd, List.cons_append, List.nil_append, er, ie_0_6, iv_6, tru_bl, ek, cl]
theorem due_5 {one two three : PV} {x1 x2 : Str} {S : Store} (h1 : reprPV true one = some x1) (h2 : reprPV true two = some x2) : F_u_law_due [.int 5, one, two, three] S = .ok (.tup [.str "badname", .str x1]) S := by
  have hz : ∀ k : Nat, k ≤ 100 → k ≤ sizeLine := fun k hk => Nat.le_trans hk (by decide)
  have hy : (0 : Nat) < sizeLine := by decide
  have z0 : (0 : Nat) ≤ sizeLine := hz 0 (by decide)
  have z1 : (1 : Nat) ≤ sizeLine := hz 1 (by decide)
  have z2 : (2 : Nat) ≤ sizeLine := hz 2 (by decide)
  have z3 : (3 : Nat) ≤ sizeLine := hz 3 (by decide)
  have z4 : (4 : Nat) ≤ sizeLine := hz 4 (by decide)
  have z12 : (12 : Nat) ≤ sizeLine := hz 12 (by decide)
  have z16 : (16 : Nat) ≤ sizeLine := hz 16 (by decide)
  refine runF_run.trans ?_
  show SOut.toO (r_u_law_due [.val (.int 5), .val one, .val two, .val three, .no] S) = _
  simp only [r_u_law_due, ob_ok, ob_exc, ob_stuck, ob_ite, os_ok, os_exc, os_stuck, os_ite, st_nx, st_rt, st_bk, st_ct, st_exc, st_stuck, st_ite, so_rt, so_nx, so_exc, so_stuck, so_ite, sv_val, sb_val, sb_own, ov_some, obb_some, bl_run, rC_run, rVar_run, rBor_run, rOp_run, rDGet_run, rIx_run, raNil_run, raCons_run, rTup_run, rLst_run, rDct_run, rCell_run, rCell0_run, rCall_run, rBlt_run, rLen_run, rList_run, rTuple_run, rRepr_run, opRepr_run, negV_int, rNeg_run, rTruB_run, rTru_run, rtAnd_run, rtOr_run, rtNot_run, rIfE_run, andV_t, andV_f, rAndV_run, rOrV_run, rNotV_run, add_int, add_lst, add_tup, add_str, sub_int, mul_int, mod_int, div_int, pow_int, cmp_int, eq_run, ne_run, eqPV_int, eqPV_str, is_non, isnt_non, dget_some, dget_run, ix_lst, ix_tup, len_lst, len_tup, len_scr, list_lst, list_tup, list_scr, int_run, abs_run, seqO_some, riSeq_run, riRg1_run, rg1_run, riRg2_run, rg2_run, gnm_run, sBind_run, sSeq_run, sNext_run, sBreak_run, sCont_run, sRet_run, sRetN_run, sExpr_run, sSet_run, sIf_run, dput_some, dputAt_run, sDPut_run, sPar_run, sOwn_run, rlLst_run, appO_run, appH_run, sAppend_run, frzO_run, sFrz_run, sRaise_run, sRaise0_run, suO_nx, suO_rt, suO_ite, endTry_run, subO_t, subO_f, tryO_exc, tryO_nx, tryO_rt, tryO_ite, sTry_run, sFor_run, forL_nil, forO_nx, forO_ct, forO_bk, forO_rt, forO_ite, forL_cons, toX_rt, toX_nx, toX_ite, xisO_run, rXIs_run, xfO_run, rXF_run, okO_ok, cxO_run, rCallX_run, List.getElem?_cons_zero, List.getElem?_cons_succ, List.set_cons_zero, List.set_cons_succ, List.length_cons, List.length_nil, Option.map_some, Option.map_none, if_true, if_false, ite_true, ite_false, reduceIte, decide_true, decide_false, Bool.not_true, Bool.not_false, Bool.false_eq_true, in_a, in_b, in_c, in_d, Int.reduceEq, List.mem_cons, List.not_mem_nil, or_false, or_true, false_or, true_or, Nat.reduceAdd, List.cons_append, List.nil_append, aw_5, h1, h2, z0, z1, z2, z3, z4, z12, z16, hy]
theorem more_6 {one two three : PV} {x1 x2 : Str} {S : Store} (h1 : reprPV true one = some x1) (h2 : reprPV true two = some x2) : F_u_law_more_kinds 7 (List.reverse ["line", "word"]) (List.reverse [one, two]) S = .ok (.lst []) S := by
  have hz : ∀ k : Nat, k ≤ 100 → k ≤ sizeLine := fun k hk => Nat.le_trans hk (by decide)
  have hy : (0 : Nat) < sizeLine := by decide
  have z0 : (0 : Nat) ≤ sizeLine := hz 0 (by decide)
  have z1 : (1 : Nat) ≤ sizeLine := hz 1 (by decide)
  have z2 : (2 : Nat) ≤ sizeLine := hz 2 (by decide)
  have z3 : (3 : Nat) ≤ sizeLine := hz 3 (by decide)
  have z4 : (4 : Nat) ≤ sizeLine := hz 4 (by decide)
  have z12 : (12 : Nat) ≤ sizeLine := hz 12 (by decide)
  have z16 : (16 : Nat) ≤ sizeLine := hz 16 (by decide)
  refine runH_run.trans ?_
  show toX (r_u_law_more_kinds [.exc 7 (List.reverse ["line", "word"]) (List.reverse [one, two]), .no] S) = _
  simp only [r_u_law_more_kinds, ob_ok, ob_exc, ob_stuck, ob_ite, os_ok, os_exc, os_stuck, os_ite, st_nx, st_rt, st_bk, st_ct, st_exc, st_stuck, st_ite, so_rt, so_nx, so_exc, so_stuck, so_ite, sv_val, sb_val, sb_own, ov_some, obb_some, bl_run, rC_run, rVar_run, rBor_run, rOp_run, rDGet_run, rIx_run, raNil_run, raCons_run, rTup_run, rLst_run, rDct_run, rCell_run, rCell0_run, rCall_run, rBlt_run, rLen_run, rList_run, rTuple_run, rRepr_run, opRepr_run, negV_int, rNeg_run, rTruB_run, rTru_run, rtAnd_run, rtOr_run, rtNot_run, rIfE_run, andV_t, andV_f, rAndV_run, rOrV_run, rNotV_run, add_int, add_lst, add_tup, add_str, sub_int, mul_int, mod_int, div_int, pow_int, cmp_int, eq_run, ne_run, eqPV_int, eqPV_str, is_non, isnt_non, dget_some, dget_run, ix_lst, ix_tup, len_lst, len_tup, len_scr, list_lst, list_tup, list_scr, int_run, abs_run, seqO_some, riSeq_run, riRg1_run, rg1_run, riRg2_run, rg2_run, gnm_run, sBind_run, sSeq_run, sNext_run, sBreak_run, sCont_run, sRet_run, sRetN_run, sExpr_run, sSet_run, sIf_run, dput_some, dputAt_run, sDPut_run, sPar_run, sOwn_run, rlLst_run, appO_run, appH_run, sAppend_run, frzO_run, sFrz_run, sRaise_run, sRaise0_run, suO_nx, suO_rt, suO_ite, endTry_run, subO_t, subO_f, tryO_exc, tryO_nx, tryO_rt, tryO_ite, sTry_run, sFor_run, forL_nil, forO_nx, forO_ct, forO_bk, forO_rt, forO_ite, forL_cons, toX_rt, toX_nx, toX_ite, xisO_run, rXIs_run, xfO_run, rXF_run, okO_ok, cxO_run, rCallX_run, List.getElem?_cons_zero, List.getElem?_cons_succ, List.set_cons_zero, List.set_cons_succ, List.length_cons, List.length_nil, Option.map_some, Option.map_none, if_true, if_false, ite_true, ite_false, reduceIte, decide_true, decide_false, Bool.not_true, Bool.not_false, Bool.false_eq_true, ie_1_7, ie_2_7, ie_3_7, ie_4_7, ie_5_7, ie_6_7, ie_7_7, ie_8_7, ie_9_7, ie_10_7, ie_11_7, ie_12_7, ie_13_7, ie_14_7, ie_15_7, ie_16_7, tru_bl, fm_BadText_line, fm_BadText_word, lk_BadText_line, lk_BadText_word, h1, h2, z0, z1, z2, z3, z4, z12, z16, hy, Int.reduceEq, List.mem_cons, List.not_mem_nil, or_false, or_true, false_or, true_or, Nat.reduceAdd, List.cons_append, List.nil_append]
theorem kinds_6 {one two three : PV} {x1 x2 : Str} {S : Store} (h1 : reprPV true one = some x1) (h2 : reprPV true two = some x2) : F_u_law_kinds 7 (List.reverse ["line", "word"]) (List.reverse [one, two]) S = .ok (.lst [.tup [.str "text", one, two]]) S := by
  have hz : ∀ k : Nat, k ≤ 100 → k ≤ sizeLine := fun k hk => Nat.le_trans hk (by decide)
  have hy : (0 : Nat) < sizeLine := by decide
  have z0 : (0 : Nat) ≤ sizeLine := hz 0 (by decide)
  have z1 : (1 : Nat) ≤ sizeLine := hz 1 (by decide)
  have z2 : (2 : Nat) ≤ sizeLine := hz 2 (by decide)
  have z3 : (3 : Nat) ≤ sizeLine := hz 3 (by decide)
  have z4 : (4 : Nat) ≤ sizeLine := hz 4 (by decide)
  have z12 : (12 : Nat) ≤ sizeLine := hz 12 (by decide)
  have z16 : (16 : Nat) ≤ sizeLine := hz 16 (by decide)
  have em := more_6 (three := three) (S := S) h1 h2
  refine runH_run.trans ?_
  show toX (r_u_law_kinds [.exc 7 (List.reverse ["line", "word"]) (List.reverse [one, two]), .no] S) = _
  simp only [r_u_law_kinds, ob_ok, ob_exc, ob_stuck, ob_ite, os_ok, os_exc, os_stuck, os_ite, st_nx, st_rt, st_bk, st_ct, st_exc, st_stuck, st_ite, so_rt, so_nx, so_exc, so_stuck, so_ite, sv_val, sb_val, sb_own, ov_some, obb_some, bl_run, rC_run, rVar_run, rBor_run, rOp_run, rDGet_run, rIx_run, raNil_run, raCons_run, rTup_run, rLst_run, rDct_run, rCell_run, rCell0_run, rCall_run, rBlt_run, rLen_run, rList_run, rTuple_run, rRepr_run, opRepr_run, negV_int, rNeg_run, rTruB_run, rTru_run, rtAnd_run, rtOr_run, rtNot_run, rIfE_run, andV_t, andV_f, rAndV_run, rOrV_run, rNotV_run, add_int, add_lst, add_tup, add_str, sub_int, mul_int, mod_int, div_int, pow_int, cmp_int, eq_run, ne_run, eqPV_int, eqPV_str, is_non, isnt_non, dget_some, dget_run, ix_lst, ix_tup, len_lst, len_tup, len_scr, list_lst, list_tup, list_scr, int_run, abs_run, seqO_some, riSeq_run, riRg1_run, rg1_run, riRg2_run, rg2_run, gnm_run, sBind_run, sSeq_run, sNext_run, sBreak_run, sCont_run, sRet_run, sRetN_run, sExpr_run, sSet_run, sIf_run, dput_some, dputAt_run, sDPut_run, sPar_run, sOwn_run, rlLst_run, appO_run, appH_run, sAppend_run, frzO_run, sFrz_run, sRaise_run, sRaise0_run, suO_nx, suO_rt, suO_ite, endTry_run, subO_t, subO_f, tryO_exc, tryO_nx, tryO_rt, tryO_ite, sTry_run, sFor_run, forL_nil, forO_nx, forO_ct, forO_bk, forO_rt, forO_ite, forL_cons, toX_rt, toX_nx, toX_ite, xisO_run, rXIs_run, xfO_run, rXF_run, okO_ok, cxO_run, rCallX_run, List.getElem?_cons_zero, List.getElem?_cons_succ, List.set_cons_zero, List.set_cons_succ, List.length_cons, List.length_nil, Option.map_some, Option.map_none, if_true, if_false, ite_true, ite_false, reduceIte, decide_true, decide_false, Bool.not_true, Bool.not_false, Bool.false_eq_true, ie_1_7, ie_2_7, ie_3_7, ie_4_7, ie_5_7, ie_6_7, ie_7_7, ie_8_7, ie_9_7, ie_10_7, ie_11_7, ie_12_7, ie_13_7, ie_14_7, ie_15_7, ie_16_7, tru_bl, fm_BadText_line, fm_BadText_word, lk_BadText_line, lk_BadText_word, h1, h2, z0, z1, z2, z3, z4, z12, z16, hy, Int.reduceEq, List.mem_cons, List.not_mem_nil, or_false, or_true, false_or, true_or, Nat.reduceAdd, List.cons_append, List.nil_append, em]
theorem told_6 {one two three : PV} {x1 x2 : Str} {S : Store} (h1 : reprPV true one = some x1) (h2 : reprPV true two = some x2) : F_u_law_told [.int 6, one, two, three] S = .ok (.lst [.tup [.str "text", one, two]]) S := by
  have ek := kinds_6 (three := three) (S := S) h1 h2
  refine runF_run.trans ?_
  show SOut.toO (r_u_law_told [.val (.int 6), .val one, .val two, .val three, .no, .no] S) = _
  have er : F_u_law_raised [.int 6, one, two] S = .exc 7 (List.reverse ["line", "word"]) (List.reverse [one, two]) S := by
    refine runF_run.trans ?_
    show SOut.toO (r_u_law_raised [.val (.int 6), .val one, .val two] S) = _
    have l3 : (0 : Nat) ≤ 1000 ∧ (1 : Nat) ≤ 1000 ∧ (2 : Nat) ≤ 1000 ∧ (3 : Nat) ≤ 1000 := by decide
    simp only [r_u_law_raised, ob_ok, ob_exc, ob_stuck, ob_ite, os_ok, os_exc, os_stuck, os_ite, st_nx, st_rt, st_bk, st_ct, st_exc, st_stuck, st_ite, so_rt, so_nx, so_exc, so_stuck, so_ite, sv_val, sb_val, sb_own, ov_some, obb_some, bl_run, rC_run, rVar_run, rBor_run, rOp_run, rDGet_run, rIx_run, raNil_run, raCons_run, rTup_run, rLst_run, rDct_run, rCell_run, rCell0_run, rCall_run, rBlt_run, rLen_run, rList_run, rTuple_run, rRepr_run, opRepr_run, negV_int, rNeg_run, rTruB_run, rTru_run, rtAnd_run, rtOr_run, rtNot_run, rIfE_run, andV_t, andV_f, rAndV_run, rOrV_run, rNotV_run, add_int, add_lst, add_tup, add_str, sub_int, mul_int, mod_int, div_int, pow_int, cmp_int, eq_run, ne_run, eqPV_int, eqPV_str, is_non, isnt_non, dget_some, dget_run, ix_lst, ix_tup, len_lst, len_tup, len_scr, list_lst, list_tup, list_scr, int_run, abs_run, seqO_some, riSeq_run, riRg1_run, rg1_run, riRg2_run, rg2_run, gnm_run, sBind_run, sSeq_run, sNext_run, sBreak_run, sCont_run, sRet_run, sRetN_run, sExpr_run, sSet_run, sIf_run, dput_some, dputAt_run, sDPut_run, sPar_run, sOwn_run, rlLst_run, appO_run, appH_run, sAppend_run, frzO_run, sFrz_run, sRaise_run, sRaise0_run, suO_nx, suO_rt, suO_ite, endTry_run, subO_t, subO_f, tryO_exc, tryO_nx, tryO_rt, tryO_ite, sTry_run, sFor_run, forL_nil, forO_nx, forO_ct, forO_bk, forO_rt, forO_ite, forL_cons, toX_rt, toX_nx, toX_ite, xisO_run, rXIs_run, xfO_run, rXF_run, okO_ok, cxO_run, rCallX_run, List.getElem?_cons_zero, List.getElem?_cons_succ, List.set_cons_zero, List.set_cons_succ, List.length_cons, List.length_nil, Option.map_some, Option.map_none, if_true, if_false, ite_true, ite_false, reduceIte, decide_true, decide_false, Bool.not_true, Bool.not_false, Bool.false_eq_true, Int.reduceEq, List.mem_cons, List.not_mem_nil, or_false, or_true, false_or, true_or, Nat.reduceAdd, List.cons_append, List.nil_append, l3, and_self]
  have cl : ∀ a b c d e : PV, clean [.val a, .val b, .val c, .val d, .val e, .no] = true := fun _ _ _ _ _ => rfl
  simp only [r_u_law_told, ob_ok, ob_exc, ob_stuck, ob_ite, os_ok, os_exc, os_stuck, os_ite, st_nx, st_rt, st_bk, st_ct, st_exc, st_stuck, st_ite, so_rt, so_nx, so_exc, so_stuck, so_ite, sv_val, sb_val, sb_own, ov_some, obb_some, bl_run, rC_run, rVar_run, rBor_run, rOp_run, rDGet_run, rIx_run, raNil_run, raCons_run, rTup_run, rLst_run, rDct_run, rCell_run, rCell0_run, rCall_run, rBlt_run, rLen_run, rList_run, rTuple_run, rRepr_run, opRepr_run, negV_int, rNeg_run, rTruB_run, rTru_run, rtAnd_run, rtOr_run, rtNot_run, rIfE_run, andV_t, andV_f, rAndV_run, rOrV_run, rNotV_run, add_int, add_lst, add_tup, add_str, sub_int, mul_int, mod_int, div_int, pow_int, cmp_int, eq_run, ne_run, eqPV_int, eqPV_str, is_non, isnt_non, dget_some, dget_run, ix_lst, ix_tup, len_lst, len_tup, len_scr, list_lst, list_tup, list_scr, int_run, abs_run, seqO_some, riSeq_run, riRg1_run, rg1_run, riRg2_run, rg2_run, gnm_run, sBind_run, sSeq_run, sNext_run, sBreak_run, sCont_run, sRet_run, sRetN_run, sExpr_run, sSet_run, sIf_run, dput_some, dputAt_run, sDPut_run, sPar_run, sOwn_run, rlLst_run, appO_run, appH_run, sAppend_run, frzO_run, sFrz_run, sRaise_run, sRaise0_run, suO_nx, suO_rt, suO_ite, endTry_run, subO_t, subO_f, tryO_exc, tryO_nx, tryO_rt, tryO_ite, sTry_run, sFor_run, forL_nil, forO_nx, forO_ct, forO_bk, forO_rt, forO_ite, forL_cons, toX_rt, toX_nx, toX_ite, xisO_run, rXIs_run, xfO_run, rXF_run, okO_ok, cxO_run, rCallX_run, List.getElem?_cons_zero, List.getElem?_cons_succ, List.set_cons_zero, List.set_cons_succ, List.length_cons, List.length_nil, Option.map_some, Option.map_none, if_true, if_false, ite_true, ite_false, reduceIte, decide_true, decide_false, Bool.not_true, Bool.not_false, Bool.false_eq_true, Int.reduceEq, List.mem_cons, List.not_mem_nil, or_false, or_true, false_or, true_or, Nat.reduceAdd, List.cons_append, List.nil_append, er, ie_0_7, iv_7, tru_bl, ek, cl]
theorem due_6 {one two three : PV} {x1 x2 : Str} {S : Store} (h1 : reprPV true one = some x1) (h2 : reprPV true two = some x2) : F_u_law_due [.int 6, one, two, three] S = .ok (.tup [.str "text", one, two]) S := by
  have hz : ∀ k : Nat, k ≤ 100 → k ≤ sizeLine := fun k hk => Nat.le_trans hk (by decide)
  have hy : (0 : Nat) < sizeLine := by decide
  have z0 : (0 : Nat) ≤ sizeLine := hz 0 (by decide)
  have z1 : (1 : Nat) ≤ sizeLine := hz 1 (by decide)
  have z2 : (2 : Nat) ≤ sizeLine := hz 2 (by decide)
  have z3 : (3 : Nat) ≤ sizeLine := hz 3 (by decide)
  have z4 : (4 : Nat) ≤ sizeLine := hz 4 (by decide)
  have z12 : (12 : Nat) ≤ sizeLine := hz 12 (by decide)
  have z16 : (16 : Nat) ≤ sizeLine := hz 16 (by decide)
  refine runF_run.trans ?_
  show SOut.toO (r_u_law_due [.val (.int 6), .val one, .val two, .val three, .no] S) = _
  simp only [r_u_law_due, ob_ok, ob_exc, ob_stuck, ob_ite, os_ok, os_exc, os_stuck, os_ite, st_nx, st_rt, st_bk, st_ct, st_exc, st_stuck, st_ite, so_rt, so_nx, so_exc, so_stuck, so_ite, sv_val, sb_val, sb_own, ov_some, obb_some, bl_run, rC_run, rVar_run, rBor_run, rOp_run, rDGet_run, rIx_run, raNil_run, raCons_run, rTup_run, rLst_run, rDct_run, rCell_run, rCell0_run, rCall_run, rBlt_run, rLen_run, rList_run, rTuple_run, rRepr_run, opRepr_run, negV_int, rNeg_run, rTruB_run, rTru_run, rtAnd_run, rtOr_run, rtNot_run, rIfE_run, andV_t, andV_f, rAndV_run, rOrV_run, rNotV_run, add_int, add_lst, add_tup, add_str, sub_int, mul_int, mod_int, div_int, pow_int, cmp_int, eq_run, ne_run, eqPV_int, eqPV_str, is_non, isnt_non, dget_some, dget_run, ix_lst, ix_tup, len_lst, len_tup, len_scr, list_lst, list_tup, list_scr, int_run, abs_run, seqO_some, riSeq_run, riRg1_run, rg1_run, riRg2_run, rg2_run, gnm_run, sBind_run, sSeq_run, sNext_run, sBreak_run, sCont_run, sRet_run, sRetN_run, sExpr_run, sSet_run, sIf_run, dput_some, dputAt_run, sDPut_run, sPar_run, sOwn_run, rlLst_run, appO_run, appH_run, sAppend_run, frzO_run, sFrz_run, sRaise_run, sRaise0_run, suO_nx, suO_rt, suO_ite, endTry_run, subO_t, subO_f, tryO_exc, tryO_nx, tryO_rt, tryO_ite, sTry_run, sFor_run, forL_nil, forO_nx, forO_ct, forO_bk, forO_rt, forO_ite, forL_cons, toX_rt, toX_nx, toX_ite, xisO_run, rXIs_run, xfO_run, rXF_run, okO_ok, cxO_run, rCallX_run, List.getElem?_cons_zero, List.getElem?_cons_succ, List.set_cons_zero, List.set_cons_succ, List.length_cons, List.length_nil, Option.map_some, Option.map_none, if_true, if_false, ite_true, ite_false, reduceIte, decide_true, decide_false, Bool.not_true, Bool.not_false, Bool.false_eq_true, in_a, in_b, in_c, in_d, Int.reduceEq, List.mem_cons, List.not_mem_nil, or_false, or_true, false_or, true_or, Nat.reduceAdd, List.cons_append, List.nil_append, aw_6, h1, h2, z0, z1, z2, z3, z4, z12, z16, hy]
theorem more_7 {one two three : PV} {x1 x2 : Str} {S : Store} (h1 : reprPV true one = some x1) (h2 : reprPV true two = some x2) : F_u_law_more_kinds 8 (List.reverse ["what", "place"]) (List.reverse [one, two]) S = .ok (.lst []) S := by
  have hz : ∀ k : Nat, k ≤ 100 → k ≤ sizeLine := fun k hk => Nat.le_trans hk (by decide)
  have hy : (0 : Nat) < sizeLine := by decide
  have z0 : (0 : Nat) ≤ sizeLine := hz 0 (by decide)
  have z1 : (1 : Nat) ≤ sizeLine := hz 1 (by decide)
  have z2 : (2 : Nat) ≤ sizeLine := hz 2 (by decide)
  have z3 : (3 : Nat) ≤ sizeLine := hz 3 (by decide)
  have z4 : (4 : Nat) ≤ sizeLine := hz 4 (by decide)
  have z12 : (12 : Nat) ≤ sizeLine := hz 12 (by decide)
  have z16 : (16 : Nat) ≤ sizeLine := hz 16 (by decide)
  refine runH_run.trans ?_
  show toX (r_u_law_more_kinds [.exc 8 (List.reverse ["what", "place"]) (List.reverse [one, two]), .no] S) = _
  simp only [r_u_law_more_kinds, ob_ok, ob_exc, ob_stuck, ob_ite, os_ok, os_exc, os_stuck, os_ite, st_nx, st_rt, st_bk, st_ct, st_exc, st_stuck, st_ite, so_rt, so_nx, so_exc, so_stuck, so_ite, sv_val, sb_val, sb_own, ov_some, obb_some, bl_run, rC_run, rVar_run, rBor_run, rOp_run, rDGet_run, rIx_run, raNil_run, raCons_run, rTup_run, rLst_run, rDct_run, rCell_run, rCell0_run, rCall_run, rBlt_run, rLen_run, rList_run, rTuple_run, rRepr_run, opRepr_run, negV_int, rNeg_run, rTruB_run, rTru_run, rtAnd_run, rtOr_run, rtNot_run, rIfE_run, andV_t, andV_f, rAndV_run, rOrV_run, rNotV_run, add_int, add_lst, add_tup, add_str, sub_int, mul_int, mod_int, div_int, pow_int, cmp_int, eq_run, ne_run, eqPV_int, eqPV_str, is_non, isnt_non, dget_some, dget_run, ix_lst, ix_tup, len_lst, len_tup, len_scr, list_lst, list_tup, list_scr, int_run, abs_run, seqO_some, riSeq_run, riRg1_run, rg1_run, riRg2_run, rg2_run, gnm_run, sBind_run, sSeq_run, sNext_run, sBreak_run, sCont_run, sRet_run, sRetN_run, sExpr_run, sSet_run, sIf_run, dput_some, dputAt_run, sDPut_run, sPar_run, sOwn_run, rlLst_run, appO_run, appH_run, sAppend_run, frzO_run, sFrz_run, sRaise_run, sRaise0_run, suO_nx, suO_rt, suO_ite, endTry_run, subO_t, subO_f, tryO_exc, tryO_nx, tryO_rt, tryO_ite, sTry_run, sFor_run, forL_nil, forO_nx, forO_ct, forO_bk, forO_rt, forO_ite, forL_cons, toX_rt, toX_nx, toX_ite, xisO_run, rXIs_run, xfO_run, rXF_run, okO_ok, cxO_run, rCallX_run, List.getElem?_cons_zero, List.getElem?_cons_succ, List.set_cons_zero, List.set_cons_succ, List.length_cons, List.length_nil, Option.map_some, Option.map_none, if_true, if_false, ite_true, ite_false, reduceIte, decide_true, decide_false, Bool.not_true, Bool.not_false, Bool.false_eq_true, ie_1_8, ie_2_8, ie_3_8, ie_4_8, ie_5_8, ie_6_8, ie_7_8, ie_8_8, ie_9_8, ie_10_8, ie_11_8, ie_12_8, ie_13_8, ie_14_8, ie_15_8, ie_16_8, tru_bl, fm_NoPlace_what, fm_NoPlace_place, lk_NoPlace_what, lk_NoPlace_place, h1, h2, z0, z1, z2, z3, z4, z12, z16, hy, Int.reduceEq, List.mem_cons, List.not_mem_nil, or_false, or_true, false_or, true_or, Nat.reduceAdd, List.cons_append, List.nil_append]
theorem kinds_7 {one two three : PV} {x1 x2 : Str} {S : Store} (h1 : reprPV true one = some x1) (h2 : reprPV true two = some x2) : F_u_law_kinds 8 (List.reverse ["what", "place"]) (List.reverse [one, two]) S = .ok (.lst [.tup [.str "place", one, .str x2]]) S := by
  have hz : ∀ k : Nat, k ≤ 100 → k ≤ sizeLine := fun k hk => Nat.le_trans hk (by decide)
  have hy : (0 : Nat) < sizeLine := by decide
  have z0 : (0 : Nat) ≤ sizeLine := hz 0 (by decide)
  have z1 : (1 : Nat) ≤ sizeLine := hz 1 (by decide)
  have z2 : (2 : Nat) ≤ sizeLine := hz 2 (by decide)
  have z3 : (3 : Nat) ≤ sizeLine := hz 3 (by decide)
  have z4 : (4 : Nat) ≤ sizeLine := hz 4 (by decide)
  have z12 : (12 : Nat) ≤ sizeLine := hz 12 (by decide)
  have z16 : (16 : Nat) ≤ sizeLine := hz 16 (by decide)
  have em := more_7 (three := three) (S := S) h1 h2
  refine runH_run.trans ?_
  show toX (r_u_law_kinds [.exc 8 (List.reverse ["what", "place"]) (List.reverse [one, two]), .no] S) = _
  simp only [r_u_law_kinds, ob_ok, ob_exc, ob_stuck, ob_ite, os_ok, os_exc, os_stuck, os_ite, st_nx, st_rt, st_bk, st_ct, st_exc, st_stuck, st_ite, so_rt, so_nx, so_exc, so_stuck, so_ite, sv_val, sb_val, sb_own, ov_some, obb_some, bl_run, rC_run, rVar_run, rBor_run, rOp_run, rDGet_run, rIx_run, raNil_run, raCons_run, rTup_run, rLst_run, rDct_run, rCell_run, rCell0_run, rCall_run, rBlt_run, rLen_run, rList_run, rTuple_run, rRepr_run, opRepr_run, negV_int, rNeg_run, rTruB_run, rTru_run, rtAnd_run, rtOr_run, rtNot_run, rIfE_run, andV_t, andV_f, rAndV_run, rOrV_run, rNotV_run, add_int, add_lst, add_tup, add_str, sub_int, mul_int, mod_int, div_int, pow_int, cmp_int, eq_run, ne_run, eqPV_int, eqPV_str, is_non, isnt_non, dget_some, dget_run, ix_lst, ix_tup, len_lst, len_tup, len_scr, list_lst, list_tup, list_scr, int_run, abs_run, seqO_some, riSeq_run, riRg1_run, rg1_run, riRg2_run, rg2_run, gnm_run, sBind_run, sSeq_run, sNext_run, sBreak_run, sCont_run, sRet_run, sRetN_run, sExpr_run, sSet_run, sIf_run, dput_some, dputAt_run, sDPut_run, sPar_run, sOwn_run, rlLst_run, appO_run, appH_run, sAppend_run, frzO_run, sFrz_run, sRaise_run, sRaise0_run, suO_nx, suO_rt, suO_ite, endTry_run, subO_t, subO_f, tryO_exc, tryO_nx, tryO_rt, tryO_ite, sTry_run, sFor_run, forL_nil, forO_nx, forO_ct, forO_bk, forO_rt, forO_ite, forL_cons, toX_rt, toX_nx, toX_ite, xisO_run, rXIs_run, xfO_run, rXF_run, okO_ok, cxO_run, rCallX_run, List.getElem?_cons_zero, List.getElem?_cons_succ, List.set_cons_zero, List.set_cons_succ, List.length_cons, List.length_nil, Option.map_some, Option.map_none, if_true, if_false, ite_true, ite_false, reduceIte, decide_true, decide_false, Bool.not_true, Bool.not_false, Bool.false_eq_true, ie_1_8, ie_2_8, ie_3_8, ie_4_8, ie_5_8, ie_6_8, ie_7_8, ie_8_8, ie_9_8, ie_10_8, ie_11_8, ie_12_8, ie_13_8, ie_14_8, ie_15_8, ie_16_8, tru_bl, fm_NoPlace_what, fm_NoPlace_place, lk_NoPlace_what, lk_NoPlace_place, h1, h2, z0, z1, z2, z3, z4, z12, z16, hy, Int.reduceEq, List.mem_cons, List.not_mem_nil, or_false, or_true, false_or, true_or, Nat.reduceAdd, List.cons_append, List.nil_append, em]
theorem told_7 {one two three : PV} {x1 x2 : Str} {S : Store} (h1 : reprPV true one = some x1) (h2 : reprPV true two = some x2) : F_u_law_told [.int 7, one, two, three] S = .ok (.lst [.tup [.str "place", one, .str x2]]) S := by
  have ek := kinds_7 (three := three) (S := S) h1 h2
  refine runF_run.trans ?_
  show SOut.toO (r_u_law_told [.val (.int 7), .val one, .val two, .val three, .no, .no] S) = _
  have er : F_u_law_raised [.int 7, one, two] S = .exc 8 (List.reverse ["what", "place"]) (List.reverse [one, two]) S := by
    refine runF_run.trans ?_
    show SOut.toO (r_u_law_raised [.val (.int 7), .val one, .val two] S) = _
    have l3 : (0 : Nat) ≤ 1000 ∧ (1 : Nat) ≤ 1000 ∧ (2 : Nat) ≤ 1000 ∧ (3 : Nat) ≤ 1000 := by decide
    simp only [r_u_law_raised, ob_ok, ob_exc, ob_stuck, ob_ite, os_ok, os_exc, os_stuck, os_ite, st_nx, st_rt, st_bk, st_ct, st_exc, st_stuck, st_ite, so_rt, so_nx, so_exc, so_stuck, so_ite, sv_val, sb_val, sb_own, ov_some, obb_some, bl_run, rC_run, rVar_run, rBor_run, rOp_run, rDGet_run, rIx_run, raNil_run, raCons_run, rTup_run, rLst_run, rDct_run, rCell_run, rCell0_run, rCall_run, rBlt_run, rLen_run, rList_run, rTuple_run, rRepr_run, opRepr_run, negV_int, rNeg_run, rTruB_run, rTru_run, rtAnd_run, rtOr_run, rtNot_run, rIfE_run, andV_t, andV_f, rAndV_run, rOrV_run, rNotV_run, add_int, add_lst, add_tup, add_str, sub_int, mul_int, mod_int, div_int, pow_int, cmp_int, eq_run, ne_run, eqPV_int, eqPV_str, is_non, isnt_non, dget_some, dget_run, ix_lst, ix_tup, len_lst, len_tup, len_scr, list_lst, list_tup, list_scr, int_run, abs_run, seqO_some, riSeq_run, riRg1_run, rg1_run, riRg2_run, rg2_run, gnm_run, sBind_run, sSeq_run, sNext_run, sBreak_run, sCont_run, sRet_run, sRetN_run, sExpr_run, sSet_run, sIf_run, dput_some, dputAt_run, sDPut_run, sPar_run, sOwn_run, rlLst_run, appO_run, appH_run, sAppend_run, frzO_run, sFrz_run, sRaise_run, sRaise0_run, suO_nx, suO_rt, suO_ite, endTry_run, subO_t, subO_f, tryO_exc, tryO_nx, tryO_rt, tryO_ite, sTry_run, sFor_run, forL_nil, forO_nx, forO_ct, forO_bk, forO_rt, forO_ite, forL_cons, toX_rt, toX_nx, toX_ite, xisO_run, rXIs_run, xfO_run, rXF_run, okO_ok, cxO_run, rCallX_run, List.getElem?_cons_zero, List.getElem?_cons_succ, List.set_cons_zero, List.set_cons_succ, List.length_cons, List.length_nil, Option.map_some, Option.map_none, if_true, if_false, ite_true, ite_false, reduceIte, decide_true, decide_false, Bool.not_true, Bool.not_false, Bool.false_eq_true, Int.reduceEq, List.mem_cons, List.not_mem_nil, or_false, or_true, false_or, true_or, Nat.reduceAdd, List.cons_append, List.nil_append, l3, and_self]
  have cl : ∀ a b c d e : PV, clean [.val a, .val b, .val c, .val d, .val e, .no] = true := fun _ _ _ _ _ => rfl
  simp only [r_u_law_told, ob_ok, ob_exc, ob_stuck, ob_ite, os_ok, os_exc, os_stuck, os_ite, st_nx, st_rt, st_bk, st_ct, st_exc, st_stuck, st_ite, so_rt, so_nx, so_exc, so_stuck, so_ite, sv_val, sb_val, sb_own, ov_some, obb_some, bl_run, rC_run, rVar_run, rBor_run, rOp_run, rDGet_run, rIx_run, raNil_run, raCons_run, rTup_run, rLst_run, rDct_run, rCell_run, rCell0_run, rCall_run, rBlt_run, rLen_run, rList_run, rTuple_run, rRepr_run, opRepr_run, negV_int, rNeg_run, rTruB_run, rTru_run, rtAnd_run, rtOr_run, rtNot_run, rIfE_run, andV_t, andV_f, rAndV_run, rOrV_run, rNotV_run, add_int, add_lst, add_tup, add_str, sub_int, mul_int, mod_int, div_int, pow_int, cmp_int, eq_run, ne_run, eqPV_int, eqPV_str, is_non, isnt_non, dget_some, dget_run, ix_lst, ix_tup, len_lst, len_tup, len_scr, list_lst, list_tup, list_scr, int_run, abs_run, seqO_some, riSeq_run, riRg1_run, rg1_run, riRg2_run, rg2_run, gnm_run, sBind_run, sSeq_run, sNext_run, sBreak_run, sCont_run, sRet_run, sRetN_run, sExpr_run, sSet_run, sIf_run, dput_some, dputAt_run, sDPut_run, sPar_run, sOwn_run, rlLst_run, appO_run, appH_run, sAppend_run, frzO_run, sFrz_run, sRaise_run, sRaise0_run, suO_nx, suO_rt, suO_ite, endTry_run, subO_t, subO_f, tryO_exc, tryO_nx, tryO_rt, tryO_ite, sTry_run, sFor_run, forL_nil, forO_nx, forO_ct, forO_bk, forO_rt, forO_ite, forL_cons, toX_rt, toX_nx, toX_ite, xisO_run, rXIs_run, xfO_run, rXF_run, okO_ok, cxO_run, rCallX_run, List.getElem?_cons_zero, List.getElem?_cons_succ, List.set_cons_zero, List.set_cons_succ, List.length_cons, List.length_nil, Option.map_some, Option.map_none, if_true, if_false, ite_true, ite_false, reduceIte, decide_true, decide_false, Bool.not_true, Bool.not_false, Bool.false_eq_true, Int.reduceEq, List.mem_cons, List.not_mem_nil, or_false, or_true, false_or, true_or, Nat.reduceAdd, List.cons_append, List.nil_append, er, ie_0_8, iv_8, tru_bl, ek, cl]
theorem due_7 {one two three : PV} {x1 x2 : Str} {S : Store} (h1 : reprPV true one = some x1) (h2 : reprPV true two = some x2) : F_u_law_due [.int 7, one, two, three] S = .ok (.tup [.str "place", one, .str x2]) S := by
  have hz : ∀ k : Nat, k ≤ 100 → k ≤ sizeLine := fun k hk => Nat.le_trans hk (by decide)
  have hy : (0 : Nat) < sizeLine := by decide
  have z0 : (0 : Nat) ≤ sizeLine := hz 0 (by decide)
  have z1 : (1 : Nat) ≤ sizeLine := hz 1 (by decide)
  have z2 : (2 : Nat) ≤ sizeLine := hz 2 (by decide)
  have z3 : (3 : Nat) ≤ sizeLine := hz 3 (by decide)
  have z4 : (4 : Nat) ≤ sizeLine := hz 4 (by decide)
  have z12 : (12 : Nat) ≤ sizeLine := hz 12 (by decide)
  have z16 : (16 : Nat) ≤ sizeLine := hz 16 (by decide)
  refine runF_run.trans ?_
  show SOut.toO (r_u_law_due [.val (.int 7), .val one, .val two, .val three, .no] S) = _
  simp only [r_u_law_due, ob_ok, ob_exc, ob_stuck, ob_ite, os_ok, os_exc, os_stuck, os_ite, st_nx, st_rt, st_bk, st_ct, st_exc, st_stuck, st_ite, so_rt, so_nx, so_exc, so_stuck, so_ite, sv_val, sb_val, sb_own, ov_some, obb_some, bl_run, rC_run, rVar_run, rBor_run, rOp_run, rDGet_run, rIx_run, raNil_run, raCons_run, rTup_run, rLst_run, rDct_run, rCell_run, rCell0_run, rCall_run, rBlt_run, rLen_run, rList_run, rTuple_run, rRepr_run, opRepr_run, negV_int, rNeg_run, rTruB_run, rTru_run, rtAnd_run, rtOr_run, rtNot_run, rIfE_run, andV_t, andV_f, rAndV_run, rOrV_run, rNotV_run, add_int, add_lst, add_tup, add_str, sub_int, mul_int, mod_int, div_int, pow_int, cmp_int, eq_run, ne_run, eqPV_int, eqPV_str, is_non, isnt_non, dget_some, dget_run, ix_lst, ix_tup, len_lst, len_tup, len_scr, list_lst, list_tup, list_scr, int_run, abs_run, seqO_some, riSeq_run, riRg1_run, rg1_run, riRg2_run, rg2_run, gnm_run, sBind_run, sSeq_run, sNext_run, sBreak_run, sCont_run, sRet_run, sRetN_run, sExpr_run, sSet_run, sIf_run, dput_some, dputAt_run, sDPut_run, sPar_run, sOwn_run, rlLst_run, appO_run, appH_run, sAppend_run, frzO_run, sFrz_run, sRaise_run, sRaise0_run, suO_nx, suO_rt, suO_ite, endTry_run, subO_t, subO_f, tryO_exc, tryO_nx, tryO_rt, tryO_ite, sTry_run, sFor_run, forL_nil, forO_nx, forO_ct, forO_bk, forO_rt, forO_ite, forL_cons, toX_rt, toX_nx, toX_ite, xisO_run, rXIs_run, xfO_run, rXF_run, okO_ok, cxO_run, rCallX_run, List.getElem?_cons_zero, List.getElem?_cons_succ, List.set_cons_zero, List.set_cons_succ, List.length_cons, List.length_nil, Option.map_some, Option.map_none, if_true, if_false, ite_true, ite_false, reduceIte, decide_true, decide_false, Bool.not_true, Bool.not_false, Bool.false_eq_true, in_a, in_b, in_c, in_d, Int.reduceEq, List.mem_cons, List.not_mem_nil, or_false, or_true, false_or, true_or, Nat.reduceAdd, List.cons_append, List.nil_append, aw_7, h1, h2, z0, z1, z2, z3, z4, z12, z16, hy]
theorem more_8 {one two three : PV} {x1 x2 : Str} {S : Store} (h1 : reprPV true one = some x1) (h2 : reprPV true two = some x2) : F_u_law_more_kinds 9 (List.reverse ["name"]) (List.reverse [one]) S = .ok (.lst [.tup [.str "noname", .str x1]]) S := by
  have hz : ∀ k : Nat, k ≤ 100 → k ≤ sizeLine := fun k hk => Nat.le_trans hk (by decide)
  have hy : (0 : Nat) < sizeLine := by decide
  have z0 : (0 : Nat) ≤ sizeLine := hz 0 (by decide)
  have z1 : (1 : Nat) ≤ sizeLine := hz 1 (by decide)
  have z2 : (2 : Nat) ≤ sizeLine := hz 2 (by decide)
  have z3 : (3 : Nat) ≤ sizeLine := hz 3 (by decide)
  have z4 : (4 : Nat) ≤ sizeLine := hz 4 (by decide)
  have z12 : (12 : Nat) ≤ sizeLine := hz 12 (by decide)
  have z16 : (16 : Nat) ≤ sizeLine := hz 16 (by decide)
  refine runH_run.trans ?_
  show toX (r_u_law_more_kinds [.exc 9 (List.reverse ["name"]) (List.reverse [one]), .no] S) = _
  simp only [r_u_law_more_kinds, ob_ok, ob_exc, ob_stuck, ob_ite, os_ok, os_exc, os_stuck, os_ite, st_nx, st_rt, st_bk, st_ct, st_exc, st_stuck, st_ite, so_rt, so_nx, so_exc, so_stuck, so_ite, sv_val, sb_val, sb_own, ov_some, obb_some, bl_run, rC_run, rVar_run, rBor_run, rOp_run, rDGet_run, rIx_run, raNil_run, raCons_run, rTup_run, rLst_run, rDct_run, rCell_run, rCell0_run, rCall_run, rBlt_run, rLen_run, rList_run, rTuple_run, rRepr_run, opRepr_run, negV_int, rNeg_run, rTruB_run, rTru_run, rtAnd_run, rtOr_run, rtNot_run, rIfE_run, andV_t, andV_f, rAndV_run, rOrV_run, rNotV_run, add_int, add_lst, add_tup, add_str, sub_int, mul_int, mod_int, div_int, pow_int, cmp_int, eq_run, ne_run, eqPV_int, eqPV_str, is_non, isnt_non, dget_some, dget_run, ix_lst, ix_tup, len_lst, len_tup, len_scr, list_lst, list_tup, list_scr, int_run, abs_run, seqO_some, riSeq_run, riRg1_run, rg1_run, riRg2_run, rg2_run, gnm_run, sBind_run, sSeq_run, sNext_run, sBreak_run, sCont_run, sRet_run, sRetN_run, sExpr_run, sSet_run, sIf_run, dput_some, dputAt_run, sDPut_run, sPar_run, sOwn_run, rlLst_run, appO_run, appH_run, sAppend_run, frzO_run, sFrz_run, sRaise_run, sRaise0_run, suO_nx, suO_rt, suO_ite, endTry_run, subO_t, subO_f, tryO_exc, tryO_nx, tryO_rt, tryO_ite, sTry_run, sFor_run, forL_nil, forO_nx, forO_ct, forO_bk, forO_rt, forO_ite, forL_cons, toX_rt, toX_nx, toX_ite, xisO_run, rXIs_run, xfO_run, rXF_run, okO_ok, cxO_run, rCallX_run, List.getElem?_cons_zero, List.getElem?_cons_succ, List.set_cons_zero, List.set_cons_succ, List.length_cons, List.length_nil, Option.map_some, Option.map_none, if_true, if_false, ite_true, ite_false, reduceIte, decide_true, decide_false, Bool.not_true, Bool.not_false, Bool.false_eq_true, ie_1_9, ie_2_9, ie_3_9, ie_4_9, ie_5_9, ie_6_9, ie_7_9, ie_8_9, ie_9_9, ie_10_9, ie_11_9, ie_12_9, ie_13_9, ie_14_9, ie_15_9, ie_16_9, tru_bl, fm_NoName_name, lk_NoName_name, h1, h2, z0, z1, z2, z3, z4, z12, z16, hy, Int.reduceEq, List.mem_cons, List.not_mem_nil, or_false, or_true, false_or, true_or, Nat.reduceAdd, List.cons_append, List.nil_append]
theorem kinds_8 {one two three : PV} {x1 x2 : Str} {S : Store} (h1 : reprPV true one = some x1) (h2 : reprPV true two = some x2) : F_u_law_kinds 9 (List.reverse ["name"]) (List.reverse [one]) S = .ok (.lst [.tup [.str "noname", .str x1]]) S := by
  have hz : ∀ k : Nat, k ≤ 100 → k ≤ sizeLine := fun k hk => Nat.le_trans hk (by decide)
  have hy : (0 : Nat) < sizeLine := by decide
  have z0 : (0 : Nat) ≤ sizeLine := hz 0 (by decide)
  have z1 : (1 : Nat) ≤ sizeLine := hz 1 (by decide)
  have z2 : (2 : Nat) ≤ sizeLine := hz 2 (by decide)
  have z3 : (3 : Nat) ≤ sizeLine := hz 3 (by decide)
  have z4 : (4 : Nat) ≤ sizeLine := hz 4 (by decide)
  have z12 : (12 : Nat) ≤ sizeLine := hz 12 (by decide)
  have z16 : (16 : Nat) ≤ sizeLine := hz 16 (by decide)
  have em := more_8 (three := three) (S := S) h1 h2
  refine runH_run.trans ?_
  show toX (r_u_law_kinds [.exc 9 (List.reverse ["name"]) (List.reverse [one]), .no] S) = _
  simp only [r_u_law_kinds, ob_ok, ob_exc, ob_stuck, ob_ite, os_ok, os_exc, os_stuck, os_ite, st_nx, st_rt, st_bk, st_ct, st_exc, st_stuck, st_ite, so_rt, so_nx, so_exc, so_stuck, so_ite, sv_val, sb_val, sb_own, ov_some, obb_some, bl_run, rC_run, rVar_run, rBor_run, rOp_run, rDGet_run, rIx_run, raNil_run, raCons_run, rTup_run, rLst_run, rDct_run, rCell_run, rCell0_run, rCall_run, rBlt_run, rLen_run, rList_run, rTuple_run, rRepr_run, opRepr_run, negV_int, rNeg_run, rTruB_run, rTru_run, rtAnd_run, rtOr_run, rtNot_run, rIfE_run, andV_t, andV_f, rAndV_run, rOrV_run, rNotV_run, add_int, add_lst, add_tup, add_str, sub_int, mul_int, mod_int, div_int, pow_int, cmp_int, eq_run, ne_run, eqPV_int, eqPV_str, is_non, isnt_non, dget_some, dget_run, ix_lst, ix_tup, len_lst, len_tup, len_scr, list_lst, list_tup, list_scr, int_run, abs_run, seqO_some, riSeq_run, riRg1_run, rg1_run, riRg2_run, rg2_run, gnm_run, sBind_run, sSeq_run, sNext_run, sBreak_run, sCont_run, sRet_run, sRetN_run, sExpr_run, sSet_run, sIf_run, dput_some, dputAt_run, sDPut_run, sPar_run, sOwn_run, rlLst_run, appO_run, appH_run, sAppend_run, frzO_run, sFrz_run, sRaise_run, sRaise0_run, suO_nx, suO_rt, suO_ite, endTry_run, subO_t, subO_f, tryO_exc, tryO_nx, tryO_rt, tryO_ite, sTry_run, sFor_run, forL_nil, forO_nx, forO_ct, forO_bk, forO_rt, forO_ite, forL_cons, toX_rt, toX_nx, toX_ite, xisO_run, rXIs_run, xfO_run, rXF_run, okO_ok, cxO_run, rCallX_run, List.getElem?_cons_zero, List.getElem?_cons_succ, List.set_cons_zero, List.set_cons_succ, List.length_cons, List.length_nil, Option.map_some, Option.map_none, if_true, if_false, ite_true, ite_false, reduceIte, decide_true, decide_false, Bool.not_true, Bool.not_false, Bool.false_eq_true, ie_1_9, ie_2_9, ie_3_9, ie_4_9, ie_5_9, ie_6_9, ie_7_9, ie_8_9, ie_9_9, ie_10_9, ie_11_9, ie_12_9, ie_13_9, ie_14_9, ie_15_9, ie_16_9, tru_bl, fm_NoName_name, lk_NoName_name, h1, h2, z0, z1, z2, z3, z4, z12, z16, hy, Int.reduceEq, List.mem_cons, List.not_mem_nil, or_false, or_true, false_or, true_or, Nat.reduceAdd, List.cons_append, List.nil_append, em]
theorem told_8 {one two three : PV} {x1 x2 : Str} {S : Store} (h1 : reprPV true one = some x1) (h2 : reprPV true two = some x2) : F_u_law_told [.int 8, one, two, three] S = .ok (.lst [.tup [.str "noname", .str x1]]) S := by
  have ek := kinds_8 (three := three) (S := S) h1 h2
  refine runF_run.trans ?_
  show SOut.toO (r_u_law_told [.val (.int 8), .val one, .val two, .val three, .no, .no] S) = _
  have er : F_u_law_raised [.int 8, one, two] S = .ok .non S := by
    refine runF_run.trans ?_
    show SOut.toO (r_u_law_raised [.val (.int 8), .val one, .val two] S) = _
    simp only [r_u_law_raised, ob_ok, ob_exc, ob_stuck, ob_ite, os_ok, os_exc, os_stuck, os_ite, st_nx, st_rt, st_bk, st_ct, st_exc, st_stuck, st_ite, so_rt, so_nx, so_exc, so_stuck, so_ite, sv_val, sb_val, sb_own, ov_some, obb_some, bl_run, rC_run, rVar_run, rBor_run, rOp_run, rDGet_run, rIx_run, raNil_run, raCons_run, rTup_run, rLst_run, rDct_run, rCell_run, rCell0_run, rCall_run, rBlt_run, rLen_run, rList_run, rTuple_run, rRepr_run, opRepr_run, negV_int, rNeg_run, rTruB_run, rTru_run, rtAnd_run, rtOr_run, rtNot_run, rIfE_run, andV_t, andV_f, rAndV_run, rOrV_run, rNotV_run, add_int, add_lst, add_tup, add_str, sub_int, mul_int, mod_int, div_int, pow_int, cmp_int, eq_run, ne_run, eqPV_int, eqPV_str, is_non, isnt_non, dget_some, dget_run, ix_lst, ix_tup, len_lst, len_tup, len_scr, list_lst, list_tup, list_scr, int_run, abs_run, seqO_some, riSeq_run, riRg1_run, rg1_run, riRg2_run, rg2_run, gnm_run, sBind_run, sSeq_run, sNext_run, sBreak_run, sCont_run, sRet_run, sRetN_run, sExpr_run, sSet_run, sIf_run, dput_some, dputAt_run, sDPut_run, sPar_run, sOwn_run, rlLst_run, appO_run, appH_run, sAppend_run, frzO_run, sFrz_run, sRaise_run, sRaise0_run, suO_nx, suO_rt, suO_ite, endTry_run, subO_t, subO_f, tryO_exc, tryO_nx, tryO_rt, tryO_ite, sTry_run, sFor_run, forL_nil, forO_nx, forO_ct, forO_bk, forO_rt, forO_ite, forL_cons, toX_rt, toX_nx, toX_ite, xisO_run, rXIs_run, xfO_run, rXF_run, okO_ok, cxO_run, rCallX_run, List.getElem?_cons_zero, List.getElem?_cons_succ, List.set_cons_zero, List.set_cons_succ, List.length_cons, List.length_nil, Option.map_some, Option.map_none, if_true, if_false, ite_true, ite_false, reduceIte, decide_true, decide_false, Bool.not_true, Bool.not_false, Bool.false_eq_true, Int.reduceEq, List.mem_cons, List.not_mem_nil, or_false, or_true, false_or, true_or, Nat.reduceAdd, List.cons_append, List.nil_append]
  have er2 : F_u_law_raised_too [.int 8, one, two, three] S = .exc 9 (List.reverse ["name"]) (List.reverse [one]) S := by
    refine runF_run.trans ?_
    show SOut.toO (r_u_law_raised_too [.val (.int 8), .val one, .val two, .val three] S) = _
    have l3 : (0 : Nat) ≤ 1000 ∧ (1 : Nat) ≤ 1000 ∧ (2 : Nat) ≤ 1000 ∧ (3 : Nat) ≤ 1000 := by decide
    simp only [r_u_law_raised_too, ob_ok, ob_exc, ob_stuck, ob_ite, os_ok, os_exc, os_stuck, os_ite, st_nx, st_rt, st_bk, st_ct, st_exc, st_stuck, st_ite, so_rt, so_nx, so_exc, so_stuck, so_ite, sv_val, sb_val, sb_own, ov_some, obb_some, bl_run, rC_run, rVar_run, rBor_run, rOp_run, rDGet_run, rIx_run, raNil_run, raCons_run, rTup_run, rLst_run, rDct_run, rCell_run, rCell0_run, rCall_run, rBlt_run, rLen_run, rList_run, rTuple_run, rRepr_run, opRepr_run, negV_int, rNeg_run, rTruB_run, rTru_run, rtAnd_run, rtOr_run, rtNot_run, rIfE_run, andV_t, andV_f, rAndV_run, rOrV_run, rNotV_run, add_int, add_lst, add_tup, add_str, sub_int, mul_int, mod_int, div_int, pow_int, cmp_int, eq_run, ne_run, eqPV_int, eqPV_str, is_non, isnt_non, dget_some, dget_run, ix_lst, ix_tup, len_lst, len_tup, len_scr, list_lst, list_tup, list_scr, int_run, abs_run, seqO_some, riSeq_run, riRg1_run, rg1_run, riRg2_run, rg2_run, gnm_run, sBind_run, sSeq_run, sNext_run, sBreak_run, sCont_run, sRet_run, sRetN_run, sExpr_run, sSet_run, sIf_run, dput_some, dputAt_run, sDPut_run, sPar_run, sOwn_run, rlLst_run, appO_run, appH_run, sAppend_run, frzO_run, sFrz_run, sRaise_run, sRaise0_run, suO_nx, suO_rt, suO_ite, endTry_run, subO_t, subO_f, tryO_exc, tryO_nx, tryO_rt, tryO_ite, sTry_run, sFor_run, forL_nil, forO_nx, forO_ct, forO_bk, forO_rt, forO_ite, forL_cons, toX_rt, toX_nx, toX_ite, xisO_run, rXIs_run, xfO_run, rXF_run, okO_ok, cxO_run, rCallX_run, List.getElem?_cons_zero, List.getElem?_cons_succ, List.set_cons_zero, List.set_cons_succ, List.length_cons, List.length_nil, Option.map_some, Option.map_none, if_true, if_false, ite_true, ite_false, reduceIte, decide_true, decide_false, Bool.not_true, Bool.not_false, Bool.false_eq_true, Int.reduceEq, List.mem_cons, List.not_mem_nil, or_false, or_true, false_or, true_or, Nat.reduceAdd, List.cons_append, List.nil_append, l3, and_self]
  have cl : ∀ a b c d e : PV, clean [.val a, .val b, .val c, .val d, .val e, .no] = true := fun _ _ _ _ _ => rfl
  simp only [r_u_law_told, ob_ok, ob_exc, ob_stuck, ob_ite, os_ok, os_exc, os_stuck, os_ite, st_nx, st_rt, st_bk, st_ct, st_exc, st_stuck, st_ite, so_rt, so_nx, so_exc, so_stuck, so_ite, sv_val, sb_val, sb_own, ov_some, obb_some, bl_run, rC_run, rVar_run, rBor_run, rOp_run, rDGet_run, rIx_run, raNil_run, raCons_run, rTup_run, rLst_run, rDct_run, rCell_run, rCell0_run, rCall_run, rBlt_run, rLen_run, rList_run, rTuple_run, rRepr_run, opRepr_run, negV_int, rNeg_run, rTruB_run, rTru_run, rtAnd_run, rtOr_run, rtNot_run, rIfE_run, andV_t, andV_f, rAndV_run, rOrV_run, rNotV_run, add_int, add_lst, add_tup, add_str, sub_int, mul_int, mod_int, div_int, pow_int, cmp_int, eq_run, ne_run, eqPV_int, eqPV_str, is_non, isnt_non, dget_some, dget_run, ix_lst, ix_tup, len_lst, len_tup, len_scr, list_lst, list_tup, list_scr, int_run, abs_run, seqO_some, riSeq_run, riRg1_run, rg1_run, riRg2_run, rg2_run, gnm_run, sBind_run, sSeq_run, sNext_run, sBreak_run, sCont_run, sRet_run, sRetN_run, sExpr_run, sSet_run, sIf_run, dput_some, dputAt_run, sDPut_run, sPar_run, sOwn_run, rlLst_run, appO_run, appH_run, sAppend_run, frzO_run, sFrz_run, sRaise_run, sRaise0_run, suO_nx, suO_rt, suO_ite, endTry_run, subO_t, subO_f, tryO_exc, tryO_nx, tryO_rt, tryO_ite, sTry_run, sFor_run, forL_nil, forO_nx, forO_ct, forO_bk, forO_rt, forO_ite, forL_cons, toX_rt, toX_nx, toX_ite, xisO_run, rXIs_run, xfO_run, rXF_run, okO_ok, cxO_run, rCallX_run, List.getElem?_cons_zero, List.getElem?_cons_succ, List.set_cons_zero, List.set_cons_succ, List.length_cons, List.length_nil, Option.map_some, Option.map_none, if_true, if_false, ite_true, ite_false, reduceIte, decide_true, decide_false, Bool.not_true, Bool.not_false, Bool.false_eq_true, Int.reduceEq, List.mem_cons, List.not_mem_nil, or_false, or_true, false_or, true_or, Nat.reduceAdd, List.cons_append, List.nil_append, er, er2, ie_0_9, iv_9, tru_bl, ek, cl]
theorem due_8 {one two three : PV} {x1 x2 : Str} {S : Store} (h1 : reprPV true one = some x1) (h2 : reprPV true two = some x2) : F_u_law_due [.int 8, one, two, three] S = .ok (.tup [.str "noname", .str x1]) S := by
  have hz : ∀ k : Nat, k ≤ 100 → k ≤ sizeLine := fun k hk => Nat.le_trans hk (by decide)
  have hy : (0 : Nat) < sizeLine := by decide
  have z0 : (0 : Nat) ≤ sizeLine := hz 0 (by decide)
  have z1 : (1 : Nat) ≤ sizeLine := hz 1 (by decide)
  have z2 : (2 : Nat) ≤ sizeLine := hz 2 (by decide)
  have z3 : (3 : Nat) ≤ sizeLine := hz 3 (by decide)
  have z4 : (4 : Nat) ≤ sizeLine := hz 4 (by decide)
  have z12 : (12 : Nat) ≤ sizeLine := hz 12 (by decide)
  have z16 : (16 : Nat) ≤ sizeLine := hz 16 (by decide)
  refine runF_run.trans ?_
  show SOut.toO (r_u_law_due [.val (.int 8), .val one, .val two, .val three, .no] S) = _
  simp only [r_u_law_due, ob_ok, ob_exc, ob_stuck, ob_ite, os_ok, os_exc, os_stuck, os_ite, st_nx, st_rt, st_bk, st_ct, st_exc, st_stuck, st_ite, so_rt, so_nx, so_exc, so_stuck, so_ite, sv_val, sb_val, sb_own, ov_some, obb_some, bl_run, rC_run, rVar_run, rBor_run, rOp_run, rDGet_run, rIx_run, raNil_run, raCons_run, rTup_run, rLst_run, rDct_run, rCell_run, rCell0_run, rCall_run, rBlt_run, rLen_run, rList_run, rTuple_run, rRepr_run, opRepr_run, negV_int, rNeg_run, rTruB_run, rTru_run, rtAnd_run, rtOr_run, rtNot_run, rIfE_run, andV_t, andV_f, rAndV_run, rOrV_run, rNotV_run, add_int, add_lst, add_tup, add_str, sub_int, mul_int, mod_int, div_int, pow_int, cmp_int, eq_run, ne_run, eqPV_int, eqPV_str, is_non, isnt_non, dget_some, dget_run, ix_lst, ix_tup, len_lst, len_tup, len_scr, list_lst, list_tup, list_scr, int_run, abs_run, seqO_some, riSeq_run, riRg1_run, rg1_run, riRg2_run, rg2_run, gnm_run, sBind_run, sSeq_run, sNext_run, sBreak_run, sCont_run, sRet_run, sRetN_run, sExpr_run, sSet_run, sIf_run, dput_some, dputAt_run, sDPut_run, sPar_run, sOwn_run, rlLst_run, appO_run, appH_run, sAppend_run, frzO_run, sFrz_run, sRaise_run, sRaise0_run, suO_nx, suO_rt, suO_ite, endTry_run, subO_t, subO_f, tryO_exc, tryO_nx, tryO_rt, tryO_ite, sTry_run, sFor_run, forL_nil, forO_nx, forO_ct, forO_bk, forO_rt, forO_ite, forL_cons, toX_rt, toX_nx, toX_ite, xisO_run, rXIs_run, xfO_run, rXF_run, okO_ok, cxO_run, rCallX_run, List.getElem?_cons_zero, List.getElem?_cons_succ, List.set_cons_zero, List.set_cons_succ, List.length_cons, List.length_nil, Option.map_some, Option.map_none, if_true, if_false, ite_true, ite_false, reduceIte, decide_true, decide_false, Bool.not_true, Bool.not_false, Bool.false_eq_true, in_a, in_b, in_c, in_d, Int.reduceEq, List.mem_cons, List.not_mem_nil, or_false, or_true, false_or, true_or, Nat.reduceAdd, List.cons_append, List.nil_append, aw_8, h1, h2, z0, z1, z2, z3, z4, z12, z16, hy]
theorem more_9 {one two three : PV} {x1 x2 : Str} {S : Store} (h1 : reprPV true one = some x1) (h2 : reprPV true two = some x2) : F_u_law_more_kinds 10 (List.reverse ["name"]) (List.reverse [one]) S = .ok (.lst [.tup [.str "taken", .str x1]]) S := by
  have hz : ∀ k : Nat, k ≤ 100 → k ≤ sizeLine := fun k hk => Nat.le_trans hk (by decide)
  have hy : (0 : Nat) < sizeLine := by decide
  have z0 : (0 : Nat) ≤ sizeLine := hz 0 (by decide)
  have z1 : (1 : Nat) ≤ sizeLine := hz 1 (by decide)
  have z2 : (2 : Nat) ≤ sizeLine := hz 2 (by decide)
  have z3 : (3 : Nat) ≤ sizeLine := hz 3 (by decide)
  have z4 : (4 : Nat) ≤ sizeLine := hz 4 (by decide)
  have z12 : (12 : Nat) ≤ sizeLine := hz 12 (by decide)
  have z16 : (16 : Nat) ≤ sizeLine := hz 16 (by decide)
  refine runH_run.trans ?_
  show toX (r_u_law_more_kinds [.exc 10 (List.reverse ["name"]) (List.reverse [one]), .no] S) = _
  simp only [r_u_law_more_kinds, ob_ok, ob_exc, ob_stuck, ob_ite, os_ok, os_exc, os_stuck, os_ite, st_nx, st_rt, st_bk, st_ct, st_exc, st_stuck, st_ite, so_rt, so_nx, so_exc, so_stuck, so_ite, sv_val, sb_val, sb_own, ov_some, obb_some, bl_run, rC_run, rVar_run, rBor_run, rOp_run, rDGet_run, rIx_run, raNil_run, raCons_run, rTup_run, rLst_run, rDct_run, rCell_run, rCell0_run, rCall_run, rBlt_run, rLen_run, rList_run, rTuple_run, rRepr_run, opRepr_run, negV_int, rNeg_run, rTruB_run, rTru_run, rtAnd_run, rtOr_run, rtNot_run, rIfE_run, andV_t, andV_f, rAndV_run, rOrV_run, rNotV_run, add_int, add_lst, add_tup, add_str, sub_int, mul_int, mod_int, div_int, pow_int, cmp_int, eq_run, ne_run, eqPV_int, eqPV_str, is_non, isnt_non, dget_some, dget_run, ix_lst, ix_tup, len_lst, len_tup, len_scr, list_lst, list_tup, list_scr, int_run, abs_run, seqO_some, riSeq_run, riRg1_run, rg1_run, riRg2_run, rg2_run, gnm_run, sBind_run, sSeq_run, sNext_run, sBreak_run, sCont_run, sRet_run, sRetN_run, sExpr_run, sSet_run, sIf_run, dput_some, dputAt_run, sDPut_run, sPar_run, sOwn_run, rlLst_run, appO_run, appH_run, sAppend_run, frzO_run, sFrz_run, sRaise_run, sRaise0_run, suO_nx, suO_rt, suO_ite, endTry_run, subO_t, subO_f, tryO_exc, tryO_nx, tryO_rt, tryO_ite, sTry_run, sFor_run, forL_nil, forO_nx, forO_ct, forO_bk, forO_rt, forO_ite, forL_cons, toX_rt, toX_nx, toX_ite, xisO_run, rXIs_run, xfO_run, rXF_run, okO_ok, cxO_run, rCallX_run, List.getElem?_cons_zero, List.getElem?_cons_succ, List.set_cons_zero, List.set_cons_succ, List.length_cons, List.length_nil, Option.map_some, Option.map_none, if_true, if_false, ite_true, ite_false, reduceIte, decide_true, decide_false, Bool.not_true, Bool.not_false, Bool.false_eq_true, ie_1_10, ie_2_10, ie_3_10, ie_4_10, ie_5_10, ie_6_10, ie_7_10, ie_8_10, ie_9_10, ie_10_10, ie_11_10, ie_12_10, ie_13_10, ie_14_10, ie_15_10, ie_16_10, tru_bl, fm_TakenName_name, lk_TakenName_name, h1, h2, z0, z1, z2, z3, z4, z12, z16, hy, Int.reduceEq, List.mem_cons, List.not_mem_nil, or_false, or_true, false_or, true_or, Nat.reduceAdd, List.cons_append, List.nil_append]
theorem kinds_9 {one two three : PV} {x1 x2 : Str} {S : Store} (h1 : reprPV true one = some x1) (h2 : reprPV true two = some x2) : F_u_law_kinds 10 (List.reverse ["name"]) (List.reverse [one]) S = .ok (.lst [.tup [.str "taken", .str x1]]) S := by
  have hz : ∀ k : Nat, k ≤ 100 → k ≤ sizeLine := fun k hk => Nat.le_trans hk (by decide)
  have hy : (0 : Nat) < sizeLine := by decide
  have z0 : (0 : Nat) ≤ sizeLine := hz 0 (by decide)
  have z1 : (1 : Nat) ≤ sizeLine := hz 1 (by decide)
  have z2 : (2 : Nat) ≤ sizeLine := hz 2 (by decide)
  have z3 : (3 : Nat) ≤ sizeLine := hz 3 (by decide)
  have z4 : (4 : Nat) ≤ sizeLine := hz 4 (by decide)
  have z12 : (12 : Nat) ≤ sizeLine := hz 12 (by decide)
  have z16 : (16 : Nat) ≤ sizeLine := hz 16 (by decide)
  have em := more_9 (three := three) (S := S) h1 h2
  refine runH_run.trans ?_
  show toX (r_u_law_kinds [.exc 10 (List.reverse ["name"]) (List.reverse [one]), .no] S) = _
  simp only [r_u_law_kinds, ob_ok, ob_exc, ob_stuck, ob_ite, os_ok, os_exc, os_stuck, os_ite, st_nx, st_rt, st_bk, st_ct, st_exc, st_stuck, st_ite, so_rt, so_nx, so_exc, so_stuck, so_ite, sv_val, sb_val, sb_own, ov_some, obb_some, bl_run, rC_run, rVar_run, rBor_run, rOp_run, rDGet_run, rIx_run, raNil_run, raCons_run, rTup_run, rLst_run, rDct_run, rCell_run, rCell0_run, rCall_run, rBlt_run, rLen_run, rList_run, rTuple_run, rRepr_run, opRepr_run, negV_int, rNeg_run, rTruB_run, rTru_run, rtAnd_run, rtOr_run, rtNot_run, rIfE_run, andV_t, andV_f, rAndV_run, rOrV_run, rNotV_run, add_int, add_lst, add_tup, add_str, sub_int, mul_int, mod_int, div_int, pow_int, cmp_int, eq_run, ne_run, eqPV_int, eqPV_str, is_non, isnt_non, dget_some, dget_run, ix_lst, ix_tup, len_lst, len_tup, len_scr, list_lst, list_tup, list_scr, int_run, abs_run, seqO_some, riSeq_run, riRg1_run, rg1_run, riRg2_run, rg2_run, gnm_run, sBind_run, sSeq_run, sNext_run, sBreak_run, sCont_run, sRet_run, sRetN_run, sExpr_run, sSet_run, sIf_run, dput_some, dputAt_run, sDPut_run, sPar_run, sOwn_run, rlLst_run, appO_run, appH_run, sAppend_run, frzO_run, sFrz_run, sRaise_run, sRaise0_run, suO_nx, suO_rt, suO_ite, endTry_run, subO_t, subO_f, tryO_exc, tryO_nx, tryO_rt, tryO_ite, sTry_run, sFor_run, forL_nil, forO_nx, forO_ct, forO_bk, forO_rt, forO_ite, forL_cons, toX_rt, toX_nx, toX_ite, xisO_run, rXIs_run, xfO_run, rXF_run, okO_ok, cxO_run, rCallX_run, List.getElem?_cons_zero, List.getElem?_cons_succ, List.set_cons_zero, List.set_cons_succ, List.length_cons, List.length_nil, Option.map_some, Option.map_none, if_true, if_false, ite_true, ite_false, reduceIte, decide_true, decide_false, Bool.not_true, Bool.not_false, Bool.false_eq_true, ie_1_10, ie_2_10, ie_3_10, ie_4_10, ie_5_10, ie_6_10, ie_7_10, ie_8_10, ie_9_10, ie_10_10, ie_11_10, ie_12_10, ie_13_10, ie_14_10, ie_15_10, ie_16_10, tru_bl, fm_TakenName_name, lk_TakenName_name, h1, h2, z0, z1, z2, z3, z4, z12, z16, hy, Int.reduceEq, List.mem_cons, List.not_mem_nil, or_false, or_true, false_or, true_or, Nat.reduceAdd, List.cons_append, List.nil_append, em]
theorem told_9 {one two three : PV} {x1 x2 : Str} {S : Store} (h1 : reprPV true one = some x1) (h2 : reprPV true two = some x2) : F_u_law_told [.int 9, one, two, three] S = .ok (.lst [.tup [.str "taken", .str x1]]) S := by
  have ek := kinds_9 (three := three) (S := S) h1 h2
  refine runF_run.trans ?_
  show SOut.toO (r_u_law_told [.val (.int 9), .val one, .val two, .val three, .no, .no] S) = _
  have er : F_u_law_raised [.int 9, one, two] S = .ok .non S := by
    refine runF_run.trans ?_
    show SOut.toO (r_u_law_raised [.val (.int 9), .val one, .val two] S) = _
    simp only [r_u_law_raised, ob_ok, ob_exc, ob_stuck, ob_ite, os_ok, os_exc, os_stuck, os_ite, st_nx, st_rt, st_bk, st_ct, st_exc, st_stuck, st_ite, so_rt, so_nx, so_exc, so_stuck, so_ite, sv_val, sb_val, sb_own, ov_some, obb_some, bl_run, rC_run, rVar_run, rBor_run, rOp_run, rDGet_run, rIx_run, raNil_run, raCons_run, rTup_run, rLst_run, rDct_run, rCell_run, rCell0_run, rCall_run, rBlt_run, rLen_run, rList_run, rTuple_run, rRepr_run, opRepr_run, negV_int, rNeg_run, rTruB_run, rTru_run, rtAnd_run, rtOr_run, rtNot_run, rIfE_run, andV_t, andV_f, rAndV_run, rOrV_run, rNotV_run, add_int, add_lst, add_tup, add_str, sub_int, mul_int, mod_int, div_int, pow_int, cmp_int, eq_run, ne_run, eqPV_int, eqPV_str, is_non, isnt_non, dget_some, dget_run, ix_lst, ix_tup, len_lst, len_tup, len_scr, list_lst, list_tup, list_scr, int_run, abs_run, seqO_some, riSeq_run, riRg1_run, rg1_run, riRg2_run, rg2_run, gnm_run, sBind_run, sSeq_run, sNext_run, sBreak_run, sCont_run, sRet_run, sRetN_run, sExpr_run, sSet_run, sIf_run, dput_some, dputAt_run, sDPut_run, sPar_run, sOwn_run, rlLst_run, appO_run, appH_run, sAppend_run, frzO_run, sFrz_run, sRaise_run, sRaise0_run, suO_nx, suO_rt, suO_ite, endTry_run, subO_t, subO_f, tryO_exc, tryO_nx, tryO_rt, tryO_ite, sTry_run, sFor_run, forL_nil, forO_nx, forO_ct, forO_bk, forO_rt, forO_ite, forL_cons, toX_rt, toX_nx, toX_ite, xisO_run, rXIs_run, xfO_run, rXF_run, okO_ok, cxO_run, rCallX_run, List.getElem?_cons_zero, List.getElem?_cons_succ, List.set_cons_zero, List.set_cons_succ, List.length_cons, List.length_nil, Option.map_some, Option.map_none, if_true, if_false, ite_true, ite_false, reduceIte, decide_true, decide_false, Bool.not_true, Bool.not_false, Bool.false_eq_true, Int.reduceEq, List.mem_cons, List.not_mem_nil, or_false, or_true, false_or, true_or, Nat.reduceAdd, List.cons_append, List.nil_append]
  have er2 : F_u_law_raised_too [.int 9, one, two, three] S = .exc 10 (List.reverse ["name"]) (List.reverse [one]) S := by
    refine runF_run.trans ?_
    show SOut.toO (r_u_law_raised_too [.val (.int 9), .val one, .val two, .val three] S) = _
    have l3 : (0 : Nat) ≤ 1000 ∧ (1 : Nat) ≤ 1000 ∧ (2 : Nat) ≤ 1000 ∧ (3 : Nat) ≤ 1000 := by decide
    simp only [r_u_law_raised_too, ob_ok, ob_exc, ob_stuck, ob_ite, os_ok, os_exc, os_stuck, os_ite, st_nx, st_rt, st_bk, st_ct, st_exc, st_stuck, st_ite, so_rt, so_nx, so_exc, so_stuck, so_ite, sv_val, sb_val, sb_own, ov_some, obb_some, bl_run, rC_run, rVar_run, rBor_run, rOp_run, rDGet_run, rIx_run, raNil_run, raCons_run, rTup_run, rLst_run, rDct_run, rCell_run, rCell0_run, rCall_run, rBlt_run, rLen_run, rList_run, rTuple_run, rRepr_run, opRepr_run, negV_int, rNeg_run, rTruB_run, rTru_run, rtAnd_run, rtOr_run, rtNot_run, rIfE_run, andV_t, andV_f, rAndV_run, rOrV_run, rNotV_run, add_int, add_lst, add_tup, add_str, sub_int, mul_int, mod_int, div_int, pow_int, cmp_int, eq_run, ne_run, eqPV_int, eqPV_str, is_non, isnt_non, dget_some, dget_run, ix_lst, ix_tup, len_lst, len_tup, len_scr, list_lst, list_tup, list_scr, int_run, abs_run, seqO_some, riSeq_run, riRg1_run, rg1_run, riRg2_run, rg2_run, gnm_run, sBind_run, sSeq_run, sNext_run, sBreak_run, sCont_run, sRet_run, sRetN_run, sExpr_run, sSet_run, sIf_run, dput_some, dputAt_run, sDPut_run, sPar_run, sOwn_run, rlLst_run, appO_run, appH_run, sAppend_run, frzO_run, sFrz_run, sRaise_run, sRaise0_run, suO_nx, suO_rt, suO_ite, endTry_run, subO_t, subO_f, tryO_exc, tryO_nx, tryO_rt, tryO_ite, sTry_run, sFor_run, forL_nil, forO_nx, forO_ct, forO_bk, forO_rt, forO_ite, forL_cons, toX_rt, toX_nx, toX_ite, xisO_run, rXIs_run, xfO_run, rXF_run, okO_ok, cxO_run, rCallX_run, List.getElem?_cons_zero, List.getElem?_cons_succ, List.set_cons_zero, List.set_cons_succ, List.length_cons, List.length_nil, Option.map_some, Option.map_none, if_true, if_false, ite_true, ite_false, reduceIte, decide_true, decide_false, Bool.not_true, Bool.not_false, Bool.false_eq_true, Int.reduceEq, List.mem_cons, List.not_mem_nil, or_false, or_true, false_or, true_or, Nat.reduceAdd, List.cons_append, List.nil_append, l3, and_self]
  have cl : ∀ a b c d e : PV, clean [.val a, .val b, .val c, .val d, .val e, .no] = true := fun _ _ _ _ _ => rfl
  simp only [r_u_law_told, ob_ok, ob_exc, ob_stuck, ob_ite, os_ok, os_exc, os_stuck, os_ite, st_nx, st_rt, st_bk, st_ct, st_exc, st_stuck, st_ite, so_rt, so_nx, so_exc, so_stuck, so_ite, sv_val, sb_val, sb_own, ov_some, obb_some, bl_run, rC_run, rVar_run, rBor_run, rOp_run, rDGet_run, rIx_run, raNil_run, raCons_run, rTup_run, rLst_run, rDct_run, rCell_run, rCell0_run, rCall_run, rBlt_run, rLen_run, rList_run, rTuple_run, rRepr_run, opRepr_run, negV_int, rNeg_run, rTruB_run, rTru_run, rtAnd_run, rtOr_run, rtNot_run, rIfE_run, andV_t, andV_f, rAndV_run, rOrV_run, rNotV_run, add_int, add_lst, add_tup, add_str, sub_int, mul_int, mod_int, div_int, pow_int, cmp_int, eq_run, ne_run, eqPV_int, eqPV_str, is_non, isnt_non, dget_some, dget_run, ix_lst, ix_tup, len_lst, len_tup, len_scr, list_lst, list_tup, list_scr, int_run, abs_run, seqO_some, riSeq_run, riRg1_run, rg1_run, riRg2_run, rg2_run, gnm_run, sBind_run, sSeq_run, sNext_run, sBreak_run, sCont_run, sRet_run, sRetN_run, sExpr_run, sSet_run, sIf_run, dput_some, dputAt_run, sDPut_run, sPar_run, sOwn_run, rlLst_run, appO_run, appH_run, sAppend_run, frzO_run, sFrz_run, sRaise_run, sRaise0_run, suO_nx, suO_rt, suO_ite, endTry_run, subO_t, subO_f, tryO_exc, tryO_nx, tryO_rt, tryO_ite, sTry_run, sFor_run, forL_nil, forO_nx, forO_ct, forO_bk, forO_rt, forO_ite, forL_cons, toX_rt, toX_nx, toX_ite, xisO_run, rXIs_run, xfO_run, rXF_run, okO_ok, cxO_run, rCallX_run, List.getElem?_cons_zero, List.getElem?_cons_succ, List.set_cons_zero, List.set_cons_succ, List.length_cons, List.length_nil, Option.map_some, Option.map_none, if_true, if_false, ite_true, ite_false, reduceIte, decide_true, decide_false, Bool.not_true, Bool.not_false, Bool.false_eq_true, Int.reduceEq, List.mem_cons, List.not_mem_nil, or_false, or_true, false_or, true_or, Nat.reduceAdd, List.cons_append, List.nil_append, er, er2, ie_0_10, iv_10, tru_bl, ek, cl]
theorem due_9 {one two three : PV} {x1 x2 : Str} {S : Store} (h1 : reprPV true one = some x1) (h2 : reprPV true two = some x2) : F_u_law_due [.int 9, one, two, three] S = .ok (.tup [.str "taken", .str x1]) S := by
  have hz : ∀ k : Nat, k ≤ 100 → k ≤ sizeLine := fun k hk => Nat.le_trans hk (by decide)
  have hy : (0 : Nat) < sizeLine := by decide
  have z0 : (0 : Nat) ≤ sizeLine := hz 0 (by decide)
  have z1 : (1 : Nat) ≤ sizeLine := hz 1 (by decide)
  have z2 : (2 : Nat) ≤ sizeLine := hz 2 (by decide)
  have z3 : (3 : Nat) ≤ sizeLine := hz 3 (by decide)
  have z4 : (4 : Nat) ≤ sizeLine := hz 4 (by decide)
  have z12 : (12 : Nat) ≤ sizeLine := hz 12 (by decide)
  have z16 : (16 : Nat) ≤ sizeLine := hz 16 (by decide)
  refine runF_run.trans ?_
  show SOut.toO (r_u_law_due [.val (.int 9), .val one, .val two, .val three, .no] S) = _
  simp only [r_u_law_due, ob_ok, ob_exc, ob_stuck, ob_ite, os_ok, os_exc, os_stuck, os_ite, st_nx, st_rt, st_bk, st_ct, st_exc, st_stuck, st_ite, so_rt, so_nx, so_exc, so_stuck, so_ite, sv_val, sb_val, sb_own, ov_some, obb_some, bl_run, rC_run, rVar_run, rBor_run, rOp_run, rDGet_run, rIx_run, raNil_run, raCons_run, rTup_run, rLst_run, rDct_run, rCell_run, rCell0_run, rCall_run, rBlt_run, rLen_run, rList_run, rTuple_run, rRepr_run, opRepr_run, negV_int, rNeg_run, rTruB_run, rTru_run, rtAnd_run, rtOr_run, rtNot_run, rIfE_run, andV_t, andV_f, rAndV_run, rOrV_run, rNotV_run, add_int, add_lst, add_tup, add_str, sub_int, mul_int, mod_int, div_int, pow_int, cmp_int, eq_run, ne_run, eqPV_int, eqPV_str, is_non, isnt_non, dget_some, dget_run, ix_lst, ix_tup, len_lst, len_tup, len_scr, list_lst, list_tup, list_scr, int_run, abs_run, seqO_some, riSeq_run, riRg1_run, rg1_run, riRg2_run, rg2_run, gnm_run, sBind_run, sSeq_run, sNext_run, sBreak_run, sCont_run, sRet_run, sRetN_run, sExpr_run, sSet_run, sIf_run, dput_some, dputAt_run, sDPut_run, sPar_run, sOwn_run, rlLst_run, appO_run, appH_run, sAppend_run, frzO_run, sFrz_run, sRaise_run, sRaise0_run, suO_nx, suO_rt, suO_ite, endTry_run, subO_t, subO_f, tryO_exc, tryO_nx, tryO_rt, tryO_ite, sTry_run, sFor_run, forL_nil, forO_nx, forO_ct, forO_bk, forO_rt, forO_ite, forL_cons, toX_rt, toX_nx, toX_ite, xisO_run, rXIs_run, xfO_run, rXF_run, okO_ok, cxO_run, rCallX_run, List.getElem?_cons_zero, List.getElem?_cons_succ, List.set_cons_zero, List.set_cons_succ, List.length_cons, List.length_nil, Option.map_some, Option.map_none, if_true, if_false, ite_true, ite_false, reduceIte, decide_true, decide_false, Bool.not_true, Bool.not_false, Bool.false_eq_true, in_a, in_b, in_c, in_d, Int.reduceEq, List.mem_cons, List.not_mem_nil, or_false, or_true, false_or, true_or, Nat.reduceAdd, List.cons_append, List.nil_append, aw_9, h1, h2, z0, z1, z2, z3, z4, z12, z16, hy]
theorem more_10 {one two three : PV} {x1 x2 : Str} {S : Store} (h1 : reprPV true one = some x1) (h2 : reprPV true two = some x2) : F_u_law_more_kinds 11 (List.reverse ["what"]) (List.reverse [one]) S = .ok (.lst [.tup [.str "unlike", one]]) S := by
  have hz : ∀ k : Nat, k ≤ 100 → k ≤ sizeLine := fun k hk => Nat.le_trans hk (by decide)
  have hy : (0 : Nat) < sizeLine := by decide
  have z0 : (0 : Nat) ≤ sizeLine := hz 0 (by decide)
  have z1 : (1 : Nat) ≤ sizeLine := hz 1 (by decide)
  have z2 : (2 : Nat) ≤ sizeLine := hz 2 (by decide)
  have z3 : (3 : Nat) ≤ sizeLine := hz 3 (by decide)
  have z4 : (4 : Nat) ≤ sizeLine := hz 4 (by decide)
  have z12 : (12 : Nat) ≤ sizeLine := hz 12 (by decide)
  have z16 : (16 : Nat) ≤ sizeLine := hz 16 (by decide)
  refine runH_run.trans ?_
  show toX (r_u_law_more_kinds [.exc 11 (List.reverse ["what"]) (List.reverse [one]), .no] S) = _
  simp only [r_u_law_more_kinds, ob_ok, ob_exc, ob_stuck, ob_ite, os_ok, os_exc, os_stuck, os_ite, st_nx, st_rt, st_bk, st_ct, st_exc, st_stuck, st_ite, so_rt, so_nx, so_exc, so_stuck, so_ite, sv_val, sb_val, sb_own, ov_some, obb_some, bl_run, rC_run, rVar_run, rBor_run, rOp_run, rDGet_run, rIx_run, raNil_run, raCons_run, rTup_run, rLst_run, rDct_run, rCell_run, rCell0_run, rCall_run, rBlt_run, rLen_run, rList_run, rTuple_run, rRepr_run, opRepr_run, negV_int, rNeg_run, rTruB_run, rTru_run, rtAnd_run, rtOr_run, rtNot_run, rIfE_run, andV_t, andV_f, rAndV_run, rOrV_run, rNotV_run, add_int, add_lst, add_tup, add_str, sub_int, mul_int, mod_int, div_int, pow_int, cmp_int, eq_run, ne_run, eqPV_int, eqPV_str, is_non, isnt_non, dget_some, dget_run, ix_lst, ix_tup, len_lst, len_tup, len_scr, list_lst, list_tup, list_scr, int_run, abs_run, seqO_some, riSeq_run, riRg1_run, rg1_run, riRg2_run, rg2_run, gnm_run, sBind_run, sSeq_run, sNext_run, sBreak_run, sCont_run, sRet_run, sRetN_run, sExpr_run, sSet_run, sIf_run, dput_some, dputAt_run, sDPut_run, sPar_run, sOwn_run, rlLst_run, appO_run, appH_run, sAppend_run, frzO_run, sFrz_run, sRaise_run, sRaise0_run, suO_nx, suO_rt, suO_ite, endTry_run, subO_t, subO_f, tryO_exc, tryO_nx, tryO_rt, tryO_ite, sTry_run, sFor_run, forL_nil, forO_nx, forO_ct, forO_bk, forO_rt, forO_ite, forL_cons, toX_rt, toX_nx, toX_ite, xisO_run, rXIs_run, xfO_run, rXF_run, okO_ok, cxO_run, rCallX_run, List.getElem?_cons_zero, List.getElem?_cons_succ, List.set_cons_zero, List.set_cons_succ, List.length_cons, List.length_nil, Option.map_some, Option.map_none, if_true, if_false, ite_true, ite_false, reduceIte, decide_true, decide_false, Bool.not_true, Bool.not_false, Bool.false_eq_true, ie_1_11, ie_2_11, ie_3_11, ie_4_11, ie_5_11, ie_6_11, ie_7_11, ie_8_11, ie_9_11, ie_10_11, ie_11_11, ie_12_11, ie_13_11, ie_14_11, ie_15_11, ie_16_11, tru_bl, fm_Unlike_what, lk_Unlike_what, h1, h2, z0, z1, z2, z3, z4, z12, z16, hy, Int.reduceEq, List.mem_cons, List.not_mem_nil, or_false, or_true, false_or, true_or, Nat.reduceAdd, List.cons_append, List.nil_append]
theorem kinds_10 {one two three : PV} {x1 x2 : Str} {S : Store} (h1 : reprPV true one = some x1) (h2 : reprPV true two = some x2) : F_u_law_kinds 11 (List.reverse ["what"]) (List.reverse [one]) S = .ok (.lst [.tup [.str "unlike", one]]) S := by
  have hz : ∀ k : Nat, k ≤ 100 → k ≤ sizeLine := fun k hk => Nat.le_trans hk (by decide)
  have hy : (0 : Nat) < sizeLine := by decide
  have z0 : (0 : Nat) ≤ sizeLine := hz 0 (by decide)
  have z1 : (1 : Nat) ≤ sizeLine := hz 1 (by decide)
  have z2 : (2 : Nat) ≤ sizeLine := hz 2 (by decide)
  have z3 : (3 : Nat) ≤ sizeLine := hz 3 (by decide)
  have z4 : (4 : Nat) ≤ sizeLine := hz 4 (by decide)
  have z12 : (12 : Nat) ≤ sizeLine := hz 12 (by decide)
  have z16 : (16 : Nat) ≤ sizeLine := hz 16 (by decide)
  have em := more_10 (three := three) (S := S) h1 h2
  refine runH_run.trans ?_
  show toX (r_u_law_kinds [.exc 11 (List.reverse ["what"]) (List.reverse [one]), .no] S) = _
  simp only [r_u_law_kinds, ob_ok, ob_exc, ob_stuck, ob_ite, os_ok, os_exc, os_stuck, os_ite, st_nx, st_rt, st_bk, st_ct, st_exc, st_stuck, st_ite, so_rt, so_nx, so_exc, so_stuck, so_ite, sv_val, sb_val, sb_own, ov_some, obb_some, bl_run, rC_run, rVar_run, rBor_run, rOp_run, rDGet_run, rIx_run, raNil_run, raCons_run, rTup_run, rLst_run, rDct_run, rCell_run, rCell0_run, rCall_run, rBlt_run, rLen_run, rList_run, rTuple_run, rRepr_run, opRepr_run, negV_int, rNeg_run, rTruB_run, rTru_run, rtAnd_run, rtOr_run, rtNot_run, rIfE_run, andV_t, andV_f, rAndV_run, rOrV_run, rNotV_run, add_int, add_lst, add_tup, add_str, sub_int, mul_int, mod_int, div_int, pow_int, cmp_int, eq_run, ne_run, eqPV_int, eqPV_str, is_non, isnt_non, dget_some, dget_run, ix_lst, ix_tup, len_lst, len_tup, len_scr, list_lst, list_tup, list_scr, int_run, abs_run, seqO_some, riSeq_run, riRg1_run, rg1_run, riRg2_run, rg2_run, gnm_run, sBind_run, sSeq_run, sNext_run, sBreak_run, sCont_run, sRet_run, sRetN_run, sExpr_run, sSet_run, sIf_run, dput_some, dputAt_run, sDPut_run, sPar_run, sOwn_run, rlLst_run, appO_run, appH_run, sAppend_run, frzO_run, sFrz_run, sRaise_run, sRaise0_run, suO_nx, suO_rt, suO_ite, endTry_run, subO_t, subO_f, tryO_exc, tryO_nx, tryO_rt, tryO_ite, sTry_run, sFor_run, forL_nil, forO_nx, forO_ct, forO_bk, forO_rt, forO_ite, forL_cons, toX_rt, toX_nx, toX_ite, xisO_run, rXIs_run, xfO_run, rXF_run, okO_ok, cxO_run, rCallX_run, List.getElem?_cons_zero, List.getElem?_cons_succ, List.set_cons_zero, List.set_cons_succ, List.length_cons, List.length_nil, Option.map_some, Option.map_none, if_true, if_false, ite_true, ite_false, reduceIte, decide_true, decide_false, Bool.not_true, Bool.not_false, Bool.false_eq_true, ie_1_11, ie_2_11, ie_3_11, ie_4_11, ie_5_11, ie_6_11, ie_7_11, ie_8_11, ie_9_11, ie_10_11, ie_11_11, ie_12_11, ie_13_11, ie_14_11, ie_15_11, ie_16_11, tru_bl, fm_Unlike_what, lk_Unlike_what, h1, h2, z0, z1, z2, z3, z4, z12, z16, hy, Int.reduceEq, List.mem_cons, List.not_mem_nil, or_false, or_true, false_or, true_or, Nat.reduceAdd, List.cons_append, List.nil_append, em]
theorem told_10 {one two three : PV} {x1 x2 : Str} {S : Store} (h1 : reprPV true one = some x1) (h2 : reprPV true two = some x2) : F_u_law_told [.int 10, one, two, three] S = .ok (.lst [.tup [.str "unlike", one]]) S := by
  have ek := kinds_10 (three := three) (S := S) h1 h2
  refine runF_run.trans ?_
  show SOut.toO (r_u_law_told [.val (.int 10), .val one, .val two, .val three, .no, .no] S) = _
  have er : F_u_law_raised [.int 10, one, two] S = .ok .non S := by
    refine runF_run.trans ?_
    show SOut.toO (r_u_law_raised [.val (.int 10), .val one, .val two] S) = _
    simp only [r_u_law_raised, ob_ok, ob_exc, ob_stuck, ob_ite, os_ok, os_exc, os_stuck, os_ite, st_nx, st_rt, st_bk, st_ct, st_exc, st_stuck, st_ite, so_rt, so_nx, so_exc, so_stuck, so_ite, sv_val, sb_val, sb_own, ov_some, obb_some, bl_run, rC_run, rVar_run, rBor_run, rOp_run, rDGet_run, rIx_run, raNil_run, raCons_run, rTup_run, rLst_run, rDct_run, rCell_run, rCell0_run, rCall_run, rBlt_run, rLen_run, rList_run, rTuple_run, rRepr_run, opRepr_run, negV_int, rNeg_run, rTruB_run, rTru_run, rtAnd_run, rtOr_run, rtNot_run, rIfE_run, andV_t, andV_f, rAndV_run, rOrV_run, rNotV_run, add_int, add_lst, add_tup, add_str, sub_int, mul_int, mod_int, div_int, pow_int, cmp_int, eq_run, ne_run, eqPV_int, eqPV_str, is_non, isnt_non, dget_some, dget_run, ix_lst, ix_tup, len_lst, len_tup, len_scr, list_lst, list_tup, list_scr, int_run, abs_run, seqO_some, riSeq_run, riRg1_run, rg1_run, riRg2_run, rg2_run, gnm_run, sBind_run, sSeq_run, sNext_run, sBreak_run, sCont_run, sRet_run, sRetN_run, sExpr_run, sSet_run, sIf_run, dput_some, dputAt_run, sDPut_run, sPar_run, sOwn_run, rlLst_run, appO_run, appH_run, sAppend_run, frzO_run, sFrz_run, sRaise_run, sRaise0_run, suO_nx, suO_rt, suO_ite, endTry_run, subO_t, subO_f, tryO_exc, tryO_nx, tryO_rt, tryO_ite, sTry_run, sFor_run, forL_nil, forO_nx, forO_ct, forO_bk, forO_rt, forO_ite, forL_cons, toX_rt, toX_nx, toX_ite, xisO_run, rXIs_run, xfO_run, rXF_run, okO_ok, cxO_run, rCallX_run, List.getElem?_cons_zero, List.getElem?_cons_succ, List.set_cons_zero, List.set_cons_succ, List.length_cons, List.length_nil, Option.map_some, Option.map_none, if_true, if_false, ite_true, ite_false, reduceIte, decide_true, decide_false, Bool.not_true, Bool.not_false, Bool.false_eq_true, Int.reduceEq, List.mem_cons, List.not_mem_nil, or_false, or_true, false_or, true_or, Nat.reduceAdd, List.cons_append, List.nil_append]
  have er2 : F_u_law_raised_too [.int 10, one, two, three] S = .exc 11 (List.reverse ["what"]) (List.reverse [one]) S := by
    refine runF_run.trans ?_
    show SOut.toO (r_u_law_raised_too [.val (.int 10), .val one, .val two, .val three] S) = _
    have l3 : (0 : Nat) ≤ 1000 ∧ (1 : Nat) ≤ 1000 ∧ (2 : Nat) ≤ 1000 ∧ (3 : Nat) ≤ 1000 := by decide
    simp only [r_u_law_raised_too, ob_ok, ob_exc, ob_stuck, ob_ite, os_ok, os_exc, os_stuck, os_ite, st_nx, st_rt, st_bk, st_ct, st_exc, st_stuck, st_ite, so_rt, so_nx, so_exc, so_stuck, so_ite, sv_val, sb_val, sb_own, ov_some, obb_some, bl_run, rC_run, rVar_run, rBor_run, rOp_run, rDGet_run, rIx_run, raNil_run, raCons_run, rTup_run, rLst_run, rDct_run, rCell_run, rCell0_run, rCall_run, rBlt_run, rLen_run, rList_run, rTuple_run, rRepr_run, opRepr_run, negV_int, rNeg_run, rTruB_run, rTru_run, rtAnd_run, rtOr_run, rtNot_run, rIfE_run, andV_t, andV_f, rAndV_run, rOrV_run, rNotV_run, add_int, add_lst, add_tup, add_str, sub_int, mul_int, mod_int, div_int, pow_int, cmp_int, eq_run, ne_run, eqPV_int, eqPV_str, is_non, isnt_non, dget_some, dget_run, ix_lst, ix_tup, len_lst, len_tup, len_scr, list_lst, list_tup, list_scr, int_run, abs_run, seqO_some, riSeq_run, riRg1_run, rg1_run, riRg2_run, rg2_run, gnm_run, sBind_run, sSeq_run, sNext_run, sBreak_run, sCont_run, sRet_run, sRetN_run, sExpr_run, sSet_run, sIf_run, dput_some, dputAt_run, sDPut_run, sPar_run, sOwn_run, rlLst_run, appO_run, appH_run, sAppend_run, frzO_run, sFrz_run, sRaise_run, sRaise0_run, suO_nx, suO_rt, suO_ite, endTry_run, subO_t, subO_f, tryO_exc, tryO_nx, tryO_rt, tryO_ite, sTry_run, sFor_run, forL_nil, forO_nx, forO_ct, forO_bk, forO_rt, forO_ite, forL_cons, toX_rt, toX_nx, toX_ite, xisO_run, rXIs_run, xfO_run, rXF_run, okO_ok, cxO_run, rCallX_run, List.getElem?_cons_zero, List.getElem?_cons_succ, List.set_cons_zero, List.set_cons_succ, List.length_cons, List.length_nil, Option.map_some, Option.map_none, if_true, if_false, ite_true, ite_false, reduceIte, decide_true, decide_false, Bool.not_true, Bool.not_false, Bool.false_eq_true, Int.reduceEq, List.mem_cons, List.not_mem_nil, or_false, or_true, false_or, true_or, Nat.reduceAdd, List.cons_append, List.nil_append, l3, and_self]
  have cl : ∀ a b c d e : PV, clean [.val a, .val b, .val c, .val d, .val e, .no] = true := fun _ _ _ _ _ => rfl
  simp only [r_u_law_told, ob_ok, ob_exc, ob_stuck, ob_ite, os_ok, os_exc, os_stuck, os_ite, st_nx, st_rt, st_bk, st_ct, st_exc, st_stuck, st_ite, so_rt, so_nx, so_exc, so_stuck, so_ite, sv_val, sb_val, sb_own, ov_some, obb_some, bl_run, rC_run, rVar_run, rBor_run, rOp_run, rDGet_run, rIx_run, raNil_run, raCons_run, rTup_run, rLst_run, rDct_run, rCell_run, rCell0_run, rCall_run, rBlt_run, rLen_run, rList_run, rTuple_run, rRepr_run, opRepr_run, negV_int, rNeg_run, rTruB_run, rTru_run, rtAnd_run, rtOr_run, rtNot_run, rIfE_run, andV_t, andV_f, rAndV_run, rOrV_run, rNotV_run, add_int, add_lst, add_tup, add_str, sub_int, mul_int, mod_int, div_int, pow_int, cmp_int, eq_run, ne_run, eqPV_int, eqPV_str, is_non, isnt_non, dget_some, dget_run, ix_lst, ix_tup, len_lst, len_tup, len_scr, list_lst, list_tup, list_scr, int_run, abs_run, seqO_some, riSeq_run, riRg1_run, rg1_run, riRg2_run, rg2_run, gnm_run, sBind_run, sSeq_run, sNext_run, sBreak_run, sCont_run, sRet_run, sRetN_run, sExpr_run, sSet_run, sIf_run, dput_some, dputAt_run, sDPut_run, sPar_run, sOwn_run, rlLst_run, appO_run, appH_run, sAppend_run, frzO_run, sFrz_run, sRaise_run, sRaise0_run, suO_nx, suO_rt, suO_ite, endTry_run, subO_t, subO_f, tryO_exc, tryO_nx, tryO_rt, tryO_ite, sTry_run, sFor_run, forL_nil, forO_nx, forO_ct, forO_bk, forO_rt, forO_ite, forL_cons, toX_rt, toX_nx, toX_ite, xisO_run, rXIs_run, xfO_run, rXF_run, okO_ok, cxO_run, rCallX_run, List.getElem?_cons_zero, List.getElem?_cons_succ, List.set_cons_zero, List.set_cons_succ, List.length_cons, List.length_nil, Option.map_some, Option.map_none, if_true, if_false, ite_true, ite_false, reduceIte, decide_true, decide_false, Bool.not_true, Bool.not_false, Bool.false_eq_true, Int.reduceEq, List.mem_cons, List.not_mem_nil, or_false, or_true, false_or, true_or, Nat.reduceAdd, List.cons_append, List.nil_append, er, er2, ie_0_11, iv_11, tru_bl, ek, cl]
theorem due_10 {one two three : PV} {x1 x2 : Str} {S : Store} (h1 : reprPV true one = some x1) (h2 : reprPV true two = some x2) : F_u_law_due [.int 10, one, two, three] S = .ok (.tup [.str "unlike", one]) S := by
  have hz : ∀ k : Nat, k ≤ 100 → k ≤ sizeLine := fun k hk => Nat.le_trans hk (by decide)
  have hy : (0 : Nat) < sizeLine := by decide
  have z0 : (0 : Nat) ≤ sizeLine := hz 0 (by decide)
  have z1 : (1 : Nat) ≤ sizeLine := hz 1 (by decide)
  have z2 : (2 : Nat) ≤ sizeLine := hz 2 (by decide)
  have z3 : (3 : Nat) ≤ sizeLine := hz 3 (by decide)
  have z4 : (4 : Nat) ≤ sizeLine := hz 4 (by decide)
  have z12 : (12 : Nat) ≤ sizeLine := hz 12 (by decide)
  have z16 : (16 : Nat) ≤ sizeLine := hz 16 (by decide)
  refine runF_run.trans ?_
  show SOut.toO (r_u_law_due [.val (.int 10), .val one, .val two, .val three, .no] S) = _
  simp only [r_u_law_due, ob_ok, ob_exc, ob_stuck, ob_ite, os_ok, os_exc, os_stuck, os_ite, st_nx, st_rt, st_bk, st_ct, st_exc, st_stuck, st_ite, so_rt, so_nx, so_exc, so_stuck, so_ite, sv_val, sb_val, sb_own, ov_some, obb_some, bl_run, rC_run, rVar_run, rBor_run, rOp_run, rDGet_run, rIx_run, raNil_run, raCons_run, rTup_run, rLst_run, rDct_run, rCell_run, rCell0_run, rCall_run, rBlt_run, rLen_run, rList_run, rTuple_run, rRepr_run, opRepr_run, negV_int, rNeg_run, rTruB_run, rTru_run, rtAnd_run, rtOr_run, rtNot_run, rIfE_run, andV_t, andV_f, rAndV_run, rOrV_run, rNotV_run, add_int, add_lst, add_tup, add_str, sub_int, mul_int, mod_int, div_int, pow_int, cmp_int, eq_run, ne_run, eqPV_int, eqPV_str, is_non, isnt_non, dget_some, dget_run, ix_lst, ix_tup, len_lst, len_tup, len_scr, list_lst, list_tup, list_scr, int_run, abs_run, seqO_some, riSeq_run, riRg1_run, rg1_run, riRg2_run, rg2_run, gnm_run, sBind_run, sSeq_run, sNext_run, sBreak_run, sCont_run, sRet_run, sRetN_run, sExpr_run, sSet_run, sIf_run, dput_some, dputAt_run, sDPut_run, sPar_run, sOwn_run, rlLst_run, appO_run, appH_run, sAppend_run, frzO_run, sFrz_run, sRaise_run, sRaise0_run, suO_nx, suO_rt, suO_ite, endTry_run, subO_t, subO_f, tryO_exc, tryO_nx, tryO_rt, tryO_ite, sTry_run, sFor_run, forL_nil, forO_nx, forO_ct, forO_bk, forO_rt, forO_ite, forL_cons, toX_rt, toX_nx, toX_ite, xisO_run, rXIs_run, xfO_run, rXF_run, okO_ok, cxO_run, rCallX_run, List.getElem?_cons_zero, List.getElem?_cons_succ, List.set_cons_zero, List.set_cons_succ, List.length_cons, List.length_nil, Option.map_some, Option.map_none, if_true, if_false, ite_true, ite_false, reduceIte, decide_true, decide_false, Bool.not_true, Bool.not_false, Bool.false_eq_true, in_a, in_b, in_c, in_d, Int.reduceEq, List.mem_cons, List.not_mem_nil, or_false, or_true, false_or, true_or, Nat.reduceAdd, List.cons_append, List.nil_append, aw_10, h1, h2, z0, z1, z2, z3, z4, z12, z16, hy]
theorem more_11 {one two three : PV} {x1 x2 : Str} {S : Store} (h1 : reprPV true one = some x1) (h2 : reprPV true two = some x2) : F_u_law_more_kinds 12 (List.reverse ["row"]) (List.reverse [one]) S = .ok (.lst [.tup [.str "notbetween", one]]) S := by
  have hz : ∀ k : Nat, k ≤ 100 → k ≤ sizeLine := fun k hk => Nat.le_trans hk (by decide)
  have hy : (0 : Nat) < sizeLine := by decide
  have z0 : (0 : Nat) ≤ sizeLine := hz 0 (by decide)
  have z1 : (1 : Nat) ≤ sizeLine := hz 1 (by decide)
  have z2 : (2 : Nat) ≤ sizeLine := hz 2 (by decide)
  have z3 : (3 : Nat) ≤ sizeLine := hz 3 (by decide)
  have z4 : (4 : Nat) ≤ sizeLine := hz 4 (by decide)
  have z12 : (12 : Nat) ≤ sizeLine := hz 12 (by decide)
  have z16 : (16 : Nat) ≤ sizeLine := hz 16 (by decide)
  refine runH_run.trans ?_
  show toX (r_u_law_more_kinds [.exc 12 (List.reverse ["row"]) (List.reverse [one]), .no] S) = _
  simp only [r_u_law_more_kinds, ob_ok, ob_exc, ob_stuck, ob_ite, os_ok, os_exc, os_stuck, os_ite, st_nx, st_rt, st_bk, st_ct, st_exc, st_stuck, st_ite, so_rt, so_nx, so_exc, so_stuck, so_ite, sv_val, sb_val, sb_own, ov_some, obb_some, bl_run, rC_run, rVar_run, rBor_run, rOp_run, rDGet_run, rIx_run, raNil_run, raCons_run, rTup_run, rLst_run, rDct_run, rCell_run, rCell0_run, rCall_run, rBlt_run, rLen_run, rList_run, rTuple_run, rRepr_run, opRepr_run, negV_int, rNeg_run, rTruB_run, rTru_run, rtAnd_run, rtOr_run, rtNot_run, rIfE_run, andV_t, andV_f, rAndV_run, rOrV_run, rNotV_run, add_int, add_lst, add_tup, add_str, sub_int, mul_int, mod_int, div_int, pow_int, cmp_int, eq_run, ne_run, eqPV_int, eqPV_str, is_non, isnt_non, dget_some, dget_run, ix_lst, ix_tup, len_lst, len_tup, len_scr, list_lst, list_tup, list_scr, int_run, abs_run, seqO_some, riSeq_run, riRg1_run, rg1_run, riRg2_run, rg2_run, gnm_run, sBind_run, sSeq_run, sNext_run, sBreak_run, sCont_run, sRet_run, sRetN_run, sExpr_run, sSet_run, sIf_run, dput_some, dputAt_run, sDPut_run, sPar_run, sOwn_run, rlLst_run, appO_run, appH_run, sAppend_run, frzO_run, sFrz_run, sRaise_run, sRaise0_run, suO_nx, suO_rt, suO_ite, endTry_run, subO_t, subO_f, tryO_exc, tryO_nx, tryO_rt, tryO_ite, sTry_run, sFor_run, forL_nil, forO_nx, forO_ct, forO_bk, forO_rt, forO_ite, forL_cons, toX_rt, toX_nx, toX_ite, xisO_run, rXIs_run, xfO_run, rXF_run, okO_ok, cxO_run, rCallX_run, List.getElem?_cons_zero, List.getElem?_cons_succ, List.set_cons_zero, List.set_cons_succ, List.length_cons, List.length_nil, Option.map_some, Option.map_none, if_true, if_false, ite_true, ite_false, reduceIte, decide_true, decide_false, Bool.not_true, Bool.not_false, Bool.false_eq_true, ie_1_12, ie_2_12, ie_3_12, ie_4_12, ie_5_12, ie_6_12, ie_7_12, ie_8_12, ie_9_12, ie_10_12, ie_11_12, ie_12_12, ie_13_12, ie_14_12, ie_15_12, ie_16_12, tru_bl, fm_NotBetween_row, lk_NotBetween_row, h1, h2, z0, z1, z2, z3, z4, z12, z16, hy, Int.reduceEq, List.mem_cons, List.not_mem_nil, or_false, or_true, false_or, true_or, Nat.reduceAdd, List.cons_append, List.nil_append]
theorem kinds_11 {one two three : PV} {x1 x2 : Str} {S : Store} (h1 : reprPV true one = some x1) (h2 : reprPV true two = some x2) : F_u_law_kinds 12 (List.reverse ["row"]) (List.reverse [one]) S = .ok (.lst [.tup [.str "notbetween", one]]) S := by
  have hz : ∀ k : Nat, k ≤ 100 → k ≤ sizeLine := fun k hk => Nat.le_trans hk (by decide)
  have hy : (0 : Nat) < sizeLine := by decide
  have z0 : (0 : Nat) ≤ sizeLine := hz 0 (by decide)
  have z1 : (1 : Nat) ≤ sizeLine := hz 1 (by decide)
  have z2 : (2 : Nat) ≤ sizeLine := hz 2 (by decide)
  have z3 : (3 : Nat) ≤ sizeLine := hz 3 (by decide)
  have z4 : (4 : Nat) ≤ sizeLine := hz 4 (by decide)
  have z12 : (12 : Nat) ≤ sizeLine := hz 12 (by decide)
  have z16 : (16 : Nat) ≤ sizeLine := hz 16 (by decide)
  have em := more_11 (three := three) (S := S) h1 h2
  refine runH_run.trans ?_
  show toX (r_u_law_kinds [.exc 12 (List.reverse ["row"]) (List.reverse [one]), .no] S) = _
  simp only [r_u_law_kinds, ob_ok, ob_exc, ob_stuck, ob_ite, os_ok, os_exc, os_stuck, os_ite, st_nx, st_rt, st_bk, st_ct, st_exc, st_stuck, st_ite, so_rt, so_nx, so_exc, so_stuck, so_ite, sv_val, sb_val, sb_own, ov_some, obb_some, bl_run, rC_run, rVar_run, rBor_run, rOp_run, rDGet_run, rIx_run, raNil_run, raCons_run, rTup_run, rLst_run, rDct_run, rCell_run, rCell0_run, rCall_run, rBlt_run, rLen_run, rList_run, rTuple_run, rRepr_run, opRepr_run, negV_int, rNeg_run, rTruB_run, rTru_run, rtAnd_run, rtOr_run, rtNot_run, rIfE_run, andV_t, andV_f, rAndV_run, rOrV_run, rNotV_run, add_int, add_lst, add_tup, add_str, sub_int, mul_int, mod_int, div_int, pow_int, cmp_int, eq_run, ne_run, eqPV_int, eqPV_str, is_non, isnt_non, dget_some, dget_run, ix_lst, ix_tup, len_lst, len_tup, len_scr, list_lst, list_tup, list_scr, int_run, abs_run, seqO_some, riSeq_run, riRg1_run, rg1_run, riRg2_run, rg2_run, gnm_run, sBind_run, sSeq_run, sNext_run, sBreak_run, sCont_run, sRet_run, sRetN_run, sExpr_run, sSet_run, sIf_run, dput_some, dputAt_run, sDPut_run, sPar_run, sOwn_run, rlLst_run, appO_run, appH_run, sAppend_run, frzO_run, sFrz_run, sRaise_run, sRaise0_run, suO_nx, suO_rt, suO_ite, endTry_run, subO_t, subO_f, tryO_exc, tryO_nx, tryO_rt, tryO_ite, sTry_run, sFor_run, forL_nil, forO_nx, forO_ct, forO_bk, forO_rt, forO_ite, forL_cons, toX_rt, toX_nx, toX_ite, xisO_run, rXIs_run, xfO_run, rXF_run, okO_ok, cxO_run, rCallX_run, List.getElem?_cons_zero, List.getElem?_cons_succ, List.set_cons_zero, List.set_cons_succ, List.length_cons, List.length_nil, Option.map_some, Option.map_none, if_true, if_false, ite_true, ite_false, reduceIte, decide_true, decide_false, Bool.not_true, Bool.not_false, Bool.false_eq_true, ie_1_12, ie_2_12, ie_3_12, ie_4_12, ie_5_12, ie_6_12, ie_7_12, ie_8_12, ie_9_12, ie_10_12, ie_11_12, ie_12_12, ie_13_12, ie_14_12, ie_15_12, ie_16_12, tru_bl, fm_NotBetween_row, lk_NotBetween_row, h1, h2, z0, z1, z2, z3, z4, z12, z16, hy, Int.reduceEq, List.mem_cons, List.not_mem_nil, or_false, or_true, false_or, true_or, Nat.reduceAdd, List.cons_append, List.nil_append, em]
theorem told_11 {one two three : PV} {x1 x2 : Str} {S : Store} (h1 : reprPV true one = some x1) (h2 : reprPV true two = some x2) : F_u_law_told [.int 11, one, two, three] S = .ok (.lst [.tup [.str "notbetween", one]]) S := by
  have ek := kinds_11 (three := three) (S := S) h1 h2
  refine runF_run.trans ?_
  show SOut.toO (r_u_law_told [.val (.int 11), .val one, .val two, .val three, .no, .no] S) = _
  have er : F_u_law_raised [.int 11, one, two] S = .ok .non S := by
    refine runF_run.trans ?_
    show SOut.toO (r_u_law_raised [.val (.int 11), .val one, .val two] S) = _
    simp only [r_u_law_raised, ob_ok, ob_exc, ob_stuck, ob_ite, os_ok, os_exc, os_stuck, os_ite, st_nx, st_rt, st_bk, st_ct, st_exc, st_stuck, st_ite, so_rt, so_nx, so_exc, so_stuck, so_ite, sv_val, sb_val, sb_own, ov_some, obb_some, bl_run, rC_run, rVar_run, rBor_run, rOp_run, rDGet_run, rIx_run, raNil_run, raCons_run, rTup_run, rLst_run, rDct_run, rCell_run, rCell0_run, rCall_run, rBlt_run, rLen_run, rList_run, rTuple_run, rRepr_run, opRepr_run, negV_int, rNeg_run, rTruB_run, rTru_run, rtAnd_run, rtOr_run, rtNot_run, rIfE_run, andV_t, andV_f, rAndV_run, rOrV_run, rNotV_run, add_int, add_lst, add_tup, add_str, sub_int, mul_int, mod_int, div_int, pow_int, cmp_int, eq_run, ne_run, eqPV_int, eqPV_str, is_non, isnt_non, dget_some, dget_run, ix_lst, ix_tup, len_lst, len_tup, len_scr, list_lst, list_tup, list_scr, int_run, abs_run, seqO_some, riSeq_run, riRg1_run, rg1_run, riRg2_run, rg2_run, gnm_run, sBind_run, sSeq_run, sNext_run, sBreak_run, sCont_run, sRet_run, sRetN_run, sExpr_run, sSet_run, sIf_run, dput_some, dputAt_run, sDPut_run, sPar_run, sOwn_run, rlLst_run, appO_run, appH_run, sAppend_run, frzO_run, sFrz_run, sRaise_run, sRaise0_run, suO_nx, suO_rt, suO_ite, endTry_run, subO_t, subO_f, tryO_exc, tryO_nx, tryO_rt, tryO_ite, sTry_run, sFor_run, forL_nil, forO_nx, forO_ct, forO_bk, forO_rt, forO_ite, forL_cons, toX_rt, toX_nx, toX_ite, xisO_run, rXIs_run, xfO_run, rXF_run, okO_ok, cxO_run, rCallX_run, List.getElem?_cons_zero, List.getElem?_cons_succ, List.set_cons_zero, List.set_cons_succ, List.length_cons, List.length_nil, Option.map_some, Option.map_none, if_true, if_false, ite_true, ite_false, reduceIte, decide_true, decide_false, Bool.not_true, Bool.not_false, Bool.false_eq_true, Int.reduceEq, List.mem_cons, List.not_mem_nil, or_false, or_true, false_or, true_or, Nat.reduceAdd, List.cons_append, List.nil_append]
  have er2 : F_u_law_raised_too [.int 11, one, two, three] S = .exc 12 (List.reverse ["row"]) (List.reverse [one]) S := by
    refine runF_run.trans ?_
    show SOut.toO (r_u_law_raised_too [.val (.int 11), .val one, .val two, .val three] S) = _
    have l3 : (0 : Nat) ≤ 1000 ∧ (1 : Nat) ≤ 1000 ∧ (2 : Nat) ≤ 1000 ∧ (3 : Nat) ≤ 1000 := by decide
    simp only [r_u_law_raised_too, ob_ok, ob_exc, ob_stuck, ob_ite, os_ok, os_exc, os_stuck, os_ite, st_nx, st_rt, st_bk, st_ct, st_exc, st_stuck, st_ite, so_rt, so_nx, so_exc, so_stuck, so_ite, sv_val, sb_val, sb_own, ov_some, obb_some, bl_run, rC_run, rVar_run, rBor_run, rOp_run, rDGet_run, rIx_run, raNil_run, raCons_run, rTup_run, rLst_run, rDct_run, rCell_run, rCell0_run, rCall_run, rBlt_run, rLen_run, rList_run, rTuple_run, rRepr_run, opRepr_run, negV_int, rNeg_run, rTruB_run, rTru_run, rtAnd_run, rtOr_run, rtNot_run, rIfE_run, andV_t, andV_f, rAndV_run, rOrV_run, rNotV_run, add_int, add_lst, add_tup, add_str, sub_int, mul_int, mod_int, div_int, pow_int, cmp_int, eq_run, ne_run, eqPV_int, eqPV_str, is_non, isnt_non, dget_some, dget_run, ix_lst, ix_tup, len_lst, len_tup, len_scr, list_lst, list_tup, list_scr, int_run, abs_run, seqO_some, riSeq_run, riRg1_run, rg1_run, riRg2_run, rg2_run, gnm_run, sBind_run, sSeq_run, sNext_run, sBreak_run, sCont_run, sRet_run, sRetN_run, sExpr_run, sSet_run, sIf_run, dput_some, dputAt_run, sDPut_run, sPar_run, sOwn_run, rlLst_run, appO_run, appH_run, sAppend_run, frzO_run, sFrz_run, sRaise_run, sRaise0_run, suO_nx, suO_rt, suO_ite, endTry_run, subO_t, subO_f, tryO_exc, tryO_nx, tryO_rt, tryO_ite, sTry_run, sFor_run, forL_nil, forO_nx, forO_ct, forO_bk, forO_rt, forO_ite, forL_cons, toX_rt, toX_nx, toX_ite, xisO_run, rXIs_run, xfO_run, rXF_run, okO_ok, cxO_run, rCallX_run, List.getElem?_cons_zero, List.getElem?_cons_succ, List.set_cons_zero, List.set_cons_succ, List.length_cons, List.length_nil, Option.map_some, Option.map_none, if_true, if_false, ite_true, ite_false, reduceIte, decide_true, decide_false, Bool.not_true, Bool.not_false, Bool.false_eq_true, Int.reduceEq, List.mem_cons, List.not_mem_nil, or_false, or_true, false_or, true_or, Nat.reduceAdd, List.cons_append, List.nil_append, l3, and_self]
  have cl : ∀ a b c d e : PV, clean [.val a, .val b, .val c, .val d, .val e, .no] = true := fun _ _ _ _ _ => rfl
  simp only [r_u_law_told, ob_ok, ob_exc, ob_stuck, ob_ite, os_ok, os_exc, os_stuck, os_ite, st_nx, st_rt, st_bk, st_ct, st_exc, st_stuck, st_ite, so_rt, so_nx, so_exc, so_stuck, so_ite, sv_val, sb_val, sb_own, ov_some, obb_some, bl_run, rC_run, rVar_run, rBor_run, rOp_run, rDGet_run, rIx_run, raNil_run, raCons_run, rTup_run, rLst_run, rDct_run, rCell_run, rCell0_run, rCall_run, rBlt_run, rLen_run, rList_run, rTuple_run, rRepr_run, opRepr_run, negV_int, rNeg_run, rTruB_run, rTru_run, rtAnd_run, rtOr_run, rtNot_run, rIfE_run, andV_t, andV_f, rAndV_run, rOrV_run, rNotV_run, add_int, add_lst, add_tup, add_str, sub_int, mul_int, mod_int, div_int, pow_int, cmp_int, eq_run, ne_run, eqPV_int, eqPV_str, is_non, isnt_non, dget_some, dget_run, ix_lst, ix_tup, len_lst, len_tup, len_scr, list_lst, list_tup, list_scr, int_run, abs_run, seqO_some, riSeq_run, riRg1_run, rg1_run, riRg2_run, rg2_run, gnm_run, sBind_run, sSeq_run, sNext_run, sBreak_run, sCont_run, sRet_run, sRetN_run, sExpr_run, sSet_run, sIf_run, dput_some, dputAt_run, sDPut_run, sPar_run, sOwn_run, rlLst_run, appO_run, appH_run, sAppend_run, frzO_run, sFrz_run, sRaise_run, sRaise0_run, suO_nx, suO_rt, suO_ite, endTry_run, subO_t, subO_f, tryO_exc, tryO_nx, tryO_rt, tryO_ite, sTry_run, sFor_run, forL_nil, forO_nx, forO_ct, forO_bk, forO_rt, forO_ite, forL_cons, toX_rt, toX_nx, toX_ite, xisO_run, rXIs_run, xfO_run, rXF_run, okO_ok, cxO_run, rCallX_run, List.getElem?_cons_zero, List.getElem?_cons_succ, List.set_cons_zero, List.set_cons_succ, List.length_cons, List.length_nil, Option.map_some, Option.map_none, if_true, if_false, ite_true, ite_false, reduceIte, decide_true, decide_false, Bool.not_true, Bool.not_false, Bool.false_eq_true, Int.reduceEq, List.mem_cons, List.not_mem_nil, or_false, or_true, false_or, true_or, Nat.reduceAdd, List.cons_append, List.nil_append, er, er2, ie_0_12, iv_12, tru_bl, ek, cl]
theorem due_11 {one two three : PV} {x1 x2 : Str} {S : Store} (h1 : reprPV true one = some x1) (h2 : reprPV true two = some x2) : F_u_law_due [.int 11, one, two, three] S = .ok (.tup [.str "notbetween", one]) S := by
  have hz : ∀ k : Nat, k ≤ 100 → k ≤ sizeLine := fun k hk => Nat.le_trans hk (by decide)
  have hy : (0 : Nat) < sizeLine := by decide
  have z0 : (0 : Nat) ≤ sizeLine := hz 0 (by decide)
  have z1 : (1 : Nat) ≤ sizeLine := hz 1 (by decide)
  have z2 : (2 : Nat) ≤ sizeLine := hz 2 (by decide)
  have z3 : (3 : Nat) ≤ sizeLine := hz 3 (by decide)
  have z4 : (4 : Nat) ≤ sizeLine := hz 4 (by decide)
  have z12 : (12 : Nat) ≤ sizeLine := hz 12 (by decide)
  have z16 : (16 : Nat) ≤ sizeLine := hz 16 (by decide)
  refine runF_run.trans ?_
  show SOut.toO (r_u_law_due [.val (.int 11), .val one, .val two, .val three, .no] S) = _
  simp only [r_u_law_due, ob_ok, ob_exc, ob_stuck, ob_ite, os_ok, os_exc, os_stuck, os_ite, st_nx, st_rt, st_bk, st_ct, st_exc, st_stuck, st_ite, so_rt, so_nx, so_exc, so_stuck, so_ite, sv_val, sb_val, sb_own, ov_some, obb_some, bl_run, rC_run, rVar_run, rBor_run, rOp_run, rDGet_run, rIx_run, raNil_run, raCons_run, rTup_run, rLst_run, rDct_run, rCell_run, rCell0_run, rCall_run, rBlt_run, rLen_run, rList_run, rTuple_run, rRepr_run, opRepr_run, negV_int, rNeg_run, rTruB_run, rTru_run, rtAnd_run, rtOr_run, rtNot_run, rIfE_run, andV_t, andV_f, rAndV_run, rOrV_run, rNotV_run, add_int, add_lst, add_tup, add_str, sub_int, mul_int, mod_int, div_int, pow_int, cmp_int, eq_run, ne_run, eqPV_int, eqPV_str, is_non, isnt_non, dget_some, dget_run, ix_lst, ix_tup, len_lst, len_tup, len_scr, list_lst, list_tup, list_scr, int_run, abs_run, seqO_some, riSeq_run, riRg1_run, rg1_run, riRg2_run, rg2_run, gnm_run, sBind_run, sSeq_run, sNext_run, sBreak_run, sCont_run, sRet_run, sRetN_run, sExpr_run, sSet_run, sIf_run, dput_some, dputAt_run, sDPut_run, sPar_run, sOwn_run, rlLst_run, appO_run, appH_run, sAppend_run, frzO_run, sFrz_run, sRaise_run, sRaise0_run, suO_nx, suO_rt, suO_ite, endTry_run, subO_t, subO_f, tryO_exc, tryO_nx, tryO_rt, tryO_ite, sTry_run, sFor_run, forL_nil, forO_nx, forO_ct, forO_bk, forO_rt, forO_ite, forL_cons, toX_rt, toX_nx, toX_ite, xisO_run, rXIs_run, xfO_run, rXF_run, okO_ok, cxO_run, rCallX_run, List.getElem?_cons_zero, List.getElem?_cons_succ, List.set_cons_zero, List.set_cons_succ, List.length_cons, List.length_nil, Option.map_some, Option.map_none, if_true, if_false, ite_true, ite_false, reduceIte, decide_true, decide_false, Bool.not_true, Bool.not_false, Bool.false_eq_true, in_a, in_b, in_c, in_d, Int.reduceEq, List.mem_cons, List.not_mem_nil, or_false, or_true, false_or, true_or, Nat.reduceAdd, List.cons_append, List.nil_append, aw_11, h1, h2, z0, z1, z2, z3, z4, z12, z16, hy]
theorem more_12 {one two three : PV} {x1 x2 : Str} {S : Store} (h1 : reprPV true one = some x1) (h2 : reprPV true two = some x2) : F_u_law_more_kinds 13 (List.reverse ["what", "many", "limit"]) (List.reverse [one, two, three]) S = .ok (.lst [.tup [.str "many", one, two, three]]) S := by
  have hz : ∀ k : Nat, k ≤ 100 → k ≤ sizeLine := fun k hk => Nat.le_trans hk (by decide)
  have hy : (0 : Nat) < sizeLine := by decide
  have z0 : (0 : Nat) ≤ sizeLine := hz 0 (by decide)
  have z1 : (1 : Nat) ≤ sizeLine := hz 1 (by decide)
  have z2 : (2 : Nat) ≤ sizeLine := hz 2 (by decide)
  have z3 : (3 : Nat) ≤ sizeLine := hz 3 (by decide)
  have z4 : (4 : Nat) ≤ sizeLine := hz 4 (by decide)
  have z12 : (12 : Nat) ≤ sizeLine := hz 12 (by decide)
  have z16 : (16 : Nat) ≤ sizeLine := hz 16 (by decide)
  refine runH_run.trans ?_
  show toX (r_u_law_more_kinds [.exc 13 (List.reverse ["what", "many", "limit"]) (List.reverse [one, two, three]), .no] S) = _
  simp only [r_u_law_more_kinds, ob_ok, ob_exc, ob_stuck, ob_ite, os_ok, os_exc, os_stuck, os_ite, st_nx, st_rt, st_bk, st_ct, st_exc, st_stuck, st_ite, so_rt, so_nx, so_exc, so_stuck, so_ite, sv_val, sb_val, sb_own, ov_some, obb_some, bl_run, rC_run, rVar_run, rBor_run, rOp_run, rDGet_run, rIx_run, raNil_run, raCons_run, rTup_run, rLst_run, rDct_run, rCell_run, rCell0_run, rCall_run, rBlt_run, rLen_run, rList_run, rTuple_run, rRepr_run, opRepr_run, negV_int, rNeg_run, rTruB_run, rTru_run, rtAnd_run, rtOr_run, rtNot_run, rIfE_run, andV_t, andV_f, rAndV_run, rOrV_run, rNotV_run, add_int, add_lst, add_tup, add_str, sub_int, mul_int, mod_int, div_int, pow_int, cmp_int, eq_run, ne_run, eqPV_int, eqPV_str, is_non, isnt_non, dget_some, dget_run, ix_lst, ix_tup, len_lst, len_tup, len_scr, list_lst, list_tup, list_scr, int_run, abs_run, seqO_some, riSeq_run, riRg1_run, rg1_run, riRg2_run, rg2_run, gnm_run, sBind_run, sSeq_run, sNext_run, sBreak_run, sCont_run, sRet_run, sRetN_run, sExpr_run, sSet_run, sIf_run, dput_some, dputAt_run, sDPut_run, sPar_run, sOwn_run, rlLst_run, appO_run, appH_run, sAppend_run, frzO_run, sFrz_run, sRaise_run, sRaise0_run, suO_nx, suO_rt, suO_ite, endTry_run, subO_t, subO_f, tryO_exc, tryO_nx, tryO_rt, tryO_ite, sTry_run, sFor_run, forL_nil, forO_nx, forO_ct, forO_bk, forO_rt, forO_ite, forL_cons, toX_rt, toX_nx, toX_ite, xisO_run, rXIs_run, xfO_run, rXF_run, okO_ok, cxO_run, rCallX_run, List.getElem?_cons_zero, List.getElem?_cons_succ, List.set_cons_zero, List.set_cons_succ, List.length_cons, List.length_nil, Option.map_some, Option.map_none, if_true, if_false, ite_true, ite_false, reduceIte, decide_true, decide_false, Bool.not_true, Bool.not_false, Bool.false_eq_true, ie_1_13, ie_2_13, ie_3_13, ie_4_13, ie_5_13, ie_6_13, ie_7_13, ie_8_13, ie_9_13, ie_10_13, ie_11_13, ie_12_13, ie_13_13, ie_14_13, ie_15_13, ie_16_13, tru_bl, fm_TooMany_what, fm_TooMany_many, fm_TooMany_limit, lk_TooMany_what, lk_TooMany_many, lk_TooMany_limit, h1, h2, z0, z1, z2, z3, z4, z12, z16, hy, Int.reduceEq, List.mem_cons, List.not_mem_nil, or_false, or_true, false_or, true_or, Nat.reduceAdd, List.cons_append, List.nil_append]
theorem kinds_12 {one two three : PV} {x1 x2 : Str} {S : Store} (h1 : reprPV true one = some x1) (h2 : reprPV true two = some x2) : F_u_law_kinds 13 (List.reverse ["what", "many", "limit"]) (List.reverse [one, two, three]) S = .ok (.lst [.tup [.str "many", one, two, three]]) S := by
  have hz : ∀ k : Nat, k ≤ 100 → k ≤ sizeLine := fun k hk => Nat.le_trans hk (by decide)
  have hy : (0 : Nat) < sizeLine := by decide
  have z0 : (0 : Nat) ≤ sizeLine := hz 0 (by decide)
  have z1 : (1 : Nat) ≤ sizeLine := hz 1 (by decide)
  have z2 : (2 : Nat) ≤ sizeLine := hz 2 (by decide)
  have z3 : (3 : Nat) ≤ sizeLine := hz 3 (by decide)
  have z4 : (4 : Nat) ≤ sizeLine := hz 4 (by decide)
  have z12 : (12 : Nat) ≤ sizeLine := hz 12 (by decide)
  have z16 : (16 : Nat) ≤ sizeLine := hz 16 (by decide)
  have em := more_12 (three := three) (S := S) h1 h2
  refine runH_run.trans ?_
  show toX (r_u_law_kinds [.exc 13 (List.reverse ["what", "many", "limit"]) (List.reverse [one, two, three]), .no] S) = _
  simp only [r_u_law_kinds, ob_ok, ob_exc, ob_stuck, ob_ite, os_ok, os_exc, os_stuck, os_ite, st_nx, st_rt, st_bk, st_ct, st_exc, st_stuck, st_ite, so_rt, so_nx, so_exc, so_stuck, so_ite, sv_val, sb_val, sb_own, ov_some, obb_some, bl_run, rC_run, rVar_run, rBor_run, rOp_run, rDGet_run, rIx_run, raNil_run, raCons_run, rTup_run, rLst_run, rDct_run, rCell_run, rCell0_run, rCall_run, rBlt_run, rLen_run, rList_run, rTuple_run, rRepr_run, opRepr_run, negV_int, rNeg_run, rTruB_run, rTru_run, rtAnd_run, rtOr_run, rtNot_run, rIfE_run, andV_t, andV_f, rAndV_run, rOrV_run, rNotV_run, add_int, add_lst, add_tup, add_str, sub_int, mul_int, mod_int, div_int, pow_int, cmp_int, eq_run, ne_run, eqPV_int, eqPV_str, is_non, isnt_non, dget_some, dget_run, ix_lst, ix_tup, len_lst, len_tup, len_scr, list_lst, list_tup, list_scr, int_run, abs_run, seqO_some, riSeq_run, riRg1_run, rg1_run, riRg2_run, rg2_run, gnm_run, sBind_run, sSeq_run, sNext_run, sBreak_run, sCont_run, sRet_run, sRetN_run, sExpr_run, sSet_run, sIf_run, dput_some, dputAt_run, sDPut_run, sPar_run, sOwn_run, rlLst_run, appO_run, appH_run, sAppend_run, frzO_run, sFrz_run, sRaise_run, sRaise0_run, suO_nx, suO_rt, suO_ite, endTry_run, subO_t, subO_f, tryO_exc, tryO_nx, tryO_rt, tryO_ite, sTry_run, sFor_run, forL_nil, forO_nx, forO_ct, forO_bk, forO_rt, forO_ite, forL_cons, toX_rt, toX_nx, toX_ite, xisO_run, rXIs_run, xfO_run, rXF_run, okO_ok, cxO_run, rCallX_run, List.getElem?_cons_zero, List.getElem?_cons_succ, List.set_cons_zero, List.set_cons_succ, List.length_cons, List.length_nil, Option.map_some, Option.map_none, if_true, if_false, ite_true, ite_false, reduceIte, decide_true, decide_false, Bool.not_true, Bool.not_false, Bool.false_eq_true, ie_1_13, ie_2_13, ie_3_13, ie_4_13, ie_5_13, ie_6_13, ie_7_13, ie_8_13, ie_9_13, ie_10_13, ie_11_13, ie_12_13, ie_13_13, ie_14_13, ie_15_13, ie_16_13, tru_bl, fm_TooMany_what, fm_TooMany_many, fm_TooMany_limit, lk_TooMany_what, lk_TooMany_many, lk_TooMany_limit, h1, h2, z0, z1, z2, z3, z4, z12, z16, hy, Int.reduceEq, List.mem_cons, List.not_mem_nil, or_false, or_true, false_or, true_or, Nat.reduceAdd, List.cons_append, List.nil_append, em]
theorem told_12 {one two three : PV} {x1 x2 : Str} {S : Store} (h1 : reprPV true one = some x1) (h2 : reprPV true two = some x2) : F_u_law_told [.int 12, one, two, three] S = .ok (.lst [.tup [.str "many", one, two, three]]) S := by
  have ek := kinds_12 (three := three) (S := S) h1 h2
  refine runF_run.trans ?_
  show SOut.toO (r_u_law_told [.val (.int 12), .val one, .val two, .val three, .no, .no] S) = _
  have er : F_u_law_raised [.int 12, one, two] S = .ok .non S := by
    refine runF_run.trans ?_
    show SOut.toO (r_u_law_raised [.val (.int 12), .val one, .val two] S) = _
    simp only [r_u_law_raised, ob_ok, ob_exc, ob_stuck, ob_ite, os_ok, os_exc, os_stuck, os_ite, st_nx, st_rt, st_bk, st_ct, st_exc, st_stuck, st_ite, so_rt, so_nx, so_exc, so_stuck, so_ite, sv_val, sb_val, sb_own, ov_some, obb_some, bl_run, rC_run, rVar_run, rBor_run, rOp_run, rDGet_run, rIx_run, raNil_run, raCons_run, rTup_run, rLst_run, rDct_run, rCell_run, rCell0_run, rCall_run, rBlt_run, rLen_run, rList_run, rTuple_run, rRepr_run, opRepr_run, negV_int, rNeg_run, rTruB_run, rTru_run, rtAnd_run, rtOr_run, rtNot_run, rIfE_run, andV_t, andV_f, rAndV_run, rOrV_run, rNotV_run, add_int, add_lst, add_tup, add_str, sub_int, mul_int, mod_int, div_int, pow_int, cmp_int, eq_run, ne_run, eqPV_int, eqPV_str, is_non, isnt_non, dget_some, dget_run, ix_lst, ix_tup, len_lst, len_tup, len_scr, list_lst, list_tup, list_scr, int_run, abs_run, seqO_some, riSeq_run, riRg1_run, rg1_run, riRg2_run, rg2_run, gnm_run, sBind_run, sSeq_run, sNext_run, sBreak_run, sCont_run, sRet_run, sRetN_run, sExpr_run, sSet_run, sIf_run, dput_some, dputAt_run, sDPut_run, sPar_run, sOwn_run, rlLst_run, appO_run, appH_run, sAppend_run, frzO_run, sFrz_run, sRaise_run, sRaise0_run, suO_nx, suO_rt, suO_ite, endTry_run, subO_t, subO_f, tryO_exc, tryO_nx, tryO_rt, tryO_ite, sTry_run, sFor_run, forL_nil, forO_nx, forO_ct, forO_bk, forO_rt, forO_ite, forL_cons, toX_rt, toX_nx, toX_ite, xisO_run, rXIs_run, xfO_run, rXF_run, okO_ok, cxO_run, rCallX_run, List.getElem?_cons_zero, List.getElem?_cons_succ, List.set_cons_zero, List.set_cons_succ, List.length_cons, List.length_nil, Option.map_some, Option.map_none, if_true, if_false, ite_true, ite_false, reduceIte, decide_true, decide_false, Bool.not_true, Bool.not_false, Bool.false_eq_true, Int.reduceEq, List.mem_cons, List.not_mem_nil, or_false, or_true, false_or, true_or, Nat.reduceAdd, List.cons_append, List.nil_append]
  have er2 : F_u_law_raised_too [.int 12, one, two, three] S = .exc 13 (List.reverse ["what", "many", "limit"]) (List.reverse [one, two, three]) S := by
    refine runF_run.trans ?_
    show SOut.toO (r_u_law_raised_too [.val (.int 12), .val one, .val two, .val three] S) = _
    have l3 : (0 : Nat) ≤ 1000 ∧ (1 : Nat) ≤ 1000 ∧ (2 : Nat) ≤ 1000 ∧ (3 : Nat) ≤ 1000 := by decide
    simp only [r_u_law_raised_too, ob_ok, ob_exc, ob_stuck, ob_ite, os_ok, os_exc, os_stuck, os_ite, st_nx, st_rt, st_bk, st_ct, st_exc, st_stuck, st_ite, so_rt, so_nx, so_exc, so_stuck, so_ite, sv_val, sb_val, sb_own, ov_some, obb_some, bl_run, rC_run, rVar_run, rBor_run, rOp_run, rDGet_run, rIx_run, raNil_run, raCons_run, rTup_run, rLst_run, rDct_run, rCell_run, rCell0_run, rCall_run, rBlt_run, rLen_run, rList_run, rTuple_run, rRepr_run, opRepr_run, negV_int, rNeg_run, rTruB_run, rTru_run, rtAnd_run, rtOr_run, rtNot_run, rIfE_run, andV_t, andV_f, rAndV_run, rOrV_run, rNotV_run, add_int, add_lst, add_tup, add_str, sub_int, mul_int, mod_int, div_int, pow_int, cmp_int, eq_run, ne_run, eqPV_int, eqPV_str, is_non, isnt_non, dget_some, dget_run, ix_lst, ix_tup, len_lst, len_tup, len_scr, list_lst, list_tup, list_scr, int_run, abs_run, seqO_some, riSeq_run, riRg1_run, rg1_run, riRg2_run, rg2_run, gnm_run, sBind_run, sSeq_run, sNext_run, sBreak_run, sCont_run, sRet_run, sRetN_run, sExpr_run, sSet_run, sIf_run, dput_some, dputAt_run, sDPut_run, sPar_run, sOwn_run, rlLst_run, appO_run, appH_run, sAppend_run, frzO_run, sFrz_run, sRaise_run, sRaise0_run, suO_nx, suO_rt, suO_ite, endTry_run, subO_t, subO_f, tryO_exc, tryO_nx, tryO_rt, tryO_ite, sTry_run, sFor_run, forL_nil, forO_nx, forO_ct, forO_bk, forO_rt, forO_ite, forL_cons, toX_rt, toX_nx, toX_ite, xisO_run, rXIs_run, xfO_run, rXF_run, okO_ok, cxO_run, rCallX_run, List.getElem?_cons_zero, List.getElem?_cons_succ, List.set_cons_zero, List.set_cons_succ, List.length_cons, List.length_nil, Option.map_some, Option.map_none, if_true, if_false, ite_true, ite_false, reduceIte, decide_true, decide_false, Bool.not_true, Bool.not_false, Bool.false_eq_true, Int.reduceEq, List.mem_cons, List.not_mem_nil, or_false, or_true, false_or, true_or, Nat.reduceAdd, List.cons_append, List.nil_append, l3, and_self]
  have cl : ∀ a b c d e : PV, clean [.val a, .val b, .val c, .val d, .val e, .no] = true := fun _ _ _ _ _ => rfl
  simp only [r_u_law_told, ob_ok, ob_exc, ob_stuck, ob_ite, os_ok, os_exc, os_stuck, os_ite, st_nx, st_rt, st_bk, st_ct, st_exc, st_stuck, st_ite, so_rt, so_nx, so_exc, so_stuck, so_ite, sv_val, sb_val, sb_own, ov_some, obb_some, bl_run, rC_run, rVar_run, rBor_run, rOp_run, rDGet_run, rIx_run, raNil_run, raCons_run, rTup_run, rLst_run, rDct_run, rCell_run, rCell0_run, rCall_run, rBlt_run, rLen_run, rList_run, rTuple_run, rRepr_run, opRepr_run, negV_int, rNeg_run, rTruB_run, rTru_run, rtAnd_run, rtOr_run, rtNot_run, rIfE_run, andV_t, andV_f, rAndV_run, rOrV_run, rNotV_run, add_int, add_lst, add_tup, add_str, sub_int, mul_int, mod_int, div_int, pow_int, cmp_int, eq_run, ne_run, eqPV_int, eqPV_str, is_non, isnt_non, dget_some, dget_run, ix_lst, ix_tup, len_lst, len_tup, len_scr, list_lst, list_tup, list_scr, int_run, abs_run, seqO_some, riSeq_run, riRg1_run, rg1_run, riRg2_run, rg2_run, gnm_run, sBind_run, sSeq_run, sNext_run, sBreak_run, sCont_run, sRet_run, sRetN_run, sExpr_run, sSet_run, sIf_run, dput_some, dputAt_run, sDPut_run, sPar_run, sOwn_run, rlLst_run, appO_run, appH_run, sAppend_run, frzO_run, sFrz_run, sRaise_run, sRaise0_run, suO_nx, suO_rt, suO_ite, endTry_run, subO_t, subO_f, tryO_exc, tryO_nx, tryO_rt, tryO_ite, sTry_run, sFor_run, forL_nil, forO_nx, forO_ct, forO_bk, forO_rt, forO_ite, forL_cons, toX_rt, toX_nx, toX_ite, xisO_run, rXIs_run, xfO_run, rXF_run, okO_ok, cxO_run, rCallX_run, List.getElem?_cons_zero, List.getElem?_cons_succ, List.set_cons_zero, List.set_cons_succ, List.length_cons, List.length_nil, Option.map_some, Option.map_none, if_true, if_false, ite_true, ite_false, reduceIte, decide_true, decide_false, Bool.not_true, Bool.not_false, Bool.false_eq_true, Int.reduceEq, List.mem_cons, List.not_mem_nil, or_false, or_true, false_or, true_or, Nat.reduceAdd, List.cons_append, List.nil_append, er, er2, ie_0_13, iv_13, tru_bl, ek, cl]
theorem due_12 {one two three : PV} {x1 x2 : Str} {S : Store} (h1 : reprPV true one = some x1) (h2 : reprPV true two = some x2) : F_u_law_due [.int 12, one, two, three] S = .ok (.tup [.str "many", one, two, three]) S := by
  have hz : ∀ k : Nat, k ≤ 100 → k ≤ sizeLine := fun k hk => Nat.le_trans hk (by decide)
  have hy : (0 : Nat) < sizeLine := by decide
  have z0 : (0 : Nat) ≤ sizeLine := hz 0 (by decide)
  have z1 : (1 : Nat) ≤ sizeLine := hz 1 (by decide)
  have z2 : (2 : Nat) ≤ sizeLine := hz 2 (by decide)
  have z3 : (3 : Nat) ≤ sizeLine := hz 3 (by decide)
  have z4 : (4 : Nat) ≤ sizeLine := hz 4 (by decide)
  have z12 : (12 : Nat) ≤ sizeLine := hz 12 (by decide)
  have z16 : (16 : Nat) ≤ sizeLine := hz 16 (by decide)
  refine runF_run.trans ?_
  show SOut.toO (r_u_law_due [.val (.int 12), .val one, .val two, .val three, .no] S) = _
  simp only [r_u_law_due, ob_ok, ob_exc, ob_stuck, ob_ite, os_ok, os_exc, os_stuck, os_ite, st_nx, st_rt, st_bk, st_ct, st_exc, st_stuck, st_ite, so_rt, so_nx, so_exc, so_stuck, so_ite, sv_val, sb_val, sb_own, ov_some, obb_some, bl_run, rC_run, rVar_run, rBor_run, rOp_run, rDGet_run, rIx_run, raNil_run, raCons_run, rTup_run, rLst_run, rDct_run, rCell_run, rCell0_run, rCall_run, rBlt_run, rLen_run, rList_run, rTuple_run, rRepr_run, opRepr_run, negV_int, rNeg_run, rTruB_run, rTru_run, rtAnd_run, rtOr_run, rtNot_run, rIfE_run, andV_t, andV_f, rAndV_run, rOrV_run, rNotV_run, add_int, add_lst, add_tup, add_str, sub_int, mul_int, mod_int, div_int, pow_int, cmp_int, eq_run, ne_run, eqPV_int, eqPV_str, is_non, isnt_non, dget_some, dget_run, ix_lst, ix_tup, len_lst, len_tup, len_scr, list_lst, list_tup, list_scr, int_run, abs_run, seqO_some, riSeq_run, riRg1_run, rg1_run, riRg2_run, rg2_run, gnm_run, sBind_run, sSeq_run, sNext_run, sBreak_run, sCont_run, sRet_run, sRetN_run, sExpr_run, sSet_run, sIf_run, dput_some, dputAt_run, sDPut_run, sPar_run, sOwn_run, rlLst_run, appO_run, appH_run, sAppend_run, frzO_run, sFrz_run, sRaise_run, sRaise0_run, suO_nx, suO_rt, suO_ite, endTry_run, subO_t, subO_f, tryO_exc, tryO_nx, tryO_rt, tryO_ite, sTry_run, sFor_run, forL_nil, forO_nx, forO_ct, forO_bk, forO_rt, forO_ite, forL_cons, toX_rt, toX_nx, toX_ite, xisO_run, rXIs_run, xfO_run, rXF_run, okO_ok, cxO_run, rCallX_run, List.getElem?_cons_zero, List.getElem?_cons_succ, List.set_cons_zero, List.set_cons_succ, List.length_cons, List.length_nil, Option.map_some, Option.map_none, if_true, if_false, ite_true, ite_false, reduceIte, decide_true, decide_false, Bool.not_true, Bool.not_false, Bool.false_eq_true, in_a, in_b, in_c, in_d, Int.reduceEq, List.mem_cons, List.not_mem_nil, or_false, or_true, false_or, true_or, Nat.reduceAdd, List.cons_append, List.nil_append, aw_12, h1, h2, z0, z1, z2, z3, z4, z12, z16, hy]
theorem more_13 {one two three : PV} {x1 x2 : Str} {S : Store} (h1 : reprPV true one = some x1) (h2 : reprPV true two = some x2) : F_u_law_more_kinds 14 (List.reverse ["promise", "witness"]) (List.reverse [one, two]) S = .ok (.lst [.tup [.str "kept", one, two]]) S := by
  have hz : ∀ k : Nat, k ≤ 100 → k ≤ sizeLine := fun k hk => Nat.le_trans hk (by decide)
  have hy : (0 : Nat) < sizeLine := by decide
  have z0 : (0 : Nat) ≤ sizeLine := hz 0 (by decide)
  have z1 : (1 : Nat) ≤ sizeLine := hz 1 (by decide)
  have z2 : (2 : Nat) ≤ sizeLine := hz 2 (by decide)
  have z3 : (3 : Nat) ≤ sizeLine := hz 3 (by decide)
  have z4 : (4 : Nat) ≤ sizeLine := hz 4 (by decide)
  have z12 : (12 : Nat) ≤ sizeLine := hz 12 (by decide)
  have z16 : (16 : Nat) ≤ sizeLine := hz 16 (by decide)
  refine runH_run.trans ?_
  show toX (r_u_law_more_kinds [.exc 14 (List.reverse ["promise", "witness"]) (List.reverse [one, two]), .no] S) = _
  simp only [r_u_law_more_kinds, ob_ok, ob_exc, ob_stuck, ob_ite, os_ok, os_exc, os_stuck, os_ite, st_nx, st_rt, st_bk, st_ct, st_exc, st_stuck, st_ite, so_rt, so_nx, so_exc, so_stuck, so_ite, sv_val, sb_val, sb_own, ov_some, obb_some, bl_run, rC_run, rVar_run, rBor_run, rOp_run, rDGet_run, rIx_run, raNil_run, raCons_run, rTup_run, rLst_run, rDct_run, rCell_run, rCell0_run, rCall_run, rBlt_run, rLen_run, rList_run, rTuple_run, rRepr_run, opRepr_run, negV_int, rNeg_run, rTruB_run, rTru_run, rtAnd_run, rtOr_run, rtNot_run, rIfE_run, andV_t, andV_f, rAndV_run, rOrV_run, rNotV_run, add_int, add_lst, add_tup, add_str, sub_int, mul_int, mod_int, div_int, pow_int, cmp_int, eq_run, ne_run, eqPV_int, eqPV_str, is_non, isnt_non, dget_some, dget_run, ix_lst, ix_tup, len_lst, len_tup, len_scr, list_lst, list_tup, list_scr, int_run, abs_run, seqO_some, riSeq_run, riRg1_run, rg1_run, riRg2_run, rg2_run, gnm_run, sBind_run, sSeq_run, sNext_run, sBreak_run, sCont_run, sRet_run, sRetN_run, sExpr_run, sSet_run, sIf_run, dput_some, dputAt_run, sDPut_run, sPar_run, sOwn_run, rlLst_run, appO_run, appH_run, sAppend_run, frzO_run, sFrz_run, sRaise_run, sRaise0_run, suO_nx, suO_rt, suO_ite, endTry_run, subO_t, subO_f, tryO_exc, tryO_nx, tryO_rt, tryO_ite, sTry_run, sFor_run, forL_nil, forO_nx, forO_ct, forO_bk, forO_rt, forO_ite, forL_cons, toX_rt, toX_nx, toX_ite, xisO_run, rXIs_run, xfO_run, rXF_run, okO_ok, cxO_run, rCallX_run, List.getElem?_cons_zero, List.getElem?_cons_succ, List.set_cons_zero, List.set_cons_succ, List.length_cons, List.length_nil, Option.map_some, Option.map_none, if_true, if_false, ite_true, ite_false, reduceIte, decide_true, decide_false, Bool.not_true, Bool.not_false, Bool.false_eq_true, ie_1_14, ie_2_14, ie_3_14, ie_4_14, ie_5_14, ie_6_14, ie_7_14, ie_8_14, ie_9_14, ie_10_14, ie_11_14, ie_12_14, ie_13_14, ie_14_14, ie_15_14, ie_16_14, tru_bl, fm_NotKept_promise, fm_NotKept_witness, lk_NotKept_promise, lk_NotKept_witness, h1, h2, z0, z1, z2, z3, z4, z12, z16, hy, Int.reduceEq, List.mem_cons, List.not_mem_nil, or_false, or_true, false_or, true_or, Nat.reduceAdd, List.cons_append, List.nil_append]
theorem kinds_13 {one two three : PV} {x1 x2 : Str} {S : Store} (h1 : reprPV true one = some x1) (h2 : reprPV true two = some x2) : F_u_law_kinds 14 (List.reverse ["promise", "witness"]) (List.reverse [one, two]) S = .ok (.lst [.tup [.str "kept", one, two]]) S := by
  have hz : ∀ k : Nat, k ≤ 100 → k ≤ sizeLine := fun k hk => Nat.le_trans hk (by decide)
  have hy : (0 : Nat) < sizeLine := by decide
  have z0 : (0 : Nat) ≤ sizeLine := hz 0 (by decide)
  have z1 : (1 : Nat) ≤ sizeLine := hz 1 (by decide)
  have z2 : (2 : Nat) ≤ sizeLine := hz 2 (by decide)
  have z3 : (3 : Nat) ≤ sizeLine := hz 3 (by decide)
  have z4 : (4 : Nat) ≤ sizeLine := hz 4 (by decide)
  have z12 : (12 : Nat) ≤ sizeLine := hz 12 (by decide)
  have z16 : (16 : Nat) ≤ sizeLine := hz 16 (by decide)
  have em := more_13 (three := three) (S := S) h1 h2
  refine runH_run.trans ?_
  show toX (r_u_law_kinds [.exc 14 (List.reverse ["promise", "witness"]) (List.reverse [one, two]), .no] S) = _
  simp only [r_u_law_kinds, ob_ok, ob_exc, ob_stuck, ob_ite, os_ok, os_exc, os_stuck, os_ite, st_nx, st_rt, st_bk, st_ct, st_exc, st_stuck, st_ite, so_rt, so_nx, so_exc, so_stuck, so_ite, sv_val, sb_val, sb_own, ov_some, obb_some, bl_run, rC_run, rVar_run, rBor_run, rOp_run, rDGet_run, rIx_run, raNil_run, raCons_run, rTup_run, rLst_run, rDct_run, rCell_run, rCell0_run, rCall_run, rBlt_run, rLen_run, rList_run, rTuple_run, rRepr_run, opRepr_run, negV_int, rNeg_run, rTruB_run, rTru_run, rtAnd_run, rtOr_run, rtNot_run, rIfE_run, andV_t, andV_f, rAndV_run, rOrV_run, rNotV_run, add_int, add_lst, add_tup, add_str, sub_int, mul_int, mod_int, div_int, pow_int, cmp_int, eq_run, ne_run, eqPV_int, eqPV_str, is_non, isnt_non, dget_some, dget_run, ix_lst, ix_tup, len_lst, len_tup, len_scr, list_lst, list_tup, list_scr, int_run, abs_run, seqO_some, riSeq_run, riRg1_run, rg1_run, riRg2_run, rg2_run, gnm_run, sBind_run, sSeq_run, sNext_run, sBreak_run, sCont_run, sRet_run, sRetN_run, sExpr_run, sSet_run, sIf_run, dput_some, dputAt_run, sDPut_run, sPar_run, sOwn_run, rlLst_run, appO_run, appH_run, sAppend_run, frzO_run, sFrz_run, sRaise_run, sRaise0_run, suO_nx, suO_rt, suO_ite, endTry_run, subO_t, subO_f, tryO_exc, tryO_nx, tryO_rt, tryO_ite, sTry_run, sFor_run, forL_nil, forO_nx, forO_ct, forO_bk, forO_rt, forO_ite, forL_cons, toX_rt, toX_nx, toX_ite, xisO_run, rXIs_run, xfO_run, rXF_run, okO_ok, cxO_run, rCallX_run, List.getElem?_cons_zero, List.getElem?_cons_succ, List.set_cons_zero, List.set_cons_succ, List.length_cons, List.length_nil, Option.map_some, Option.map_none, if_true, if_false, ite_true, ite_false, reduceIte, decide_true, decide_false, Bool.not_true, Bool.not_false, Bool.false_eq_true, ie_1_14, ie_2_14, ie_3_14, ie_4_14, ie_5_14, ie_6_14, ie_7_14, ie_8_14, ie_9_14, ie_10_14, ie_11_14, ie_12_14, ie_13_14, ie_14_14, ie_15_14, ie_16_14, tru_bl, fm_NotKept_promise, fm_NotKept_witness, lk_NotKept_promise, lk_NotKept_witness, h1, h2, z0, z1, z2, z3, z4, z12, z16, hy, Int.reduceEq, List.mem_cons, List.not_mem_nil, or_false, or_true, false_or, true_or, Nat.reduceAdd, List.cons_append, List.nil_append, em]
theorem told_13 {one two three : PV} {x1 x2 : Str} {S : Store} (h1 : reprPV true one = some x1) (h2 : reprPV true two = some x2) : F_u_law_told [.int 13, one, two, three] S = .ok (.lst [.tup [.str "kept", one, two]]) S := by
  have ek := kinds_13 (three := three) (S := S) h1 h2
  refine runF_run.trans ?_
  show SOut.toO (r_u_law_told [.val (.int 13), .val one, .val two, .val three, .no, .no] S) = _
  have er : F_u_law_raised [.int 13, one, two] S = .ok .non S := by
    refine runF_run.trans ?_
    show SOut.toO (r_u_law_raised [.val (.int 13), .val one, .val two] S) = _
    simp only [r_u_law_raised, ob_ok, ob_exc, ob_stuck, ob_ite, os_ok, os_exc, os_stuck, os_ite, st_nx, st_rt, st_bk, st_ct, st_exc, st_stuck, st_ite, so_rt, so_nx, so_exc, so_stuck, so_ite, sv_val, sb_val, sb_own, ov_some, obb_some, bl_run, rC_run, rVar_run, rBor_run, rOp_run, rDGet_run, rIx_run, raNil_run, raCons_run, rTup_run, rLst_run, rDct_run, rCell_run, rCell0_run, rCall_run, rBlt_run, rLen_run, rList_run, rTuple_run, rRepr_run, opRepr_run, negV_int, rNeg_run, rTruB_run, rTru_run, rtAnd_run, rtOr_run, rtNot_run, rIfE_run, andV_t, andV_f, rAndV_run, rOrV_run, rNotV_run, add_int, add_lst, add_tup, add_str, sub_int, mul_int, mod_int, div_int, pow_int, cmp_int, eq_run, ne_run, eqPV_int, eqPV_str, is_non, isnt_non, dget_some, dget_run, ix_lst, ix_tup, len_lst, len_tup, len_scr, list_lst, list_tup, list_scr, int_run, abs_run, seqO_some, riSeq_run, riRg1_run, rg1_run, riRg2_run, rg2_run, gnm_run, sBind_run, sSeq_run, sNext_run, sBreak_run, sCont_run, sRet_run, sRetN_run, sExpr_run, sSet_run, sIf_run, dput_some, dputAt_run, sDPut_run, sPar_run, sOwn_run, rlLst_run, appO_run, appH_run, sAppend_run, frzO_run, sFrz_run, sRaise_run, sRaise0_run, suO_nx, suO_rt, suO_ite, endTry_run, subO_t, subO_f, tryO_exc, tryO_nx, tryO_rt, tryO_ite, sTry_run, sFor_run, forL_nil, forO_nx, forO_ct, forO_bk, forO_rt, forO_ite, forL_cons, toX_rt, toX_nx, toX_ite, xisO_run, rXIs_run, xfO_run, rXF_run, okO_ok, cxO_run, rCallX_run, List.getElem?_cons_zero, List.getElem?_cons_succ, List.set_cons_zero, List.set_cons_succ, List.length_cons, List.length_nil, Option.map_some, Option.map_none, if_true, if_false, ite_true, ite_false, reduceIte, decide_true, decide_false, Bool.not_true, Bool.not_false, Bool.false_eq_true, Int.reduceEq, List.mem_cons, List.not_mem_nil, or_false, or_true, false_or, true_or, Nat.reduceAdd, List.cons_append, List.nil_append]
  have er2 : F_u_law_raised_too [.int 13, one, two, three] S = .exc 14 (List.reverse ["promise", "witness"]) (List.reverse [one, two]) S := by
    refine runF_run.trans ?_
    show SOut.toO (r_u_law_raised_too [.val (.int 13), .val one, .val two, .val three] S) = _
    have l3 : (0 : Nat) ≤ 1000 ∧ (1 : Nat) ≤ 1000 ∧ (2 : Nat) ≤ 1000 ∧ (3 : Nat) ≤ 1000 := by decide
    simp only [r_u_law_raised_too, ob_ok, ob_exc, ob_stuck, ob_ite, os_ok, os_exc, os_stuck, os_ite, st_nx, st_rt, st_bk, st_ct, st_exc, st_stuck, st_ite, so_rt, so_nx, so_exc, so_stuck, so_ite, sv_val, sb_val, sb_own, ov_some, obb_some, bl_run, rC_run, rVar_run, rBor_run, rOp_run, rDGet_run, rIx_run, raNil_run, raCons_run, rTup_run, rLst_run, rDct_run, rCell_run, rCell0_run, rCall_run, rBlt_run, rLen_run, rList_run, rTuple_run, rRepr_run, opRepr_run, negV_int, rNeg_run, rTruB_run, rTru_run, rtAnd_run, rtOr_run, rtNot_run, rIfE_run, andV_t, andV_f, rAndV_run, rOrV_run, rNotV_run, add_int, add_lst, add_tup, add_str, sub_int, mul_int, mod_int, div_int, pow_int, cmp_int, eq_run, ne_run, eqPV_int, eqPV_str, is_non, isnt_non, dget_some, dget_run, ix_lst, ix_tup, len_lst, len_tup, len_scr, list_lst, list_tup, list_scr, int_run, abs_run, seqO_some, riSeq_run, riRg1_run, rg1_run, riRg2_run, rg2_run, gnm_run, sBind_run, sSeq_run, sNext_run, sBreak_run, sCont_run, sRet_run, sRetN_run, sExpr_run, sSet_run, sIf_run, dput_some, dputAt_run, sDPut_run, sPar_run, sOwn_run, rlLst_run, appO_run, appH_run, sAppend_run, frzO_run, sFrz_run, sRaise_run, sRaise0_run, suO_nx, suO_rt, suO_ite, endTry_run, subO_t, subO_f, tryO_exc, tryO_nx, tryO_rt, tryO_ite, sTry_run, sFor_run, forL_nil, forO_nx, forO_ct, forO_bk, forO_rt, forO_ite, forL_cons, toX_rt, toX_nx, toX_ite, xisO_run, rXIs_run, xfO_run, rXF_run, okO_ok, cxO_run, rCallX_run, List.getElem?_cons_zero, List.getElem?_cons_succ, List.set_cons_zero, List.set_cons_succ, List.length_cons, List.length_nil, Option.map_some, Option.map_none, if_true, if_false, ite_true, ite_false, reduceIte, decide_true, decide_false, Bool.not_true, Bool.not_false, Bool.false_eq_true, Int.reduceEq, List.mem_cons, List.not_mem_nil, or_false, or_true, false_or, true_or, Nat.reduceAdd, List.cons_append, List.nil_append, l3, and_self]
  have cl : ∀ a b c d e : PV, clean [.val a, .val b, .val c, .val d, .val e, .no] = true := fun _ _ _ _ _ => rfl
  simp only [r_u_law_told, ob_ok, ob_exc, ob_stuck, ob_ite, os_ok, os_exc, os_stuck, os_ite, st_nx, st_rt, st_bk, st_ct, st_exc, st_stuck, st_ite, so_rt, so_nx, so_exc, so_stuck, so_ite, sv_val, sb_val, sb_own, ov_some, obb_some, bl_run, rC_run, rVar_run, rBor_run, rOp_run, rDGet_run, rIx_run, raNil_run, raCons_run, rTup_run, rLst_run, rDct_run, rCell_run, rCell0_run, rCall_run, rBlt_run, rLen_run, rList_run, rTuple_run, rRepr_run, opRepr_run, negV_int, rNeg_run, rTruB_run, rTru_run, rtAnd_run, rtOr_run, rtNot_run, rIfE_run, andV_t, andV_f, rAndV_run, rOrV_run, rNotV_run, add_int, add_lst, add_tup, add_str, sub_int, mul_int, mod_int, div_int, pow_int, cmp_int, eq_run, ne_run, eqPV_int, eqPV_str, is_non, isnt_non, dget_some, dget_run, ix_lst, ix_tup, len_lst, len_tup, len_scr, list_lst, list_tup, list_scr, int_run, abs_run, seqO_some, riSeq_run, riRg1_run, rg1_run, riRg2_run, rg2_run, gnm_run, sBind_run, sSeq_run, sNext_run, sBreak_run, sCont_run, sRet_run, sRetN_run, sExpr_run, sSet_run, sIf_run, dput_some, dputAt_run, sDPut_run, sPar_run, sOwn_run, rlLst_run, appO_run, appH_run, sAppend_run, frzO_run, sFrz_run, sRaise_run, sRaise0_run, suO_nx, suO_rt, suO_ite, endTry_run, subO_t, subO_f, tryO_exc, tryO_nx, tryO_rt, tryO_ite, sTry_run, sFor_run, forL_nil, forO_nx, forO_ct, forO_bk, forO_rt, forO_ite, forL_cons, toX_rt, toX_nx, toX_ite, xisO_run, rXIs_run, xfO_run, rXF_run, okO_ok, cxO_run, rCallX_run, List.getElem?_cons_zero, List.getElem?_cons_succ, List.set_cons_zero, List.set_cons_succ, List.length_cons, List.length_nil, Option.map_some, Option.map_none, if_true, if_false, ite_true, ite_false, reduceIte, decide_true, decide_false, Bool.not_true, Bool.not_false, Bool.false_eq_true, Int.reduceEq, List.mem_cons, List.not_mem_nil, or_false, or_true, false_or, true_or, Nat.reduceAdd, List.cons_append, List.nil_append, er, er2, ie_0_14, iv_14, tru_bl, ek, cl]
theorem due_13 {one two three : PV} {x1 x2 : Str} {S : Store} (h1 : reprPV true one = some x1) (h2 : reprPV true two = some x2) : F_u_law_due [.int 13, one, two, three] S = .ok (.tup [.str "kept", one, two]) S := by
  have hz : ∀ k : Nat, k ≤ 100 → k ≤ sizeLine := fun k hk => Nat.le_trans hk (by decide)
  have hy : (0 : Nat) < sizeLine := by decide
  have z0 : (0 : Nat) ≤ sizeLine := hz 0 (by decide)
  have z1 : (1 : Nat) ≤ sizeLine := hz 1 (by decide)
  have z2 : (2 : Nat) ≤ sizeLine := hz 2 (by decide)
  have z3 : (3 : Nat) ≤ sizeLine := hz 3 (by decide)
  have z4 : (4 : Nat) ≤ sizeLine := hz 4 (by decide)
  have z12 : (12 : Nat) ≤ sizeLine := hz 12 (by decide)
  have z16 : (16 : Nat) ≤ sizeLine := hz 16 (by decide)
  refine runF_run.trans ?_
  show SOut.toO (r_u_law_due [.val (.int 13), .val one, .val two, .val three, .no] S) = _
  simp only [r_u_law_due, ob_ok, ob_exc, ob_stuck, ob_ite, os_ok, os_exc, os_stuck, os_ite, st_nx, st_rt, st_bk, st_ct, st_exc, st_stuck, st_ite, so_rt, so_nx, so_exc, so_stuck, so_ite, sv_val, sb_val, sb_own, ov_some, obb_some, bl_run, rC_run, rVar_run, rBor_run, rOp_run, rDGet_run, rIx_run, raNil_run, raCons_run, rTup_run, rLst_run, rDct_run, rCell_run, rCell0_run, rCall_run, rBlt_run, rLen_run, rList_run, rTuple_run, rRepr_run, opRepr_run, negV_int, rNeg_run, rTruB_run, rTru_run, rtAnd_run, rtOr_run, rtNot_run, rIfE_run, andV_t, andV_f, rAndV_run, rOrV_run, rNotV_run, add_int, add_lst, add_tup, add_str, sub_int, mul_int, mod_int, div_int, pow_int, cmp_int, eq_run, ne_run, eqPV_int, eqPV_str, is_non, isnt_non, dget_some, dget_run, ix_lst, ix_tup, len_lst, len_tup, len_scr, list_lst, list_tup, list_scr, int_run, abs_run, seqO_some, riSeq_run, riRg1_run, rg1_run, riRg2_run, rg2_run, gnm_run, sBind_run, sSeq_run, sNext_run, sBreak_run, sCont_run, sRet_run, sRetN_run, sExpr_run, sSet_run, sIf_run, dput_some, dputAt_run, sDPut_run, sPar_run, sOwn_run, rlLst_run, appO_run, appH_run, sAppend_run, frzO_run, sFrz_run, sRaise_run, sRaise0_run, suO_nx, suO_rt, suO_ite, endTry_run, subO_t, subO_f, tryO_exc, tryO_nx, tryO_rt, tryO_ite, sTry_run, sFor_run, forL_nil, forO_nx, forO_ct, forO_bk, forO_rt, forO_ite, forL_cons, toX_rt, toX_nx, toX_ite, xisO_run, rXIs_run, xfO_run, rXF_run, okO_ok, cxO_run, rCallX_run, List.getElem?_cons_zero, List.getElem?_cons_succ, List.set_cons_zero, List.set_cons_succ, List.length_cons, List.length_nil, Option.map_some, Option.map_none, if_true, if_false, ite_true, ite_false, reduceIte, decide_true, decide_false, Bool.not_true, Bool.not_false, Bool.false_eq_true, in_a, in_b, in_c, in_d, Int.reduceEq, List.mem_cons, List.not_mem_nil, or_false, or_true, false_or, true_or, Nat.reduceAdd, List.cons_append, List.nil_append, aw_13, h1, h2, z0, z1, z2, z3, z4, z12, z16, hy]
theorem more_14 {one two three : PV} {x1 x2 : Str} {S : Store} (h1 : reprPV true one = some x1) (h2 : reprPV true two = some x2) : F_u_law_more_kinds 15 [] [] S = .ok (.lst [.tup [.str "undo"]]) S := by
  have hz : ∀ k : Nat, k ≤ 100 → k ≤ sizeLine := fun k hk => Nat.le_trans hk (by decide)
  have hy : (0 : Nat) < sizeLine := by decide
  have z0 : (0 : Nat) ≤ sizeLine := hz 0 (by decide)
  have z1 : (1 : Nat) ≤ sizeLine := hz 1 (by decide)
  have z2 : (2 : Nat) ≤ sizeLine := hz 2 (by decide)
  have z3 : (3 : Nat) ≤ sizeLine := hz 3 (by decide)
  have z4 : (4 : Nat) ≤ sizeLine := hz 4 (by decide)
  have z12 : (12 : Nat) ≤ sizeLine := hz 12 (by decide)
  have z16 : (16 : Nat) ≤ sizeLine := hz 16 (by decide)
  refine runH_run.trans ?_
  show toX (r_u_law_more_kinds [.exc 15 [] [], .no] S) = _
  simp only [r_u_law_more_kinds, ob_ok, ob_exc, ob_stuck, ob_ite, os_ok, os_exc, os_stuck, os_ite, st_nx, st_rt, st_bk, st_ct, st_exc, st_stuck, st_ite, so_rt, so_nx, so_exc, so_stuck, so_ite, sv_val, sb_val, sb_own, ov_some, obb_some, bl_run, rC_run, rVar_run, rBor_run, rOp_run, rDGet_run, rIx_run, raNil_run, raCons_run, rTup_run, rLst_run, rDct_run, rCell_run, rCell0_run, rCall_run, rBlt_run, rLen_run, rList_run, rTuple_run, rRepr_run, opRepr_run, negV_int, rNeg_run, rTruB_run, rTru_run, rtAnd_run, rtOr_run, rtNot_run, rIfE_run, andV_t, andV_f, rAndV_run, rOrV_run, rNotV_run, add_int, add_lst, add_tup, add_str, sub_int, mul_int, mod_int, div_int, pow_int, cmp_int, eq_run, ne_run, eqPV_int, eqPV_str, is_non, isnt_non, dget_some, dget_run, ix_lst, ix_tup, len_lst, len_tup, len_scr, list_lst, list_tup, list_scr, int_run, abs_run, seqO_some, riSeq_run, riRg1_run, rg1_run, riRg2_run, rg2_run, gnm_run, sBind_run, sSeq_run, sNext_run, sBreak_run, sCont_run, sRet_run, sRetN_run, sExpr_run, sSet_run, sIf_run, dput_some, dputAt_run, sDPut_run, sPar_run, sOwn_run, rlLst_run, appO_run, appH_run, sAppend_run, frzO_run, sFrz_run, sRaise_run, sRaise0_run, suO_nx, suO_rt, suO_ite, endTry_run, subO_t, subO_f, tryO_exc, tryO_nx, tryO_rt, tryO_ite, sTry_run, sFor_run, forL_nil, forO_nx, forO_ct, forO_bk, forO_rt, forO_ite, forL_cons, toX_rt, toX_nx, toX_ite, xisO_run, rXIs_run, xfO_run, rXF_run, okO_ok, cxO_run, rCallX_run, List.getElem?_cons_zero, List.getElem?_cons_succ, List.set_cons_zero, List.set_cons_succ, List.length_cons, List.length_nil, Option.map_some, Option.map_none, if_true, if_false, ite_true, ite_false, reduceIte, decide_true, decide_false, Bool.not_true, Bool.not_false, Bool.false_eq_true, ie_1_15, ie_2_15, ie_3_15, ie_4_15, ie_5_15, ie_6_15, ie_7_15, ie_8_15, ie_9_15, ie_10_15, ie_11_15, ie_12_15, ie_13_15, ie_14_15, ie_15_15, ie_16_15, tru_bl, h1, h2, z0, z1, z2, z3, z4, z12, z16, hy, Int.reduceEq, List.mem_cons, List.not_mem_nil, or_false, or_true, false_or, true_or, Nat.reduceAdd, List.cons_append, List.nil_append]
theorem kinds_14 {one two three : PV} {x1 x2 : Str} {S : Store} (h1 : reprPV true one = some x1) (h2 : reprPV true two = some x2) : F_u_law_kinds 15 [] [] S = .ok (.lst [.tup [.str "undo"]]) S := by
  have hz : ∀ k : Nat, k ≤ 100 → k ≤ sizeLine := fun k hk => Nat.le_trans hk (by decide)
  have hy : (0 : Nat) < sizeLine := by decide
  have z0 : (0 : Nat) ≤ sizeLine := hz 0 (by decide)
  have z1 : (1 : Nat) ≤ sizeLine := hz 1 (by decide)
  have z2 : (2 : Nat) ≤ sizeLine := hz 2 (by decide)
  have z3 : (3 : Nat) ≤ sizeLine := hz 3 (by decide)
  have z4 : (4 : Nat) ≤ sizeLine := hz 4 (by decide)
  have z12 : (12 : Nat) ≤ sizeLine := hz 12 (by decide)
  have z16 : (16 : Nat) ≤ sizeLine := hz 16 (by decide)
  have em := more_14 (three := three) (S := S) h1 h2
  refine runH_run.trans ?_
  show toX (r_u_law_kinds [.exc 15 [] [], .no] S) = _
  simp only [r_u_law_kinds, ob_ok, ob_exc, ob_stuck, ob_ite, os_ok, os_exc, os_stuck, os_ite, st_nx, st_rt, st_bk, st_ct, st_exc, st_stuck, st_ite, so_rt, so_nx, so_exc, so_stuck, so_ite, sv_val, sb_val, sb_own, ov_some, obb_some, bl_run, rC_run, rVar_run, rBor_run, rOp_run, rDGet_run, rIx_run, raNil_run, raCons_run, rTup_run, rLst_run, rDct_run, rCell_run, rCell0_run, rCall_run, rBlt_run, rLen_run, rList_run, rTuple_run, rRepr_run, opRepr_run, negV_int, rNeg_run, rTruB_run, rTru_run, rtAnd_run, rtOr_run, rtNot_run, rIfE_run, andV_t, andV_f, rAndV_run, rOrV_run, rNotV_run, add_int, add_lst, add_tup, add_str, sub_int, mul_int, mod_int, div_int, pow_int, cmp_int, eq_run, ne_run, eqPV_int, eqPV_str, is_non, isnt_non, dget_some, dget_run, ix_lst, ix_tup, len_lst, len_tup, len_scr, list_lst, list_tup, list_scr, int_run, abs_run, seqO_some, riSeq_run, riRg1_run, rg1_run, riRg2_run, rg2_run, gnm_run, sBind_run, sSeq_run, sNext_run, sBreak_run, sCont_run, sRet_run, sRetN_run, sExpr_run, sSet_run, sIf_run, dput_some, dputAt_run, sDPut_run, sPar_run, sOwn_run, rlLst_run, appO_run, appH_run, sAppend_run, frzO_run, sFrz_run, sRaise_run, sRaise0_run, suO_nx, suO_rt, suO_ite, endTry_run, subO_t, subO_f, tryO_exc, tryO_nx, tryO_rt, tryO_ite, sTry_run, sFor_run, forL_nil, forO_nx, forO_ct, forO_bk, forO_rt, forO_ite, forL_cons, toX_rt, toX_nx, toX_ite, xisO_run, rXIs_run, xfO_run, rXF_run, okO_ok, cxO_run, rCallX_run, List.getElem?_cons_zero, List.getElem?_cons_succ, List.set_cons_zero, List.set_cons_succ, List.length_cons, List.length_nil, Option.map_some, Option.map_none, if_true, if_false, ite_true, ite_false, reduceIte, decide_true, decide_false, Bool.not_true, Bool.not_false, Bool.false_eq_true, ie_1_15, ie_2_15, ie_3_15, ie_4_15, ie_5_15, ie_6_15, ie_7_15, ie_8_15, ie_9_15, ie_10_15, ie_11_15, ie_12_15, ie_13_15, ie_14_15, ie_15_15, ie_16_15, tru_bl, h1, h2, z0, z1, z2, z3, z4, z12, z16, hy, Int.reduceEq, List.mem_cons, List.not_mem_nil, or_false, or_true, false_or, true_or, Nat.reduceAdd, List.cons_append, List.nil_append, em]
theorem told_14 {one two three : PV} {x1 x2 : Str} {S : Store} (h1 : reprPV true one = some x1) (h2 : reprPV true two = some x2) : F_u_law_told [.int 14, one, two, three] S = .ok (.lst [.tup [.str "undo"]]) S := by
  have ek := kinds_14 (three := three) (S := S) h1 h2
  refine runF_run.trans ?_
  show SOut.toO (r_u_law_told [.val (.int 14), .val one, .val two, .val three, .no, .no] S) = _
  have er : F_u_law_raised [.int 14, one, two] S = .ok .non S := by
    refine runF_run.trans ?_
    show SOut.toO (r_u_law_raised [.val (.int 14), .val one, .val two] S) = _
    simp only [r_u_law_raised, ob_ok, ob_exc, ob_stuck, ob_ite, os_ok, os_exc, os_stuck, os_ite, st_nx, st_rt, st_bk, st_ct, st_exc, st_stuck, st_ite, so_rt, so_nx, so_exc, so_stuck, so_ite, sv_val, sb_val, sb_own, ov_some, obb_some, bl_run, rC_run, rVar_run, rBor_run, rOp_run, rDGet_run, rIx_run, raNil_run, raCons_run, rTup_run, rLst_run, rDct_run, rCell_run, rCell0_run, rCall_run, rBlt_run, rLen_run, rList_run, rTuple_run, rRepr_run, opRepr_run, negV_int, rNeg_run, rTruB_run, rTru_run, rtAnd_run, rtOr_run, rtNot_run, rIfE_run, andV_t, andV_f, rAndV_run, rOrV_run, rNotV_run, add_int, add_lst, add_tup, add_str, sub_int, mul_int, mod_int, div_int, pow_int, cmp_int, eq_run, ne_run, eqPV_int, eqPV_str, is_non, isnt_non, dget_some, dget_run, ix_lst, ix_tup, len_lst, len_tup, len_scr, list_lst, list_tup, list_scr, int_run, abs_run, seqO_some, riSeq_run, riRg1_run, rg1_run, riRg2_run, rg2_run, gnm_run, sBind_run, sSeq_run, sNext_run, sBreak_run, sCont_run, sRet_run, sRetN_run, sExpr_run, sSet_run, sIf_run, dput_some, dputAt_run, sDPut_run, sPar_run, sOwn_run, rlLst_run, appO_run, appH_run, sAppend_run, frzO_run, sFrz_run, sRaise_run, sRaise0_run, suO_nx, suO_rt, suO_ite, endTry_run, subO_t, subO_f, tryO_exc, tryO_nx, tryO_rt, tryO_ite, sTry_run, sFor_run, forL_nil, forO_nx, forO_ct, forO_bk, forO_rt, forO_ite, forL_cons, toX_rt, toX_nx, toX_ite, xisO_run, rXIs_run, xfO_run, rXF_run, okO_ok, cxO_run, rCallX_run, List.getElem?_cons_zero, List.getElem?_cons_succ, List.set_cons_zero, List.set_cons_succ, List.length_cons, List.length_nil, Option.map_some, Option.map_none, if_true, if_false, ite_true, ite_false, reduceIte, decide_true, decide_false, Bool.not_true, Bool.not_false, Bool.false_eq_true, Int.reduceEq, List.mem_cons, List.not_mem_nil, or_false, or_true, false_or, true_or, Nat.reduceAdd, List.cons_append, List.nil_append]
  have er2 : F_u_law_raised_too [.int 14, one, two, three] S = .exc 15 [] [] S := by
    refine runF_run.trans ?_
    show SOut.toO (r_u_law_raised_too [.val (.int 14), .val one, .val two, .val three] S) = _
    have l3 : (0 : Nat) ≤ 1000 ∧ (1 : Nat) ≤ 1000 ∧ (2 : Nat) ≤ 1000 ∧ (3 : Nat) ≤ 1000 := by decide
    simp only [r_u_law_raised_too, ob_ok, ob_exc, ob_stuck, ob_ite, os_ok, os_exc, os_stuck, os_ite, st_nx, st_rt, st_bk, st_ct, st_exc, st_stuck, st_ite, so_rt, so_nx, so_exc, so_stuck, so_ite, sv_val, sb_val, sb_own, ov_some, obb_some, bl_run, rC_run, rVar_run, rBor_run, rOp_run, rDGet_run, rIx_run, raNil_run, raCons_run, rTup_run, rLst_run, rDct_run, rCell_run, rCell0_run, rCall_run, rBlt_run, rLen_run, rList_run, rTuple_run, rRepr_run, opRepr_run, negV_int, rNeg_run, rTruB_run, rTru_run, rtAnd_run, rtOr_run, rtNot_run, rIfE_run, andV_t, andV_f, rAndV_run, rOrV_run, rNotV_run, add_int, add_lst, add_tup, add_str, sub_int, mul_int, mod_int, div_int, pow_int, cmp_int, eq_run, ne_run, eqPV_int, eqPV_str, is_non, isnt_non, dget_some, dget_run, ix_lst, ix_tup, len_lst, len_tup, len_scr, list_lst, list_tup, list_scr, int_run, abs_run, seqO_some, riSeq_run, riRg1_run, rg1_run, riRg2_run, rg2_run, gnm_run, sBind_run, sSeq_run, sNext_run, sBreak_run, sCont_run, sRet_run, sRetN_run, sExpr_run, sSet_run, sIf_run, dput_some, dputAt_run, sDPut_run, sPar_run, sOwn_run, rlLst_run, appO_run, appH_run, sAppend_run, frzO_run, sFrz_run, sRaise_run, sRaise0_run, suO_nx, suO_rt, suO_ite, endTry_run, subO_t, subO_f, tryO_exc, tryO_nx, tryO_rt, tryO_ite, sTry_run, sFor_run, forL_nil, forO_nx, forO_ct, forO_bk, forO_rt, forO_ite, forL_cons, toX_rt, toX_nx, toX_ite, xisO_run, rXIs_run, xfO_run, rXF_run, okO_ok, cxO_run, rCallX_run, List.getElem?_cons_zero, List.getElem?_cons_succ, List.set_cons_zero, List.set_cons_succ, List.length_cons, List.length_nil, Option.map_some, Option.map_none, if_true, if_false, ite_true, ite_false, reduceIte, decide_true, decide_false, Bool.not_true, Bool.not_false, Bool.false_eq_true, Int.reduceEq, List.mem_cons, List.not_mem_nil, or_false, or_true, false_or, true_or, Nat.reduceAdd, List.cons_append, List.nil_append, l3, and_self]
  have cl : ∀ a b c d e : PV, clean [.val a, .val b, .val c, .val d, .val e, .no] = true := fun _ _ _ _ _ => rfl
  simp only [r_u_law_told, ob_ok, ob_exc, ob_stuck, ob_ite, os_ok, os_exc, os_stuck, os_ite, st_nx, st_rt, st_bk, st_ct, st_exc, st_stuck, st_ite, so_rt, so_nx, so_exc, so_stuck, so_ite, sv_val, sb_val, sb_own, ov_some, obb_some, bl_run, rC_run, rVar_run, rBor_run, rOp_run, rDGet_run, rIx_run, raNil_run, raCons_run, rTup_run, rLst_run, rDct_run, rCell_run, rCell0_run, rCall_run, rBlt_run, rLen_run, rList_run, rTuple_run, rRepr_run, opRepr_run, negV_int, rNeg_run, rTruB_run, rTru_run, rtAnd_run, rtOr_run, rtNot_run, rIfE_run, andV_t, andV_f, rAndV_run, rOrV_run, rNotV_run, add_int, add_lst, add_tup, add_str, sub_int, mul_int, mod_int, div_int, pow_int, cmp_int, eq_run, ne_run, eqPV_int, eqPV_str, is_non, isnt_non, dget_some, dget_run, ix_lst, ix_tup, len_lst, len_tup, len_scr, list_lst, list_tup, list_scr, int_run, abs_run, seqO_some, riSeq_run, riRg1_run, rg1_run, riRg2_run, rg2_run, gnm_run, sBind_run, sSeq_run, sNext_run, sBreak_run, sCont_run, sRet_run, sRetN_run, sExpr_run, sSet_run, sIf_run, dput_some, dputAt_run, sDPut_run, sPar_run, sOwn_run, rlLst_run, appO_run, appH_run, sAppend_run, frzO_run, sFrz_run, sRaise_run, sRaise0_run, suO_nx, suO_rt, suO_ite, endTry_run, subO_t, subO_f, tryO_exc, tryO_nx, tryO_rt, tryO_ite, sTry_run, sFor_run, forL_nil, forO_nx, forO_ct, forO_bk, forO_rt, forO_ite, forL_cons, toX_rt, toX_nx, toX_ite, xisO_run, rXIs_run, xfO_run, rXF_run, okO_ok, cxO_run, rCallX_run, List.getElem?_cons_zero, List.getElem?_cons_succ, List.set_cons_zero, List.set_cons_succ, List.length_cons, List.length_nil, Option.map_some, Option.map_none, if_true, if_false, ite_true, ite_false, reduceIte, decide_true, decide_false, Bool.not_true, Bool.not_false, Bool.false_eq_true, Int.reduceEq, List.mem_cons, List.not_mem_nil, or_false, or_true, false_or, true_or, Nat.reduceAdd, List.cons_append, List.nil_append, er, er2, ie_0_15, iv_15, tru_bl, ek, cl]
theorem due_14 {one two three : PV} {x1 x2 : Str} {S : Store} (h1 : reprPV true one = some x1) (h2 : reprPV true two = some x2) : F_u_law_due [.int 14, one, two, three] S = .ok (.tup [.str "undo"]) S := by
  have hz : ∀ k : Nat, k ≤ 100 → k ≤ sizeLine := fun k hk => Nat.le_trans hk (by decide)
  have hy : (0 : Nat) < sizeLine := by decide
  have z0 : (0 : Nat) ≤ sizeLine := hz 0 (by decide)
  have z1 : (1 : Nat) ≤ sizeLine := hz 1 (by decide)
  have z2 : (2 : Nat) ≤ sizeLine := hz 2 (by decide)
  have z3 : (3 : Nat) ≤ sizeLine := hz 3 (by decide)
  have z4 : (4 : Nat) ≤ sizeLine := hz 4 (by decide)
  have z12 : (12 : Nat) ≤ sizeLine := hz 12 (by decide)
  have z16 : (16 : Nat) ≤ sizeLine := hz 16 (by decide)
  refine runF_run.trans ?_
  show SOut.toO (r_u_law_due [.val (.int 14), .val one, .val two, .val three, .no] S) = _
  simp only [r_u_law_due, ob_ok, ob_exc, ob_stuck, ob_ite, os_ok, os_exc, os_stuck, os_ite, st_nx, st_rt, st_bk, st_ct, st_exc, st_stuck, st_ite, so_rt, so_nx, so_exc, so_stuck, so_ite, sv_val, sb_val, sb_own, ov_some, obb_some, bl_run, rC_run, rVar_run, rBor_run, rOp_run, rDGet_run, rIx_run, raNil_run, raCons_run, rTup_run, rLst_run, rDct_run, rCell_run, rCell0_run, rCall_run, rBlt_run, rLen_run, rList_run, rTuple_run, rRepr_run, opRepr_run, negV_int, rNeg_run, rTruB_run, rTru_run, rtAnd_run, rtOr_run, rtNot_run, rIfE_run, andV_t, andV_f, rAndV_run, rOrV_run, rNotV_run, add_int, add_lst, add_tup, add_str, sub_int, mul_int, mod_int, div_int, pow_int, cmp_int, eq_run, ne_run, eqPV_int, eqPV_str, is_non, isnt_non, dget_some, dget_run, ix_lst, ix_tup, len_lst, len_tup, len_scr, list_lst, list_tup, list_scr, int_run, abs_run, seqO_some, riSeq_run, riRg1_run, rg1_run, riRg2_run, rg2_run, gnm_run, sBind_run, sSeq_run, sNext_run, sBreak_run, sCont_run, sRet_run, sRetN_run, sExpr_run, sSet_run, sIf_run, dput_some, dputAt_run, sDPut_run, sPar_run, sOwn_run, rlLst_run, appO_run, appH_run, sAppend_run, frzO_run, sFrz_run, sRaise_run, sRaise0_run, suO_nx, suO_rt, suO_ite, endTry_run, subO_t, subO_f, tryO_exc, tryO_nx, tryO_rt, tryO_ite, sTry_run, sFor_run, forL_nil, forO_nx, forO_ct, forO_bk, forO_rt, forO_ite, forL_cons, toX_rt, toX_nx, toX_ite, xisO_run, rXIs_run, xfO_run, rXF_run, okO_ok, cxO_run, rCallX_run, List.getElem?_cons_zero, List.getElem?_cons_succ, List.set_cons_zero, List.set_cons_succ, List.length_cons, List.length_nil, Option.map_some, Option.map_none, if_true, if_false, ite_true, ite_false, reduceIte, decide_true, decide_false, Bool.not_true, Bool.not_false, Bool.false_eq_true, in_a, in_b, in_c, in_d, Int.reduceEq, List.mem_cons, List.not_mem_nil, or_false, or_true, false_or, true_or, Nat.reduceAdd, List.cons_append, List.nil_append, aw_14, h1, h2, z0, z1, z2, z3, z4, z12, z16, hy]
theorem more_15 {one two three : PV} {x1 x2 : Str} {S : Store} (h1 : reprPV true one = some x1) (h2 : reprPV true two = some x2) : F_u_law_more_kinds 16 [] [] S = .ok (.lst [.tup [.str "redo"]]) S := by
  have hz : ∀ k : Nat, k ≤ 100 → k ≤ sizeLine := fun k hk => Nat.le_trans hk (by decide)
  have hy : (0 : Nat) < sizeLine := by decide
  have z0 : (0 : Nat) ≤ sizeLine := hz 0 (by decide)
  have z1 : (1 : Nat) ≤ sizeLine := hz 1 (by decide)
  have z2 : (2 : Nat) ≤ sizeLine := hz 2 (by decide)
  have z3 : (3 : Nat) ≤ sizeLine := hz 3 (by decide)
  have z4 : (4 : Nat) ≤ sizeLine := hz 4 (by decide)
  have z12 : (12 : Nat) ≤ sizeLine := hz 12 (by decide)
  have z16 : (16 : Nat) ≤ sizeLine := hz 16 (by decide)
  refine runH_run.trans ?_
  show toX (r_u_law_more_kinds [.exc 16 [] [], .no] S) = _
  simp only [r_u_law_more_kinds, ob_ok, ob_exc, ob_stuck, ob_ite, os_ok, os_exc, os_stuck, os_ite, st_nx, st_rt, st_bk, st_ct, st_exc, st_stuck, st_ite, so_rt, so_nx, so_exc, so_stuck, so_ite, sv_val, sb_val, sb_own, ov_some, obb_some, bl_run, rC_run, rVar_run, rBor_run, rOp_run, rDGet_run, rIx_run, raNil_run, raCons_run, rTup_run, rLst_run, rDct_run, rCell_run, rCell0_run, rCall_run, rBlt_run, rLen_run, rList_run, rTuple_run, rRepr_run, opRepr_run, negV_int, rNeg_run, rTruB_run, rTru_run, rtAnd_run, rtOr_run, rtNot_run, rIfE_run, andV_t, andV_f, rAndV_run, rOrV_run, rNotV_run, add_int, add_lst, add_tup, add_str, sub_int, mul_int, mod_int, div_int, pow_int, cmp_int, eq_run, ne_run, eqPV_int, eqPV_str, is_non, isnt_non, dget_some, dget_run, ix_lst, ix_tup, len_lst, len_tup, len_scr, list_lst, list_tup, list_scr, int_run, abs_run, seqO_some, riSeq_run, riRg1_run, rg1_run, riRg2_run, rg2_run, gnm_run, sBind_run, sSeq_run, sNext_run, sBreak_run, sCont_run, sRet_run, sRetN_run, sExpr_run, sSet_run, sIf_run, dput_some, dputAt_run, sDPut_run, sPar_run, sOwn_run, rlLst_run, appO_run, appH_run, sAppend_run, frzO_run, sFrz_run, sRaise_run, sRaise0_run, suO_nx, suO_rt, suO_ite, endTry_run, subO_t, subO_f, tryO_exc, tryO_nx, tryO_rt, tryO_ite, sTry_run, sFor_run, forL_nil, forO_nx, forO_ct, forO_bk, forO_rt, forO_ite, forL_cons, toX_rt, toX_nx, toX_ite, xisO_run, rXIs_run, xfO_run, rXF_run, okO_ok, cxO_run, rCallX_run, List.getElem?_cons_zero, List.getElem?_cons_succ, List.set_cons_zero, List.set_cons_succ, List.length_cons, List.length_nil, Option.map_some, Option.map_none, if_true, if_false, ite_true, ite_false, reduceIte, decide_true, decide_false, Bool.not_true, Bool.not_false, Bool.false_eq_true, ie_1_16, ie_2_16, ie_3_16, ie_4_16, ie_5_16, ie_6_16, ie_7_16, ie_8_16, ie_9_16, ie_10_16, ie_11_16, ie_12_16, ie_13_16, ie_14_16, ie_15_16, ie_16_16, tru_bl, h1, h2, z0, z1, z2, z3, z4, z12, z16, hy, Int.reduceEq, List.mem_cons, List.not_mem_nil, or_false, or_true, false_or, true_or, Nat.reduceAdd, List.cons_append, List.nil_append]
theorem kinds_15 {one two three : PV} {x1 x2 : Str} {S : Store} (h1 : reprPV true one = some x1) (h2 : reprPV true two = some x2) : F_u_law_kinds 16 [] [] S = .ok (.lst [.tup [.str "redo"]]) S := by
  have hz : ∀ k : Nat, k ≤ 100 → k ≤ sizeLine := fun k hk => Nat.le_trans hk (by decide)
  have hy : (0 : Nat) < sizeLine := by decide
  have z0 : (0 : Nat) ≤ sizeLine := hz 0 (by decide)
  have z1 : (1 : Nat) ≤ sizeLine := hz 1 (by decide)
  have z2 : (2 : Nat) ≤ sizeLine := hz 2 (by decide)
  have z3 : (3 : Nat) ≤ sizeLine := hz 3 (by decide)
  have z4 : (4 : Nat) ≤ sizeLine := hz 4 (by decide)
  have z12 : (12 : Nat) ≤ sizeLine := hz 12 (by decide)
  have z16 : (16 : Nat) ≤ sizeLine := hz 16 (by decide)
  have em := more_15 (three := three) (S := S) h1 h2
  refine runH_run.trans ?_
  show toX (r_u_law_kinds [.exc 16 [] [], .no] S) = _
  simp only [r_u_law_kinds, ob_ok, ob_exc, ob_stuck, ob_ite, os_ok, os_exc, os_stuck, os_ite, st_nx, st_rt, st_bk, st_ct, st_exc, st_stuck, st_ite, so_rt, so_nx, so_exc, so_stuck, so_ite, sv_val, sb_val, sb_own, ov_some, obb_some, bl_run, rC_run, rVar_run, rBor_run, rOp_run, rDGet_run, rIx_run, raNil_run, raCons_run, rTup_run, rLst_run, rDct_run, rCell_run, rCell0_run, rCall_run, rBlt_run, rLen_run, rList_run, rTuple_run, rRepr_run, opRepr_run, negV_int, rNeg_run, rTruB_run, rTru_run, rtAnd_run, rtOr_run, rtNot_run, rIfE_run, andV_t, andV_f, rAndV_run, rOrV_run, rNotV_run, add_int, add_lst, add_tup, add_str, sub_int, mul_int, mod_int, div_int, pow_int, cmp_int, eq_run, ne_run, eqPV_int, eqPV_str, is_non, isnt_non, dget_some, dget_run, ix_lst, ix_tup, len_lst, len_tup, len_scr, list_lst, list_tup, list_scr, int_run, abs_run, seqO_some, riSeq_run, riRg1_run, rg1_run, riRg2_run, rg2_run, gnm_run, sBind_run, sSeq_run, sNext_run, sBreak_run, sCont_run, sRet_run, sRetN_run, sExpr_run, sSet_run, sIf_run, dput_some, dputAt_run, sDPut_run, sPar_run, sOwn_run, rlLst_run, appO_run, appH_run, sAppend_run, frzO_run, sFrz_run, sRaise_run, sRaise0_run, suO_nx, suO_rt, suO_ite, endTry_run, subO_t, subO_f, tryO_exc, tryO_nx, tryO_rt, tryO_ite, sTry_run, sFor_run, forL_nil, forO_nx, forO_ct, forO_bk, forO_rt, forO_ite, forL_cons, toX_rt, toX_nx, toX_ite, xisO_run, rXIs_run, xfO_run, rXF_run, okO_ok, cxO_run, rCallX_run, List.getElem?_cons_zero, List.getElem?_cons_succ, List.set_cons_zero, List.set_cons_succ, List.length_cons, List.length_nil, Option.map_some, Option.map_none, if_true, if_false, ite_true, ite_false, reduceIte, decide_true, decide_false, Bool.not_true, Bool.not_false, Bool.false_eq_true, ie_1_16, ie_2_16, ie_3_16, ie_4_16, ie_5_16, ie_6_16, ie_7_16, ie_8_16, ie_9_16, ie_10_16, ie_11_16, ie_12_16, ie_13_16, ie_14_16, ie_15_16, ie_16_16, tru_bl, h1, h2, z0, z1, z2, z3, z4, z12, z16, hy, Int.reduceEq, List.mem_cons, List.not_mem_nil, or_false, or_true, false_or, true_or, Nat.reduceAdd, List.cons_append, List.nil_append, em]
theorem told_15 {one two three : PV} {x1 x2 : Str} {S : Store} (h1 : reprPV true one = some x1) (h2 : reprPV true two = some x2) : F_u_law_told [.int 15, one, two, three] S = .ok (.lst [.tup [.str "redo"]]) S := by
  have ek := kinds_15 (three := three) (S := S) h1 h2
  refine runF_run.trans ?_
  show SOut.toO (r_u_law_told [.val (.int 15), .val one, .val two, .val three, .no, .no] S) = _
  have er : F_u_law_raised [.int 15, one, two] S = .ok .non S := by
    refine runF_run.trans ?_
    show SOut.toO (r_u_law_raised [.val (.int 15), .val one, .val two] S) = _
    simp only [r_u_law_raised, ob_ok, ob_exc, ob_stuck, ob_ite, os_ok, os_exc, os_stuck, os_ite, st_nx, st_rt, st_bk, st_ct, st_exc, st_stuck, st_ite, so_rt, so_nx, so_exc, so_stuck, so_ite, sv_val, sb_val, sb_own, ov_some, obb_some, bl_run, rC_run, rVar_run, rBor_run, rOp_run, rDGet_run, rIx_run, raNil_run, raCons_run, rTup_run, rLst_run, rDct_run, rCell_run, rCell0_run, rCall_run, rBlt_run, rLen_run, rList_run, rTuple_run, rRepr_run, opRepr_run, negV_int, rNeg_run, rTruB_run, rTru_run, rtAnd_run, rtOr_run, rtNot_run, rIfE_run, andV_t, andV_f, rAndV_run, rOrV_run, rNotV_run, add_int, add_lst, add_tup, add_str, sub_int, mul_int, mod_int, div_int, pow_int, cmp_int, eq_run, ne_run, eqPV_int, eqPV_str, is_non, isnt_non, dget_some, dget_run, ix_lst, ix_tup, len_lst, len_tup, len_scr, list_lst, list_tup, list_scr, int_run, abs_run, seqO_some, riSeq_run, riRg1_run, rg1_run, riRg2_run, rg2_run, gnm_run, sBind_run, sSeq_run, sNext_run, sBreak_run, sCont_run, sRet_run, sRetN_run, sExpr_run, sSet_run, sIf_run, dput_some, dputAt_run, sDPut_run, sPar_run, sOwn_run, rlLst_run, appO_run, appH_run, sAppend_run, frzO_run, sFrz_run, sRaise_run, sRaise0_run, suO_nx, suO_rt, suO_ite, endTry_run, subO_t, subO_f, tryO_exc, tryO_nx, tryO_rt, tryO_ite, sTry_run, sFor_run, forL_nil, forO_nx, forO_ct, forO_bk, forO_rt, forO_ite, forL_cons, toX_rt, toX_nx, toX_ite, xisO_run, rXIs_run, xfO_run, rXF_run, okO_ok, cxO_run, rCallX_run, List.getElem?_cons_zero, List.getElem?_cons_succ, List.set_cons_zero, List.set_cons_succ, List.length_cons, List.length_nil, Option.map_some, Option.map_none, if_true, if_false, ite_true, ite_false, reduceIte, decide_true, decide_false, Bool.not_true, Bool.not_false, Bool.false_eq_true, Int.reduceEq, List.mem_cons, List.not_mem_nil, or_false, or_true, false_or, true_or, Nat.reduceAdd, List.cons_append, List.nil_append]
  have er2 : F_u_law_raised_too [.int 15, one, two, three] S = .exc 16 [] [] S := by
    refine runF_run.trans ?_
    show SOut.toO (r_u_law_raised_too [.val (.int 15), .val one, .val two, .val three] S) = _
    have l3 : (0 : Nat) ≤ 1000 ∧ (1 : Nat) ≤ 1000 ∧ (2 : Nat) ≤ 1000 ∧ (3 : Nat) ≤ 1000 := by decide
    simp only [r_u_law_raised_too, ob_ok, ob_exc, ob_stuck, ob_ite, os_ok, os_exc, os_stuck, os_ite, st_nx, st_rt, st_bk, st_ct, st_exc, st_stuck, st_ite, so_rt, so_nx, so_exc, so_stuck, so_ite, sv_val, sb_val, sb_own, ov_some, obb_some, bl_run, rC_run, rVar_run, rBor_run, rOp_run, rDGet_run, rIx_run, raNil_run, raCons_run, rTup_run, rLst_run, rDct_run, rCell_run, rCell0_run, rCall_run, rBlt_run, rLen_run, rList_run, rTuple_run, rRepr_run, opRepr_run, negV_int, rNeg_run, rTruB_run, rTru_run, rtAnd_run, rtOr_run, rtNot_run, rIfE_run, andV_t, andV_f, rAndV_run, rOrV_run, rNotV_run, add_int, add_lst, add_tup, add_str, sub_int, mul_int, mod_int, div_int, pow_int, cmp_int, eq_run, ne_run, eqPV_int, eqPV_str, is_non, isnt_non, dget_some, dget_run, ix_lst, ix_tup, len_lst, len_tup, len_scr, list_lst, list_tup, list_scr, int_run, abs_run, seqO_some, riSeq_run, riRg1_run, rg1_run, riRg2_run, rg2_run, gnm_run, sBind_run, sSeq_run, sNext_run, sBreak_run, sCont_run, sRet_run, sRetN_run, sExpr_run, sSet_run, sIf_run, dput_some, dputAt_run, sDPut_run, sPar_run, sOwn_run, rlLst_run, appO_run, appH_run, sAppend_run, frzO_run, sFrz_run, sRaise_run, sRaise0_run, suO_nx, suO_rt, suO_ite, endTry_run, subO_t, subO_f, tryO_exc, tryO_nx, tryO_rt, tryO_ite, sTry_run, sFor_run, forL_nil, forO_nx, forO_ct, forO_bk, forO_rt, forO_ite, forL_cons, toX_rt, toX_nx, toX_ite, xisO_run, rXIs_run, xfO_run, rXF_run, okO_ok, cxO_run, rCallX_run, List.getElem?_cons_zero, List.getElem?_cons_succ, List.set_cons_zero, List.set_cons_succ, List.length_cons, List.length_nil, Option.map_some, Option.map_none, if_true, if_false, ite_true, ite_false, reduceIte, decide_true, decide_false, Bool.not_true, Bool.not_false, Bool.false_eq_true, Int.reduceEq, List.mem_cons, List.not_mem_nil, or_false, or_true, false_or, true_or, Nat.reduceAdd, List.cons_append, List.nil_append, l3, and_self]
  have cl : ∀ a b c d e : PV, clean [.val a, .val b, .val c, .val d, .val e, .no] = true := fun _ _ _ _ _ => rfl
  simp only [r_u_law_told, ob_ok, ob_exc, ob_stuck, ob_ite, os_ok, os_exc, os_stuck, os_ite, st_nx, st_rt, st_bk, st_ct, st_exc, st_stuck, st_ite, so_rt, so_nx, so_exc, so_stuck, so_ite, sv_val, sb_val, sb_own, ov_some, obb_some, bl_run, rC_run, rVar_run, rBor_run, rOp_run, rDGet_run, rIx_run, raNil_run, raCons_run, rTup_run, rLst_run, rDct_run, rCell_run, rCell0_run, rCall_run, rBlt_run, rLen_run, rList_run, rTuple_run, rRepr_run, opRepr_run, negV_int, rNeg_run, rTruB_run, rTru_run, rtAnd_run, rtOr_run, rtNot_run, rIfE_run, andV_t, andV_f, rAndV_run, rOrV_run, rNotV_run, add_int, add_lst, add_tup, add_str, sub_int, mul_int, mod_int, div_int, pow_int, cmp_int, eq_run, ne_run, eqPV_int, eqPV_str, is_non, isnt_non, dget_some, dget_run, ix_lst, ix_tup, len_lst, len_tup, len_scr, list_lst, list_tup, list_scr, int_run, abs_run, seqO_some, riSeq_run, riRg1_run, rg1_run, riRg2_run, rg2_run, gnm_run, sBind_run, sSeq_run, sNext_run, sBreak_run, sCont_run, sRet_run, sRetN_run, sExpr_run, sSet_run, sIf_run, dput_some, dputAt_run, sDPut_run, sPar_run, sOwn_run, rlLst_run, appO_run, appH_run, sAppend_run, frzO_run, sFrz_run, sRaise_run, sRaise0_run, suO_nx, suO_rt, suO_ite, endTry_run, subO_t, subO_f, tryO_exc, tryO_nx, tryO_rt, tryO_ite, sTry_run, sFor_run, forL_nil, forO_nx, forO_ct, forO_bk, forO_rt, forO_ite, forL_cons, toX_rt, toX_nx, toX_ite, xisO_run, rXIs_run, xfO_run, rXF_run, okO_ok, cxO_run, rCallX_run, List.getElem?_cons_zero, List.getElem?_cons_succ, List.set_cons_zero, List.set_cons_succ, List.length_cons, List.length_nil, Option.map_some, Option.map_none, if_true, if_false, ite_true, ite_false, reduceIte, decide_true, decide_false, Bool.not_true, Bool.not_false, Bool.false_eq_true, Int.reduceEq, List.mem_cons, List.not_mem_nil, or_false, or_true, false_or, true_or, Nat.reduceAdd, List.cons_append, List.nil_append, er, er2, ie_0_16, iv_16, tru_bl, ek, cl]
theorem due_15 {one two three : PV} {x1 x2 : Str} {S : Store} (h1 : reprPV true one = some x1) (h2 : reprPV true two = some x2) : F_u_law_due [.int 15, one, two, three] S = .ok (.tup [.str "redo"]) S := by
  have hz : ∀ k : Nat, k ≤ 100 → k ≤ sizeLine := fun k hk => Nat.le_trans hk (by decide)
  have hy : (0 : Nat) < sizeLine := by decide
  have z0 : (0 : Nat) ≤ sizeLine := hz 0 (by decide)
  have z1 : (1 : Nat) ≤ sizeLine := hz 1 (by decide)
  have z2 : (2 : Nat) ≤ sizeLine := hz 2 (by decide)
  have z3 : (3 : Nat) ≤ sizeLine := hz 3 (by decide)
  have z4 : (4 : Nat) ≤ sizeLine := hz 4 (by decide)
  have z12 : (12 : Nat) ≤ sizeLine := hz 12 (by decide)
  have z16 : (16 : Nat) ≤ sizeLine := hz 16 (by decide)
  refine runF_run.trans ?_
  show SOut.toO (r_u_law_due [.val (.int 15), .val one, .val two, .val three, .no] S) = _
  simp only [r_u_law_due, ob_ok, ob_exc, ob_stuck, ob_ite, os_ok, os_exc, os_stuck, os_ite, st_nx, st_rt, st_bk, st_ct, st_exc, st_stuck, st_ite, so_rt, so_nx, so_exc, so_stuck, so_ite, sv_val, sb_val, sb_own, ov_some, obb_some, bl_run, rC_run, rVar_run, rBor_run, rOp_run, rDGet_run, rIx_run, raNil_run, raCons_run, rTup_run, rLst_run, rDct_run, rCell_run, rCell0_run, rCall_run, rBlt_run, rLen_run, rList_run, rTuple_run, rRepr_run, opRepr_run, negV_int, rNeg_run, rTruB_run, rTru_run, rtAnd_run, rtOr_run, rtNot_run, rIfE_run, andV_t, andV_f, rAndV_run, rOrV_run, rNotV_run, add_int, add_lst, add_tup, add_str, sub_int, mul_int, mod_int, div_int, pow_int, cmp_int, eq_run, ne_run, eqPV_int, eqPV_str, is_non, isnt_non, dget_some, dget_run, ix_lst, ix_tup, len_lst, len_tup, len_scr, list_lst, list_tup, list_scr, int_run, abs_run, seqO_some, riSeq_run, riRg1_run, rg1_run, riRg2_run, rg2_run, gnm_run, sBind_run, sSeq_run, sNext_run, sBreak_run, sCont_run, sRet_run, sRetN_run, sExpr_run, sSet_run, sIf_run, dput_some, dputAt_run, sDPut_run, sPar_run, sOwn_run, rlLst_run, appO_run, appH_run, sAppend_run, frzO_run, sFrz_run, sRaise_run, sRaise0_run, suO_nx, suO_rt, suO_ite, endTry_run, subO_t, subO_f, tryO_exc, tryO_nx, tryO_rt, tryO_ite, sTry_run, sFor_run, forL_nil, forO_nx, forO_ct, forO_bk, forO_rt, forO_ite, forL_cons, toX_rt, toX_nx, toX_ite, xisO_run, rXIs_run, xfO_run, rXF_run, okO_ok, cxO_run, rCallX_run, List.getElem?_cons_zero, List.getElem?_cons_succ, List.set_cons_zero, List.set_cons_succ, List.length_cons, List.length_nil, Option.map_some, Option.map_none, if_true, if_false, ite_true, ite_false, reduceIte, decide_true, decide_false, Bool.not_true, Bool.not_false, Bool.false_eq_true, in_a, in_b, in_c, in_d, Int.reduceEq, List.mem_cons, List.not_mem_nil, or_false, or_true, false_or, true_or, Nat.reduceAdd, List.cons_append, List.nil_append, aw_15, h1, h2, z0, z1, z2, z3, z4, z12, z16, hy]
end P
end Fx

namespace Fx
open PySem PySem.Spec PyProof.Rows L2
namespace P
theorem smW (w : String) (h : w.length ≤ 12) : Sm (.str w) 12 3 := (sm_str (okS_string w) (by rw [PySem.ofString_length]; exact h)).mono (Nat.le_refl _) (by decide)
theorem smX {x : Str} (h : okS x) (hl : x.length ≤ 47 * 400 + 45) : Sm (.str x) 18845 3 := (sm_str h hl).mono (by decide) (by decide)
theorem there {ps : List PV} {k : Nat} (h : SmL ps k 3) (hk : k ≤ 40000) : ∃ x, reprPV true (.tup ps) = some x :=
  let ⟨x, e, _⟩ := repr_sm (sm_tup h) (by omega) (by decide)
  ⟨x, e⟩
/-- for each kind: what is told is what is due, and has its text -/
theorem kind_ok (k : Nat) (hk : k < 16) {one two three : PV} (s1 : Sm one 400 3) (s2 : Sm two 400 3) (s3 : Sm three 400 3) (S : Store) :
    ∃ (t : PV) (x : Str), F_u_law_told [.int k, one, two, three] S = .ok (.lst [t]) S ∧ F_u_law_due [.int k, one, two, three] S = .ok t S ∧ reprPV true t = some x := by
  obtain ⟨x1, h1, o1, l1⟩ := repr_sm s1 (by decide) (by decide)
  obtain ⟨x2, h2, o2, l2⟩ := repr_sm s2 (by decide) (by decide)
  match k, hk with
  | 0, _ =>
    obtain ⟨x, hx⟩ := there (smL_cons (smW "number" (by decide)) (smL_cons s1 (smL_cons (smX o2 l2) smL_nil))) (by decide)
    exact ⟨_, x, told_0 h1 h2, due_0 (three := three) h1 h2, hx⟩
  | 1, _ =>
    obtain ⟨x, hx⟩ := there (smL_cons (smW "row" (by decide)) (smL_cons s1 (smL_cons (smX o2 l2) smL_nil))) (by decide)
    exact ⟨_, x, told_1 h1 h2, due_1 (three := three) h1 h2, hx⟩
  | 2, _ =>
    obtain ⟨x, hx⟩ := there (smL_cons (smW "table" (by decide)) (smL_cons s1 smL_nil)) (by decide)
    exact ⟨_, x, told_2 h1 h2, due_2 (three := three) h1 h2, hx⟩
  | 3, _ =>
    obtain ⟨x, hx⟩ := there (smL_cons (smW "poly" (by decide)) (smL_cons s1 smL_nil)) (by decide)
    exact ⟨_, x, told_3 h1 h2, due_3 (three := three) h1 h2, hx⟩
  | 4, _ =>
    obtain ⟨x, hx⟩ := there (smL_cons (smW "lot" (by decide)) (smL_cons s1 (smL_cons (smX o2 l2) smL_nil))) (by decide)
    exact ⟨_, x, told_4 h1 h2, due_4 (three := three) h1 h2, hx⟩
  | 5, _ =>
    obtain ⟨x, hx⟩ := there (smL_cons (smW "badname" (by decide)) (smL_cons (smX o1 l1) smL_nil)) (by decide)
    exact ⟨_, x, told_5 h1 h2, due_5 (three := three) h1 h2, hx⟩
  | 6, _ =>
    obtain ⟨x, hx⟩ := there (smL_cons (smW "text" (by decide)) (smL_cons s1 (smL_cons s2 smL_nil))) (by decide)
    exact ⟨_, x, told_6 h1 h2, due_6 (three := three) h1 h2, hx⟩
  | 7, _ =>
    obtain ⟨x, hx⟩ := there (smL_cons (smW "place" (by decide)) (smL_cons s1 (smL_cons (smX o2 l2) smL_nil))) (by decide)
    exact ⟨_, x, told_7 h1 h2, due_7 (three := three) h1 h2, hx⟩
  | 8, _ =>
    obtain ⟨x, hx⟩ := there (smL_cons (smW "noname" (by decide)) (smL_cons (smX o1 l1) smL_nil)) (by decide)
    exact ⟨_, x, told_8 h1 h2, due_8 (three := three) h1 h2, hx⟩
  | 9, _ =>
    obtain ⟨x, hx⟩ := there (smL_cons (smW "taken" (by decide)) (smL_cons (smX o1 l1) smL_nil)) (by decide)
    exact ⟨_, x, told_9 h1 h2, due_9 (three := three) h1 h2, hx⟩
  | 10, _ =>
    obtain ⟨x, hx⟩ := there (smL_cons (smW "unlike" (by decide)) (smL_cons s1 smL_nil)) (by decide)
    exact ⟨_, x, told_10 h1 h2, due_10 (three := three) h1 h2, hx⟩
  | 11, _ =>
    obtain ⟨x, hx⟩ := there (smL_cons (smW "notbetween" (by decide)) (smL_cons s1 smL_nil)) (by decide)
    exact ⟨_, x, told_11 h1 h2, due_11 (three := three) h1 h2, hx⟩
  | 12, _ =>
    obtain ⟨x, hx⟩ := there (smL_cons (smW "many" (by decide)) (smL_cons s1 (smL_cons s2 (smL_cons s3 smL_nil)))) (by decide)
    exact ⟨_, x, told_12 h1 h2, due_12 (three := three) h1 h2, hx⟩
  | 13, _ =>
    obtain ⟨x, hx⟩ := there (smL_cons (smW "kept" (by decide)) (smL_cons s1 (smL_cons s2 smL_nil))) (by decide)
    exact ⟨_, x, told_13 h1 h2, due_13 (three := three) h1 h2, hx⟩
  | 14, _ =>
    obtain ⟨x, hx⟩ := there (smL_cons (smW "undo" (by decide)) smL_nil) (by decide)
    exact ⟨_, x, told_14 h1 h2, due_14 (three := three) h1 h2, hx⟩
  | 15, _ =>
    obtain ⟨x, hx⟩ := there (smL_cons (smW "redo" (by decide)) smL_nil) (by decide)
    exact ⟨_, x, told_15 h1 h2, due_15 (three := three) h1 h2, hx⟩
  | k + 16, h => omega
def r_body : RS := (sSeq (sPar [3, 4, 5] (raCons (rCall F_u_law_field 1 (raCons (rVar 1) raNil)) (raCons (rCall F_u_law_field 1 (raCons (rVar 1) raNil)) (raCons (rCall F_u_law_field 1 (raCons (rVar 1) raNil)) raNil))))
  (sSeq (sSet 6 (rCall F_u_law_told 4 (raCons (rVar 2) (raCons (rVar 3) (raCons (rVar 4) (raCons (rVar 5) raNil))))))
  (sIf (rtOr (rTruB (rOp (opIs false) (rVar 6) (rC .non))) (rtOr (rTruB (rOp opNe (rLen (rVar 6)) (rC (.int 1)))) (rTruB (rOp opNe (rRepr true (rIx (rVar 6) (rC (.int 0)))) (rRepr true (rCall F_u_law_due 4 (raCons (rVar 2) (raCons (rVar 3) (raCons (rVar 4) (raCons (rVar 5) raNil)))))))))) (sRet (rC (.bl false))) sNext)))
theorem turn_ok {p : Pen} {n k i : Nat} {S : Store} {e0 a b c d : Slot} (h : p.Ok n) (hn : n < 2 ^ 50) (hk : k < 16) (hS : S[i]? = some p.cell) :
    ∃ (p' : Pen) (a' b' c' d' : Slot), r_body [e0, .val (.ref i), .val (.int k), a, b, c, d] S = .nx [e0, .val (.ref i), .val (.int k), a', b', c', d'] (S.set i p'.cell) ∧ p'.Ok (n + 6) := by
  obtain ⟨v1, p1, e1, k1, s1⟩ := field_ok h (by omega) hS
  obtain ⟨v2, p2, e2, k2, s2⟩ := field_ok k1 (by omega) (set_get hS : (S.set i p1.cell)[i]? = some p1.cell)
  rw [List.set_set] at e2
  obtain ⟨v3, p3, e3, k3, s3⟩ := field_ok k2 (by omega) (set_get hS : (S.set i p2.cell)[i]? = some p2.cell)
  rw [List.set_set] at e3
  obtain ⟨t, x, ht, hd, hx⟩ := kind_ok k hk s1 s2 s3 (S.set i p3.cell)
  have h01 : (((0 + 1 : Nat)) : Int) = 1 := rfl
  have h4 : (0 + 1 + 1 + 1 + 1 : Nat) = 4 := rfl
  have h3 : (0 + 1 + 1 + 1 : Nat) = 3 := rfl
  have h1' : (0 + 1 : Nat) = 1 := rfl
  have ea : atI [t] (0 : Int) = some t := rfl
  refine ⟨p3, .val v1, .val v2, .val v3, .val (.lst [t]), ?_, k3⟩
  simp only [r_body, ob_ok, ob_exc, ob_stuck, ob_ite, os_ok, os_exc, os_stuck, os_ite, st_nx, st_rt, st_bk, st_ct, st_exc, st_stuck, st_ite, so_rt, so_nx, so_exc, so_stuck, so_ite, sv_val, sb_val, sb_own, ov_some, obb_some, bl_run, rC_run, rVar_run, rBor_run, rOp_run, rDGet_run, rIx_run, raNil_run, raCons_run, rTup_run, rLst_run, rDct_run, rCell_run, rCell0_run, rCall_run, rBlt_run, rLen_run, rList_run, rTuple_run, rRepr_run, opRepr_run, negV_int, rNeg_run, rTruB_run, rTru_run, rtAnd_run, rtOr_run, rtNot_run, rIfE_run, andV_t, andV_f, rAndV_run, rOrV_run, rNotV_run, add_int, add_lst, add_tup, add_str, sub_int, mul_int, mod_int, div_int, pow_int, cmp_int, eq_run, ne_run, eqPV_int, eqPV_str, is_non, isnt_non, dget_some, dget_run, ix_lst, ix_tup, len_lst, len_tup, len_scr, list_lst, list_tup, list_scr, int_run, abs_run, seqO_some, riSeq_run, riRg1_run, rg1_run, riRg2_run, rg2_run, gnm_run, sBind_run, sSeq_run, sNext_run, sBreak_run, sCont_run, sRet_run, sRetN_run, sExpr_run, sSet_run, sIf_run, dput_some, dputAt_run, sDPut_run, sPar_run, sOwn_run, rlLst_run, appO_run, appH_run, sAppend_run, frzO_run, sFrz_run, sRaise_run, sRaise0_run, suO_nx, suO_rt, suO_ite, endTry_run, subO_t, subO_f, tryO_exc, tryO_nx, tryO_rt, tryO_ite, sTry_run, sFor_run, forL_nil, forO_nx, forO_ct, forO_bk, forO_rt, forO_ite, forL_cons, toX_rt, toX_nx, toX_ite, xisO_run, rXIs_run, xfO_run, rXF_run, okO_ok, cxO_run, rCallX_run, List.getElem?_cons_zero, List.getElem?_cons_succ, List.set_cons_zero, List.set_cons_succ, List.length_cons, List.length_nil, Option.map_some, Option.map_none, if_true, if_false, ite_true, ite_false, reduceIte, decide_true, decide_false, Bool.not_true, Bool.not_false, Bool.false_eq_true, e1, e2, e3, h01, h4, h3, h1', ht, hd, hx, ea, List.zip_cons_cons, List.zip_nil_left, List.zip_nil_right, List.foldl_cons, List.foldl_nil]
theorem loop_ok {i : Nat} {e0 : Slot} : ∀ (ks : List Nat) (p : Pen) (n : Nat) (S : Store) (x a b c d : Slot), (∀ k ∈ ks, k < 16) → p.Ok n → n + 6 * ks.length < 2 ^ 50 → S[i]? = some p.cell →
    ∃ (env : En) (S' : Store), forL (gnm 2) r_body (ks.map fun k => PV.int (k : Nat)) [e0, .val (.ref i), x, a, b, c, d] S = .nx env S'
  | [], p, n, S, x, a, b, c, d, _, _, _, _ => ⟨_, _, rfl⟩
  | k :: ks, p, n, S, x, a, b, c, d, hk, h, hn, hS => by
    rw [List.length_cons] at hn
    obtain ⟨p', a', b', c', d', e, ok⟩ := turn_ok (e0 := e0) (a := a) (b := b) (c := c) (d := d) h (by omega) (hk k List.mem_cons_self) hS
    obtain ⟨env, S', e2⟩ := loop_ok (e0 := e0) ks p' (n + 6) (S.set i p'.cell) (.val (.int k)) a' b' c' d' (fun j hj => hk j (List.mem_cons_of_mem _ hj)) ok (by omega) (set_get hS)
    refine ⟨env, S', ?_⟩
    rw [List.map_cons, forL_cons]
    simp only [List.set_cons_zero, List.set_cons_succ]
    rw [e]
    exact e2
/-- THE PLAIN LAW -/
theorem law_true (ns : List Int) : ∃ S, F_law [.scr ns] [] = .ok (.bl true) S := by
  obtain ⟨p, ep, ok, _⟩ := pen_ok ns []
  have hS : ([] ++ [p.cell] : Store)[0]? = some p.cell := rfl
  have er : rangeL 0 (16 : Int).toNat = (List.range 16).map fun k => PV.int (k : Nat) := rfl
  obtain ⟨env, S', el⟩ := loop_ok (e0 := .val (.scr ns)) (List.range 16) p 0 ([] ++ [p.cell]) .no .no .no .no .no (fun k hk => List.mem_range.mp hk) ok (by decide) hS
  refine ⟨S', ?_⟩
  refine runF_run.trans ?_
  show SOut.toO ((sSeq (sSet 1 (rCall F_u_law_pen 1 (raCons (rVar 0) raNil))) (sSeq (sFor (riRg1 (raCons (rC (.int 16)) raNil)) (gnm 2) r_body) (sRet (rC (.bl true))))) [.val (.scr ns), .no, .no, .no, .no, .no, .no] []) = _
  have c16 : (16 : Int) < 2 ^ 62 ∧ -(2 ^ 62) ≤ (16 : Int) := by decide
  have h1' : (0 + 1 : Nat) = 1 := rfl
  have l0 : List.length ([] : Store) = 0 := rfl
  rw [l0] at ep
  simp only [ob_ok, ob_exc, ob_stuck, ob_ite, os_ok, os_exc, os_stuck, os_ite, st_nx, st_rt, st_bk, st_ct, st_exc, st_stuck, st_ite, so_rt, so_nx, so_exc, so_stuck, so_ite, sv_val, sb_val, sb_own, ov_some, obb_some, bl_run, rC_run, rVar_run, rBor_run, rOp_run, rDGet_run, rIx_run, raNil_run, raCons_run, rTup_run, rLst_run, rDct_run, rCell_run, rCell0_run, rCall_run, rBlt_run, rLen_run, rList_run, rTuple_run, rRepr_run, opRepr_run, negV_int, rNeg_run, rTruB_run, rTru_run, rtAnd_run, rtOr_run, rtNot_run, rIfE_run, andV_t, andV_f, rAndV_run, rOrV_run, rNotV_run, add_int, add_lst, add_tup, add_str, sub_int, mul_int, mod_int, div_int, pow_int, cmp_int, eq_run, ne_run, eqPV_int, eqPV_str, is_non, isnt_non, dget_some, dget_run, ix_lst, ix_tup, len_lst, len_tup, len_scr, list_lst, list_tup, list_scr, int_run, abs_run, seqO_some, riSeq_run, riRg1_run, rg1_run, riRg2_run, rg2_run, gnm_run, sBind_run, sSeq_run, sNext_run, sBreak_run, sCont_run, sRet_run, sRetN_run, sExpr_run, sSet_run, sIf_run, dput_some, dputAt_run, sDPut_run, sPar_run, sOwn_run, rlLst_run, appO_run, appH_run, sAppend_run, frzO_run, sFrz_run, sRaise_run, sRaise0_run, suO_nx, suO_rt, suO_ite, endTry_run, subO_t, subO_f, tryO_exc, tryO_nx, tryO_rt, tryO_ite, sTry_run, sFor_run, forL_nil, forO_nx, forO_ct, forO_bk, forO_rt, forO_ite, forL_cons, toX_rt, toX_nx, toX_ite, xisO_run, rXIs_run, xfO_run, rXF_run, okO_ok, cxO_run, rCallX_run, List.getElem?_cons_zero, List.getElem?_cons_succ, List.set_cons_zero, List.set_cons_succ, List.length_cons, List.length_nil, Option.map_some, Option.map_none, if_true, if_false, ite_true, ite_false, reduceIte, decide_true, decide_false, Bool.not_true, Bool.not_false, Bool.false_eq_true, ep, h1', c16, er, and_self, el]
end P
end Fx

open PySem PySem.W PyProof.Rows
set_option maxRecDepth 100000 in
set_option maxHeartbeats 0 in
theorem PySem.Challenge.cw_rootsbetween_k01_errors_as_told_holds : PySem.Challenge.rw_rootsbetween_k01_errors_as_told.Holds := by
  w_on; o_law; k_head; (case hw => w_witness2)
  k_fill
  refine Fx.walk_ofF (n := 63) (k := 5) (x := "script") (sy := true) (F := Fx.P.F_law) rfl (by decide) rfl ⟨rfl, by decide, by decide⟩ (fun w h Y => PySem.W.kIn_of Y) (fun _ => by decide +kernel) ?F (fun ns hl hb => Fx.P.law_true ns)
  case F =>
    intro w mg fa h Y KX G hmg
    refine' Fx.P.all_mk KX G hmg ?w_a0 ?w_l0 ?w_c0 ?w_k0 ?w_a1 ?w_l1 ?w_c1 ?w_k1 ?w_a2 ?w_l2 ?w_c2 ?w_k2 ?w_a3 ?w_l3 ?w_c3 ?w_k3 ?w_a4 ?w_l4 ?w_c4 ?w_k4 ?w_a5 ?w_l5 ?w_c5 ?w_k5 ?w_a6 ?w_l6 ?w_c6 ?w_k6 ?w_a7 ?w_l7 ?w_c7 ?w_k7 ?w_a8 ?w_l8 ?w_c8 ?w_k8 ?w_a9 ?w_l9 ?w_c9 ?w_k9 ?w_a10 ?w_l10 ?w_c10 ?w_k10 ?w_z_ValueError ?w_z_int ?w_z_isinstance ?w_z_len ?w_z_list ?w_z_range ?w_z_repr ?w_gs ?w_tkn ?w_g0 ?w_e0 ?w_g1 ?w_e1 ?w_n1 ?w_t1 ?w_m1 ?w_o1 ?w_p1 ?w_g2 ?w_e2 ?w_n2 ?w_t2 ?w_m2 ?w_o2 ?w_p2 ?w_g3 ?w_e3 ?w_n3 ?w_t3 ?w_m3 ?w_o3 ?w_p3 ?w_g4 ?w_e4 ?w_n4 ?w_t4 ?w_m4 ?w_o4 ?w_p4 ?w_g5 ?w_e5 ?w_n5 ?w_t5 ?w_m5 ?w_o5 ?w_p5 ?w_g6 ?w_e6 ?w_n6 ?w_t6 ?w_m6 ?w_o6 ?w_p6 ?w_g7 ?w_e7 ?w_n7 ?w_t7 ?w_m7 ?w_o7 ?w_p7 ?w_g8 ?w_e8 ?w_n8 ?w_t8 ?w_m8 ?w_o8 ?w_p8 ?w_g9 ?w_e9 ?w_n9 ?w_t9 ?w_m9 ?w_o9 ?w_p9 ?w_g10 ?w_e10 ?w_n10 ?w_t10 ?w_m10 ?w_o10 ?w_p10 ?w_g11 ?w_e11 ?w_n11 ?w_t11 ?w_m11 ?w_o11 ?w_p11 ?w_g12 ?w_e12 ?w_n12 ?w_t12 ?w_m12 ?w_o12 ?w_p12 ?w_g13 ?w_e13 ?w_n13 ?w_t13 ?w_m13 ?w_o13 ?w_p13 ?w_g14 ?w_e14 ?w_n14 ?w_t14 ?w_m14 ?w_o14 ?w_p14 ?w_g15 ?w_e15 ?w_q15 ?w_g16 ?w_e16 ?w_q16 ?w_nd
    (case w_a0 => k_is)
    (case w_l0 => k_is)
    (case w_c0 => k_is)
    (case w_k0 => k_is)
    (case w_a1 => k_is)
    (case w_l1 => k_is)
    (case w_c1 => k_is)
    (case w_k1 => k_is)
    (case w_a2 => k_is)
    (case w_l2 => k_is)
    (case w_c2 => k_is)
    (case w_k2 => k_is)
    (case w_a3 => k_is)
    (case w_l3 => k_is)
    (case w_c3 => k_is)
    (case w_k3 => k_is)
    (case w_a4 => k_is)
    (case w_l4 => k_is)
    (case w_c4 => k_is)
    (case w_k4 => k_is)
    (case w_a5 => k_is)
    (case w_l5 => k_is)
    (case w_c5 => k_is)
    (case w_k5 => k_is)
    (case w_a6 => k_is)
    (case w_l6 => k_is)
    (case w_c6 => k_is)
    (case w_k6 => k_is)
    (case w_a7 => k_is)
    (case w_l7 => k_is)
    (case w_c7 => k_is)
    (case w_k7 => k_is)
    (case w_a8 => k_is)
    (case w_l8 => k_is)
    (case w_c8 => k_is)
    (case w_k8 => k_is)
    (case w_a9 => k_is)
    (case w_l9 => k_is)
    (case w_c9 => k_is)
    (case w_k9 => k_is)
    (case w_a10 => k_is)
    (case w_l10 => k_is)
    (case w_c10 => k_is)
    (case w_k10 => k_is)
    (case w_z_ValueError => k_is)
    (case w_z_int => k_is)
    (case w_z_isinstance => k_is)
    (case w_z_len => k_is)
    (case w_z_list => k_is)
    (case w_z_range => k_is)
    (case w_z_repr => k_is)
    (case w_gs => k_is)
    (case w_tkn => k_is)
    (case w_g0 => k_is)
    (case w_e0 => kernel_rfl)
    (case w_g1 => k_is)
    (case w_e1 => kernel_rfl)
    (case w_n1 => k_is)
    (case w_t1 => k_is)
    (case w_m1 => k_is)
    (case w_o1 => k_is)
    (case w_p1 => k_is)
    (case w_g2 => k_is)
    (case w_e2 => kernel_rfl)
    (case w_n2 => k_is)
    (case w_t2 => k_is)
    (case w_m2 => k_is)
    (case w_o2 => k_is)
    (case w_p2 => k_is)
    (case w_g3 => k_is)
    (case w_e3 => kernel_rfl)
    (case w_n3 => k_is)
    (case w_t3 => k_is)
    (case w_m3 => k_is)
    (case w_o3 => k_is)
    (case w_p3 => k_is)
    (case w_g4 => k_is)
    (case w_e4 => kernel_rfl)
    (case w_n4 => k_is)
    (case w_t4 => k_is)
    (case w_m4 => k_is)
    (case w_o4 => k_is)
    (case w_p4 => k_is)
    (case w_g5 => k_is)
    (case w_e5 => kernel_rfl)
    (case w_n5 => k_is)
    (case w_t5 => k_is)
    (case w_m5 => k_is)
    (case w_o5 => k_is)
    (case w_p5 => k_is)
    (case w_g6 => k_is)
    (case w_e6 => kernel_rfl)
    (case w_n6 => k_is)
    (case w_t6 => k_is)
    (case w_m6 => k_is)
    (case w_o6 => k_is)
    (case w_p6 => k_is)
    (case w_g7 => k_is)
    (case w_e7 => kernel_rfl)
    (case w_n7 => k_is)
    (case w_t7 => k_is)
    (case w_m7 => k_is)
    (case w_o7 => k_is)
    (case w_p7 => k_is)
    (case w_g8 => k_is)
    (case w_e8 => kernel_rfl)
    (case w_n8 => k_is)
    (case w_t8 => k_is)
    (case w_m8 => k_is)
    (case w_o8 => k_is)
    (case w_p8 => k_is)
    (case w_g9 => k_is)
    (case w_e9 => kernel_rfl)
    (case w_n9 => k_is)
    (case w_t9 => k_is)
    (case w_m9 => k_is)
    (case w_o9 => k_is)
    (case w_p9 => k_is)
    (case w_g10 => k_is)
    (case w_e10 => kernel_rfl)
    (case w_n10 => k_is)
    (case w_t10 => k_is)
    (case w_m10 => k_is)
    (case w_o10 => k_is)
    (case w_p10 => k_is)
    (case w_g11 => k_is)
    (case w_e11 => kernel_rfl)
    (case w_n11 => k_is)
    (case w_t11 => k_is)
    (case w_m11 => k_is)
    (case w_o11 => k_is)
    (case w_p11 => k_is)
    (case w_g12 => k_is)
    (case w_e12 => kernel_rfl)
    (case w_n12 => k_is)
    (case w_t12 => k_is)
    (case w_m12 => k_is)
    (case w_o12 => k_is)
    (case w_p12 => k_is)
    (case w_g13 => k_is)
    (case w_e13 => kernel_rfl)
    (case w_n13 => k_is)
    (case w_t13 => k_is)
    (case w_m13 => k_is)
    (case w_o13 => k_is)
    (case w_p13 => k_is)
    (case w_g14 => k_is)
    (case w_e14 => kernel_rfl)
    (case w_n14 => k_is)
    (case w_t14 => k_is)
    (case w_m14 => k_is)
    (case w_o14 => k_is)
    (case w_p14 => k_is)
    (case w_g15 => k_is)
    (case w_e15 => kernel_rfl)
    (case w_q15 => kernel_rfl)
    (case w_g16 => k_is)
    (case w_e16 => kernel_rfl)
    (case w_q16 => kernel_rfl)
    (case w_nd => decide)
