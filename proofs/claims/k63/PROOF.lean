import PyProof.Rows.All
import Wide.All
import OpenK.AllK
import Wide.FinOn
import HandS.ForMost
import HandS.Exc
import HandS.WordsExc
import HandS.TryOnly
import HandS.Deep
import HandS.IsInst
import HandS.Gcd
import KE.KMathGC
import KE.SortData
import HandS.Flow
import HandS.Star
import HandS.Zip
import HandS.CallSlots
import HandS.Defaults
import HandS.Comp
import HandS.SetFor
import HandS.Text
import HandS.RaiseMore
import HandS.Style
import HandS.SetBool
import PySem.Challenge.RW_railturns_k63_whole_ways_by_lot
set_option Elab.async false
set_option linter.all false
set_option maxRecDepth 100000
set_option maxHeartbeats 4000000
/-! Dn, part A: data in the heap, environments, expressions' meanings -/
namespace Dn
open PySem PySem.Spec PyProof.Rows L2

abbrev D := PyData
abbrev Fz := Addr → Prop

/-- an exception: its class's number, its one attribute -/
structure Exn where
  c : Nat
  p : Option (Str × D)

/-- what a slot holds -/
inductive Sl where
  | val (d : D)
  | own (xs : List D)

abbrev En := List (Option Sl)

inductive Res (α : Type) where
  | ok (a : α) (e : En)
  | exc (x : Exn) (e : En)
  | bad

/-- what stands of a text: the written part, the exceptions' classes -/
structure Tx where
  K : PySem.W.Frag
  cl : Nat → Value

section
variable (K : PySem.W.Frag) (F : Fz) (H : Hp)
def KL (a : Addr) (vs : List V) : Prop := ∃ (o : Obj) (its : Array Value) (n : Nat), K.lookup a = some o ∧ o.cls = .type "list" ∧ o.dict = none ∧ o.data = .seq its n ∧ its.size ≤ sizeLine ∧ Vals vs its.toList
def KT (a : Addr) (vs : List V) : Prop := ∃ (o : Obj) (its : Array Value) (n : Nat), K.lookup a = some o ∧ o.cls = .type "tuple" ∧ o.data = .seq its n ∧ its.size ≤ sizeLine ∧ Vals vs its.toList
def FL (a : Addr) (vs : List V) : Prop := (F a ∧ L2.Rd H a (.lst vs)) ∨ KL K a vs
def FT (a : Addr) (vs : List V) : Prop := (F a ∧ L2.Rd H a (.tup vs)) ∨ KT K a vs
mutual
/-- v is the plain data d: nobody changes it any more -/
inductive Rp : V → D → Prop
  | non : Rp .non .none
  | bl (b : Bool) : Rp (.bl b) (.bool b)
  | int (i : Int) : Rp (.int i) (.int i)
  | str (x : Str) : Rp (.str x) (.str x)
  | lst {a : Addr} {vs : List V} {ds : List D} : FL K F H a vs → Rps vs ds → Rp (.ref a) (.list ds)
  | tup {a : Addr} {vs : List V} {ds : List D} : FT K F H a vs → Rps vs ds → Rp (.ref a) (.tuple ds)
inductive Rps : List V → List D → Prop
  | nil : Rps [] []
  | cons {v : V} {vs : List V} {d : D} {ds : List D} : Rp v d → Rps vs ds → Rps (v :: vs) (d :: ds)
end
end
section
variable {K : PySem.W.Frag} {F F' : Fz} {H H' : Hp} {a : Addr} {vs ws : List V} {ds es : List D}
theorem FL.sq (h : FL K F H a vs) : SqL K H a vs := by
  rcases h with ⟨_, h⟩ | h
  · exact .inl h
  · exact .inr h
theorem FT.sq (h : FT K F H a vs) : SqT K H a vs := by
  rcases h with ⟨_, h⟩ | h
  · exact .inl h
  · exact .inr h
theorem rd_mono {u : HO} (hH : ∀ o, H a = some o → H' a = some o) (h : L2.Rd H a u) : L2.Rd H' a u := by
  rcases h with h | ⟨o, h⟩
  · exact .inl (hH _ h)
  · exact .inr ⟨o, hH _ h⟩
theorem FL.mono (hF : ∀ a, F a → F' a) (hH : ∀ a o, F a → H a = some o → H' a = some o) (h : FL K F H a vs) : FL K F' H' a vs := by
  rcases h with ⟨f, h⟩ | h
  · exact .inl ⟨hF _ f, rd_mono (fun o => hH a o f) h⟩
  · exact .inr h
theorem FT.mono (hF : ∀ a, F a → F' a) (hH : ∀ a o, F a → H a = some o → H' a = some o) (h : FT K F H a vs) : FT K F' H' a vs := by
  rcases h with ⟨f, h⟩ | h
  · exact .inl ⟨hF _ f, rd_mono (fun o => hH a o f) h⟩
  · exact .inr h
mutual
theorem Rp.mono (hF : ∀ a, F a → F' a) (hH : ∀ a o, F a → H a = some o → H' a = some o) : ∀ {d : D} {v : V}, Rp K F H v d → Rp K F' H' v d
  | _, _, .non => .non
  | _, _, .bl b => .bl b
  | _, _, .int i => .int i
  | _, _, .str x => .str x
  | _, _, .lst h r => .lst (h.mono hF hH) (Rps.mono hF hH r)
  | _, _, .tup h r => .tup (h.mono hF hH) (Rps.mono hF hH r)
theorem Rps.mono (hF : ∀ a, F a → F' a) (hH : ∀ a o, F a → H a = some o → H' a = some o) : ∀ {ds : List D} {vs : List V}, Rps K F H vs ds → Rps K F' H' vs ds
  | _, _, .nil => .nil
  | _, _, .cons h r => .cons (Rp.mono hF hH h) (Rps.mono hF hH r)
end
mutual
theorem Rp.dp : ∀ {d : D} {v : V}, Rp K F H v d → Dp K H v d
  | _, _, .non => .non
  | _, _, .bl b => .bl b
  | _, _, .int i => .int i
  | _, _, .str x => .str x
  | _, _, .lst h r => .lst h.sq (Rps.dp r)
  | _, _, .tup h r => .tup h.sq (Rps.dp r)
theorem Rps.dp : ∀ {ds : List D} {vs : List V}, Rps K F H vs ds → DpAll K H vs ds
  | _, _, .nil => .nil
  | _, _, .cons h r => .cons (Rp.dp h) (Rps.dp r)
end
theorem Rps.len : ∀ {ds : List D} {vs : List V}, Rps K F H vs ds → vs.length = ds.length
  | _, _, .nil => rfl
  | _, _, .cons _ r => by rw [List.length_cons, List.length_cons, Rps.len r]
theorem Rps.app : ∀ {ds es : List D} {vs ws : List V}, Rps K F H vs ds → Rps K F H ws es → Rps K F H (vs ++ ws) (ds ++ es)
  | _, _, _, _, .nil, h => h
  | _, _, _, _, .cons h r, q => .cons h (Rps.app r q)
theorem Rps.get : ∀ {ds : List D} {vs : List V} {i : Nat} {d : D}, Rps K F H vs ds → ds[i]? = some d → ∃ v, vs[i]? = some v ∧ Rp K F H v d
  | _, _, _, _, .nil, e => by simp at e
  | _, _, 0, d, .cons h _, e => by simp at e; subst e; exact ⟨_, rfl, h⟩
  | _, _, i + 1, d, .cons _ r, e => by
    obtain ⟨v, h1, h2⟩ := Rps.get (i := i) (d := d) r (by simpa using e)
    exact ⟨v, by simpa using h1, h2⟩
theorem Rps.getV : ∀ {ds : List D} {vs : List V} {i : Nat} {v : V}, Rps K F H vs ds → vs[i]? = some v → ∃ d, ds[i]? = some d ∧ Rp K F H v d
  | _, _, _, _, .nil, e => by simp at e
  | _, _, 0, d, .cons h _, e => by simp at e; subst e; exact ⟨_, rfl, h⟩
  | _, _, i + 1, d, .cons _ r, e => by
    obtain ⟨v, h1, h2⟩ := Rps.getV (i := i) (v := d) r (by simpa using e)
    exact ⟨v, by simpa using h1, h2⟩
theorem Rps.take : ∀ {ds : List D} {vs : List V} (n : Nat), Rps K F H vs ds → Rps K F H (vs.take n) (ds.take n)
  | _, _, 0, _ => .nil
  | _, _, _ + 1, .nil => .nil
  | _, _, n + 1, .cons h r => .cons h (Rps.take n r)
theorem Rps.drop : ∀ {ds : List D} {vs : List V} (n : Nat), Rps K F H vs ds → Rps K F H (vs.drop n) (ds.drop n)
  | _, _, 0, r => r
  | _, _, _ + 1, .nil => .nil
  | _, _, n + 1, .cons _ r => Rps.drop n r
theorem Rps.set {v : V} {d : D} (q : Rp K F H v d) : ∀ {ds : List D} {vs : List V} (i : Nat), Rps K F H vs ds → Rps K F H (vs.set i v) (ds.set i d)
  | _, _, _, .nil => .nil
  | _, _, 0, .cons _ r => .cons q r
  | _, _, i + 1, .cons h r => .cons h (Rps.set q i r)
theorem Rps.erase : ∀ {ds : List D} {vs : List V} (i : Nat), Rps K F H vs ds → Rps K F H (vs.eraseIdx i) (ds.eraseIdx i)
  | _, _, _, .nil => .nil
  | _, _, 0, .cons _ r => r
  | _, _, i + 1, .cons h r => .cons h (Rps.erase i r)
theorem Rps.rev {ds : List D} {vs : List V} (h : Rps K F H vs ds) : Rps K F H vs.reverse ds.reverse := by
  induction vs generalizing ds with
  | nil => cases h; exact .nil
  | cons v vs ih =>
    cases h with
    | cons h r =>
      rw [List.reverse_cons, List.reverse_cons]
      exact (ih r).app (.cons h .nil)
theorem Rps.rep {ds : List D} {vs : List V} (h : Rps K F H vs ds) : ∀ k : Nat, Rps K F H (List.replicate k vs).flatten (List.replicate k ds).flatten
  | 0 => .nil
  | k + 1 => by
    rw [List.replicate_succ, List.replicate_succ, List.flatten_cons, List.flatten_cons]
    exact h.app (h.rep k)
theorem Rps.ints (ns : List Int) : Rps K F H (ns.map V.int) (ns.map PyData.int) := by
  induction ns with
  | nil => exact .nil
  | cons n ns ih => exact .cons (.int n) ih
end

/-- v is read as d just now: plain data, or a list of plain data that may still change -/
def Pk (K : PySem.W.Frag) (F : Fz) (H : Hp) (v : V) (d : D) : Prop :=
  Rp K F H v d ∨ ∃ a vs ds, v = .ref a ∧ d = .list ds ∧ H a = some (.lst vs) ∧ Rps K F H vs ds
theorem Pk.dp {K : PySem.W.Frag} {F : Fz} {H : Hp} {v : V} {d : D} (h : Pk K F H v d) : Dp K H v d := by
  rcases h with h | ⟨a, vs, ds, rfl, rfl, h, r⟩
  · exact h.dp
  · exact .lst (.inl (.inl h)) r.dp
theorem Pk.lst {K : PySem.W.Frag} {F : Fz} {H : Hp} {v : V} {ds : List D} (h : Pk K F H v (.list ds)) : ∃ a vs, v = .ref a ∧ SqL K H a vs ∧ Rps K F H vs ds := by
  rcases h with h | ⟨a, vs, es, rfl, e, h, r⟩
  · cases h with
    | lst h r => exact ⟨_, _, rfl, h.sq, r⟩
  · cases e
    exact ⟨_, _, rfl, .inl (.inl h), r⟩
theorem Pk.tup {K : PySem.W.Frag} {F : Fz} {H : Hp} {v : V} {ds : List D} (h : Pk K F H v (.tuple ds)) : ∃ a vs, v = .ref a ∧ FT K F H a vs ∧ Rps K F H vs ds := by
  rcases h with h | ⟨a, vs, es, rfl, e, h, r⟩
  · cases h with
    | tup h r => exact ⟨_, _, rfl, h, r⟩
  · cases e
theorem Pk.int {K : PySem.W.Frag} {F : Fz} {H : Hp} {v : V} {i : Int} (h : Pk K F H v (.int i)) : v = .int i := by
  rcases h with h | ⟨a, vs, es, rfl, e, h, r⟩
  · cases h; rfl
  · cases e
theorem Pk.bl {K : PySem.W.Frag} {F : Fz} {H : Hp} {v : V} {i : Bool} (h : Pk K F H v (.bool i)) : v = .bl i := by
  rcases h with h | ⟨a, vs, es, rfl, e, h, r⟩
  · cases h; rfl
  · cases e
theorem Pk.str {K : PySem.W.Frag} {F : Fz} {H : Hp} {v : V} {x : Str} (h : Pk K F H v (.str x)) : v = .str x := by
  rcases h with h | ⟨a, vs, es, rfl, e, h, r⟩
  · cases h; rfl
  · cases e
theorem Pk.non {K : PySem.W.Frag} {F : Fz} {H : Hp} {v : V} (h : Pk K F H v .none) : v = .non := by
  rcases h with h | ⟨a, vs, es, rfl, e, h, r⟩
  · cases h; rfl
  · cases e

/-! ### environments -/
structure Abs (K : PySem.W.Frag) (F : Fz) (H : Hp) (σ : L2.St) (e : En) : Prop where
  len : σ.length = e.length
  val : ∀ (i : Nat) (d : D), e[i]? = some (some (.val d)) → ∃ v, σ[i]? = some (some v) ∧ Rp K F H v d
  own : ∀ (i : Nat) (xs : List D), e[i]? = some (some (.own xs)) → ∃ a vs, σ[i]? = some (some (.ref a)) ∧ H a = some (.lst vs) ∧ Rps K F H vs xs ∧ ¬ F a
  dis : ∀ (i j : Nat) (xs ys : List D) (a : Addr), e[i]? = some (some (.own xs)) → e[j]? = some (some (.own ys)) → σ[i]? = some (some (.ref a)) → σ[j]? = some (some (.ref a)) → i = j
  fok : ∀ a, F a → H a ≠ none
def OwnA (σ : L2.St) (e : En) (a : Addr) : Prop := ∃ (i : Nat) (xs : List D), e[i]? = some (some (.own xs)) ∧ σ[i]? = some (some (.ref a))
theorem Abs.noF {K : PySem.W.Frag} {F : Fz} {H : Hp} {σ : L2.St} {e : En} {a : Addr} (A : Abs K F H σ e) (h : OwnA σ e a) : ¬ F a := by
  obtain ⟨i, xs, h1, h2⟩ := h
  obtain ⟨b, vs, h3, _, _, h4⟩ := A.own i xs h1
  rw [h2] at h3
  cases h3
  exact h4
theorem Abs.ownT {K : PySem.W.Frag} {F : Fz} {H : Hp} {σ : L2.St} {e : En} {a : Addr} (A : Abs K F H σ e) (h : OwnA σ e a) : H a ≠ none := by
  obtain ⟨i, xs, h1, h2⟩ := h
  obtain ⟨b, vs, h3, h5, _, h4⟩ := A.own i xs h1
  rw [h2] at h3
  cases h3
  rw [h5]
  simp

structure Step (σ : L2.St) (e : En) (F : Fz) (H : Hp) (σ' : L2.St) (e' : En) (F' : Fz) (H' : Hp) : Prop where
  fr : ∀ a, F a → F' a
  kp : ∀ a o, H a = some o → ¬ OwnA σ e a → H' a = some o
  nw : ∀ a, F' a → F a ∨ H a = none ∨ OwnA σ e a
  ow : ∀ a, OwnA σ' e' a → OwnA σ e a ∨ H a = none
section
variable {K : PySem.W.Frag} {F F1 F2 : Fz} {H H1 H2 : Hp} {σ σ1 σ2 : L2.St} {e e1 e2 : En}
theorem Step.refl : Step σ e F H σ e F H := ⟨fun _ h => h, fun _ _ h _ => h, fun _ h => .inl h, fun _ h => .inl h⟩
theorem Step.trans (x : Step σ e F H σ1 e1 F1 H1) (y : Step σ1 e1 F1 H1 σ2 e2 F2 H2) : Step σ e F H σ2 e2 F2 H2 := by
  have back : ∀ a, H1 a = none → H a = none ∨ OwnA σ e a := fun a n => by
    by_cases o : OwnA σ e a
    · exact .inr o
    · cases q : H a with
      | none => exact .inl rfl
      | some u => rw [x.kp a u q o] at n; cases n
  refine ⟨fun a h => y.fr a (x.fr a h), fun a o h n => y.kp a o (x.kp a o h n) fun z => ?_, fun a h => ?_, fun a h => ?_⟩
  · rcases x.ow a z with z | z
    · exact n z
    · rw [h] at z; cases z
  · rcases y.nw a h with z | z | z
    · exact x.nw a z
    · rcases back a z with q | q
      · exact .inr (.inl q)
      · exact .inr (.inr q)
    · rcases x.ow a z with q | q
      · exact .inr (.inr q)
      · exact .inr (.inl q)
  · rcases y.ow a h with z | z
    · exact x.ow a z
    · rcases back a z with q | q
      · exact .inr q
      · exact .inl q
theorem Abs.rp {v : V} {d : D} (A : Abs K F H σ e) (x : Step σ e F H σ1 e1 F1 H1) (r : Rp K F H v d) : Rp K F1 H1 v d :=
  r.mono x.fr fun a o f h => x.kp a o h fun z => A.noF z f
theorem Abs.rps {v : List V} {d : List D} (A : Abs K F H σ e) (x : Step σ e F H σ1 e1 F1 H1) (r : Rps K F H v d) : Rps K F1 H1 v d :=
  r.mono x.fr fun a o f h => x.kp a o h fun z => A.noF z f
/-- a growth: new things alone -/
structure Gro (F : Fz) (H : Hp) (F' : Fz) (H' : Hp) : Prop where
  fr : ∀ a, F a → F' a
  kp : ∀ a o, H a = some o → H' a = some o
  nw : ∀ a, F' a → F a ∨ H a = none
  ok : ∀ a, F' a → H' a ≠ none
theorem Gro.refl (h : ∀ a, F a → H a ≠ none) : Gro F H F H := ⟨fun _ h => h, fun _ _ h => h, fun _ h => .inl h, h⟩
theorem Gro.trans (x : Gro F H F1 H1) (y : Gro F1 H1 F2 H2) : Gro F H F2 H2 := by
  refine ⟨fun a h => y.fr a (x.fr a h), fun a o h => y.kp a o (x.kp a o h), fun a h => ?_, y.ok⟩
  rcases y.nw a h with z | z
  · exact x.nw a z
  · cases q : H a with
    | none => exact .inr rfl
    | some o =>
      rw [x.kp a o q] at z
      cases z
theorem Gro.step (g : Gro F H F1 H1) : Step σ e F H σ e F1 H1 := ⟨g.fr, fun a o h _ => g.kp a o h, fun a h => (g.nw a h).imp id .inl, fun a h => .inl h⟩
theorem Abs.gro (A : Abs K F H σ e) (g : Gro F H F1 H1) : Abs K F1 H1 σ e where
  len := A.len
  val := fun i d h => by
    obtain ⟨v, h1, h2⟩ := A.val i d h
    exact ⟨v, h1, h2.mono g.fr fun a o _ q => g.kp a o q⟩
  own := fun i xs h => by
    obtain ⟨a, vs, h1, h2, h3, h4⟩ := A.own i xs h
    refine ⟨a, vs, h1, g.kp _ _ h2, h3.mono g.fr fun a o _ q => g.kp a o q, fun z => ?_⟩
    rcases g.nw a z with q | q
    · exact h4 q
    · rw [h2] at q; cases q
  dis := A.dis
  fok := g.ok
theorem Gro.rp {v : V} {d : D} (g : Gro F H F1 H1) (r : Rp K F H v d) : Rp K F1 H1 v d := r.mono g.fr fun a o _ q => g.kp a o q
theorem Gro.rps {v : List V} {d : List D} (g : Gro F H F1 H1) (r : Rps K F H v d) : Rps K F1 H1 v d := r.mono g.fr fun a o _ q => g.kp a o q
/-- a new object that never changes -/
theorem Gro.new {p : Addr} {o : HO} (hf : ∀ a, F a → H a ≠ none) (h : H p = none) : Gro F H (fun a => F a ∨ a = p) (upd H p o) where
  fr := fun a h => .inl h
  kp := fun a u q => by rw [upd_ne (ne_of_none q h)]; exact q
  nw := fun a q => by
    rcases q with q | rfl
    · exact .inl q
    · exact .inr h
  ok := fun a q => by
    rcases q with q | rfl
    · by_cases e : a = p
      · rw [e, upd_same]; simp
      · rw [upd_ne e]; exact hf a q
    · rw [upd_same]; simp
theorem Rp.newT {p : Addr} {vs : List V} {ds : List D} (h : H p = none) (r : Rps K F H vs ds) : Rp K (fun a => F a ∨ a = p) (upd H p (.tup vs)) (.ref p) (.tuple ds) :=
  .tup (.inl ⟨.inr rfl, .inl upd_same⟩) (r.mono (fun _ f => .inl f) fun a o _ q => by rw [upd_ne (ne_of_none q h)]; exact q)
theorem Rp.newL {p : Addr} {vs : List V} {ds : List D} (h : H p = none) (r : Rps K F H vs ds) : Rp K (fun a => F a ∨ a = p) (upd H p (.lst vs)) (.ref p) (.list ds) :=
  .lst (.inl ⟨.inr rfl, .inl upd_same⟩) (r.mono (fun _ f => .inl f) fun a o _ q => by rw [upd_ne (ne_of_none q h)]; exact q)
end
end Dn

/-! Dn, part B: runs of meanings; expressions, operands, tests -/
namespace Dn
open PySem PySem.Spec PyProof.Rows L2
abbrev Sg := L2.St

def Res.bind {α β : Type} (r : Res α) (f : α → En → Res β) : Res β := match r with
  | .ok a e => f a e
  | .exc x e => .exc x e
  | .bad => .bad
def lift {α : Type} (o : Option α) (e : En) : Res α := match o with
  | some a => .ok a e
  | none => .bad

/-- how an exception lies -/
def XR (tx : Tx) (F : Fz) (H : Hp) (x : Exn) (cls : Value) (d : Option Addr) : Prop :=
  cls = tx.cl x.c ∧ match x.p with
    | none => True
    | some (f, p) => ∃ dd v, d = some dd ∧ H dd = some (.xd [(f, v)]) ∧ Rp tx.K F H v p

section
variable (tx : Tx) (W : WX)
def PoX (σ : Sg) (F : Fz) (H : Hp) (e : En) (x : Exn) (e' : En) : Prop :=
  ∀ cls dd F' H', Step σ e F H σ e' F' H' → Abs tx.K F' H' σ e' → XR tx F' H' x cls dd → W cls dd σ H'
def RunAt {α : Type} (r : Res α) (σ : Sg) (F : Fz) (H : Hp) (e : En) (k : α → Fz → Hp → En → Prop) : Prop :=
  match r with
  | .ok a e' => ∀ F' H', Step σ e F H σ e' F' H' → Abs tx.K F' H' σ e' → k a F' H' e'
  | .exc x e' => PoX tx W σ F H e x e'
  | .bad => False
def Run {α : Type} (m : En → Res α) (σ : Sg) (H : Hp) (k : En → α → Fz → Hp → En → Prop) : Prop :=
  ∃ F e, Abs tx.K F H σ e ∧ RunAt tx W (m e) σ F H e (k e)
/-- an expression whose value is plain -/
def TEx (m : En → Res D) : TE := fun σ H Q => Run tx W m σ H fun _ d F' H' _ => ∀ v, Rp tx.K F' H' v d → Q v H'
/-- .. whose value is a new list (or one's own), that may be changed -/
def TFx (m : En → Res (List D)) : TE := fun σ H Q => Run tx W m σ H fun e xs F' H' e' =>
  ∀ a vs, H' a = some (.lst vs) → Rps tx.K F' H' vs xs → ¬ F' a → ¬ OwnA σ e' a → (H a = none ∨ OwnA σ e a) → Q (.ref a) H'
/-- a test -/
def TTx (m : En → Res Bool) : TT := fun σ H Q => Run tx W m σ H fun _ b _ H' _ => Q b H'
end

section
variable {tx : Tx} {W : WX} {σ : Sg} {F F1 : Fz} {H H1 : Hp} {e e1 : En}
theorem PoX.back {x : Exn} {e' : En} (s : Step σ e F H σ e1 F1 H1) (h : PoX tx W σ F H e x e') : PoX tx W σ F1 H1 e1 x e' :=
  fun cls dd F' H' s' A r => h cls dd F' H' (s.trans s') A r
theorem RunAt.mono {α : Type} {r : Res α} {k k' : α → Fz → Hp → En → Prop} (h : RunAt tx W r σ F H e k) (hk : ∀ a F' H' e', Step σ e F H σ e' F' H' → Abs tx.K F' H' σ e' → k a F' H' e' → k' a F' H' e') : RunAt tx W r σ F H e k' := by
  cases r with
  | ok a e' => exact fun F' H' s A => hk a F' H' e' s A (h F' H' s A)
  | exc x e' => exact h
  | bad => exact h
/-- one meaning behind another -/
theorem RunAt.seq {α β : Type} {r : Res α} {g : α → En → Res β} {k : β → Fz → Hp → En → Prop} (h : RunAt tx W (r.bind g) σ F H e k) :
    RunAt tx W r σ F H e fun a F1 H1 e1 => RunAt tx W (g a e1) σ F1 H1 e1 k := by
  cases r with
  | ok a e' =>
    intro F' H' s A
    have h : RunAt tx W (g a e') σ F H e k := h
    show RunAt tx W (g a e') σ F' H' e' k
    cases q : g a e' with
    | ok b e2 =>
      rw [q] at h
      exact fun F2 H2 s2 A2 => h F2 H2 (s.trans s2) A2
    | exc x e2 =>
      rw [q] at h
      exact PoX.back s h
    | bad =>
      rw [q] at h
      exact h
  | exc x e' => exact h
  | bad => exact h
/-- an outcome that is there at once -/
theorem RunAt.now {α : Type} {o : Option α} {k : α → Fz → Hp → En → Prop} (h : RunAt tx W (lift o e) σ F H e k) : ∃ a, o = some a ∧ ∀ F' H', Step σ e F H σ e F' H' → Abs tx.K F' H' σ e → k a F' H' e := by
  cases o with
  | some a => exact ⟨a, rfl, h⟩
  | none => exact h.elim
end

/-! ### operands -/
/-- an operand: a meaning, or a name (read where it is used) -/
inductive Op where
  | p (m : En → Res D)
  | o (i : Nat)
abbrev Slot := Sum D Nat
def evP : List Op → En → Res (List Slot)
  | [], e => .ok [] e
  | .o i :: r, e => match e[i]? with
    | some (some _) => (evP r e).bind fun l e' => .ok (.inr i :: l) e'
    | _ => .bad
  | .p m :: r, e => (m e).bind fun d e1 => (evP r e1).bind fun l e2 => .ok (.inl d :: l) e2
/-- what a slot is read as -/
def rdS (e : En) (i : Nat) : Option D := match e[i]? with
  | some (some (.val d)) => some d
  | some (some (.own xs)) => some (.list xs)
  | _ => none
def fillL (e : En) : List Slot → Option (List D)
  | [] => some []
  | .inl d :: r => (fillL e r).map (d :: ·)
  | .inr i :: r => (rdS e i).bind fun d => (fillL e r).map (d :: ·)
def evL (c : List Op) (e : En) : Res (List D) := (evP c e).bind fun l e' => lift (fillL e' l) e'
/-- the operands, then a plain function of theirs -/
def mOp (f : List D → Option D) (c : List Op) (e : En) : Res D := (evL c e).bind fun ds e' => lift (f ds) e'
def mOpL (f : List D → Option (List D)) (c : List Op) (e : En) : Res (List D) := (evL c e).bind fun ds e' => lift (f ds) e'
def mOpB (f : List D → Option Bool) (c : List Op) (e : En) : Res Bool := (evL c e).bind fun ds e' => lift (f ds) e'

section
variable (tx : Tx) (W : WX)
def teO : Op → TE
  | .p m => TEx tx W m
  | .o i => tVar i
def tL : List Op → TA
  | [] => tNil
  | c :: r => tCons (teO tx W c) (tL r)
end
def ArgV (K : PySem.W.Frag) (F : Fz) (H : Hp) (σ : Sg) : List V → List Slot → Prop
  | [], [] => True
  | v :: vs, .inl d :: r => Rp K F H v d ∧ ArgV K F H σ vs r
  | v :: vs, .inr i :: r => σ[i]? = some (some v) ∧ ArgV K F H σ vs r
  | _, _ => False
def Pks (K : PySem.W.Frag) (F : Fz) (H : Hp) : List V → List D → Prop
  | [], [] => True
  | v :: vs, d :: ds => Pk K F H v d ∧ Pks K F H vs ds
  | _, _ => False

section
variable {tx : Tx} {W : WX} {σ : Sg} {F F1 : Fz} {H H1 : Hp} {e e1 : En} {K : PySem.W.Frag}
theorem Abs.slot (A : Abs K F H σ e) {i : Nat} {s : Sl} (h : e[i]? = some (some s)) : ∃ v, σ[i]? = some (some v) := by
  cases s with
  | val d => obtain ⟨v, h1, _⟩ := A.val i d h; exact ⟨v, h1⟩
  | own xs => obtain ⟨a, vs, h1, _⟩ := A.own i xs h; exact ⟨_, h1⟩
theorem args_run : ∀ (c : List Op) {F : Fz} {H : Hp} {e : En} {k : List V → Hp → Prop}, Abs tx.K F H σ e →
    RunAt tx W (evP c e) σ F H e (fun l F' H' _ => ∀ vs, ArgV tx.K F' H' σ vs l → k vs H') → tL tx W c σ H k
  | [], F, H, e, k, A, h => h F H Step.refl A [] True.intro
  | .o i :: r, F, H, e, k, A, h => by
    unfold evP at h
    cases q : e[i]? with
    | none => rw [q] at h; exact h.elim
    | some s =>
      cases s with
      | none => rw [q] at h; exact h.elim
      | some s =>
        rw [q] at h
        obtain ⟨v, hv⟩ := A.slot q
        refine ⟨v, hv, ?_⟩
        refine args_run r A (k := fun xs H2 => k (v :: xs) H2) ?_
        refine (RunAt.seq h).mono fun l F' H' e' s' A' q' vs ha => ?_
        exact q' F' H' Step.refl A' (v :: vs) ⟨hv, ha⟩
  | .p m :: r, F, H, e, k, A, h => by
    unfold evP at h
    refine ⟨F, e, A, (RunAt.seq h).mono fun d F1 H1 e1 s1 A1 h1 v rv => ?_⟩
    refine args_run r A1 (k := fun xs H2 => k (v :: xs) H2) ?_
    refine (RunAt.seq h1).mono fun l F' H' e' s' A' q' vs ha => ?_
    exact q' F' H' Step.refl A' (v :: vs) ⟨A1.rp s' rv, ha⟩
theorem Abs.rd (A : Abs K F H σ e) {i : Nat} {d : D} {v : V} (h : rdS e i = some d) (hv : σ[i]? = some (some v)) : Pk K F H v d := by
  unfold rdS at h
  split at h
  · rename_i d' q
    cases h
    obtain ⟨v', h1, h2⟩ := A.val i d q
    rw [hv] at h1
    cases h1
    exact .inl h2
  · rename_i xs q
    cases h
    obtain ⟨a, vs, h1, h2, h3, _⟩ := A.own i xs q
    rw [hv] at h1
    cases h1
    exact .inr ⟨a, vs, xs, rfl, rfl, h2, h3⟩
  · cases h
theorem fill_pk (A : Abs K F H σ e) : ∀ {l : List Slot} {vs : List V} {ds : List D}, ArgV K F H σ vs l → fillL e l = some ds → Pks K F H vs ds
  | [], [], ds, _, h => by cases h; exact True.intro
  | .inl d :: r, v :: vs, ds, ha, h => by
    obtain ⟨ds', h1, rfl⟩ := Option.map_eq_some_iff.mp (show (fillL e r).map (d :: ·) = some ds from h)
    exact ⟨.inl ha.1, fill_pk A ha.2 h1⟩
  | .inr i :: r, v :: vs, ds, ha, h => by
    obtain ⟨d, h1, h2⟩ := Option.bind_eq_some_iff.mp (show ((rdS e i).bind fun d => (fillL e r).map (d :: ·)) = some ds from h)
    obtain ⟨ds', h3, rfl⟩ := Option.map_eq_some_iff.mp h2
    exact ⟨A.rd h1 ha.1, fill_pk A ha.2 h3⟩
  | [], _ :: _, _, ha, _ => ha.elim
  | .inl _ :: _, [], _, ha, _ => ha.elim
  | .inr _ :: _, [], _, ha, _ => ha.elim
/-- a rule by values meets a plain function -/
def VL (tx : Tx) (r : List V → Hp → VK → Prop) (f : List D → Option D) : Prop :=
  ∀ F H vs ds d Q, (∀ a, F a → H a ≠ none) → Pks tx.K F H vs ds → f ds = some d → (∀ v F' H', Gro F H F' H' → Rp tx.K F' H' v d → Q v H') → r vs H Q
/-- .. whose value is a new list -/
def VF (tx : Tx) (r : List V → Hp → VK → Prop) (f : List D → Option (List D)) : Prop :=
  ∀ F H vs ds xs Q, (∀ a, F a → H a ≠ none) → Pks tx.K F H vs ds → f ds = some xs → (∀ a ws, H a = none → Rps tx.K F H ws xs → Q (.ref a) (upd H a (.lst ws))) → r vs H Q
def VB (tx : Tx) (r : List V → Hp → VK → Prop) (f : List D → Option Bool) : Prop :=
  ∀ F H vs ds b Q, (∀ a, F a → H a ≠ none) → Pks tx.K F H vs ds → f ds = some b → (∀ H', Gro F H F H' → Q (.bl b) H') → r vs H Q
theorem ops_run {c : List Op} {f : List D → Option D} {r : List V → Hp → VK → Prop} {Q : VK} (hv : VL tx r f) (h : TEx tx W (mOp f c) σ H Q) : tL tx W c σ H fun vs H1 => r vs H1 Q := by
  obtain ⟨F, e, A, h⟩ := h
  refine args_run c A ((RunAt.seq (RunAt.seq h)).mono fun l F1 H1 e1 s1 A1 h1 vs ha => ?_)
  obtain ⟨ds, hds, h2⟩ := RunAt.now h1
  obtain ⟨d, hd, h3⟩ := RunAt.now (h2 F1 H1 Step.refl A1)
  exact hv F1 H1 vs ds d Q A1.fok (fill_pk A1 ha hds) hd fun v F' H' g rv => h3 F' H' g.step (A1.gro g) v rv
theorem opsB_run {c : List Op} {f : List D → Option Bool} {r : List V → Hp → VK → Prop} {Q : Bool → Hp → Prop} (hv : VB tx r f) (h : TTx tx W (mOpB f c) σ H Q) : tL tx W c σ H fun vs H1 => r vs H1 fun x H' => ∃ k, x = .bl k ∧ Q k H' := by
  obtain ⟨F, e, A, h⟩ := h
  refine args_run c A ((RunAt.seq (RunAt.seq h)).mono fun l F1 H1 e1 s1 A1 h1 vs ha => ?_)
  obtain ⟨ds, hds, h2⟩ := RunAt.now h1
  obtain ⟨d, hd, h3⟩ := RunAt.now (h2 F1 H1 Step.refl A1)
  exact hv F1 H1 vs ds d _ A1.fok (fill_pk A1 ha hds) hd fun H' g => ⟨d, rfl, h3 F1 H' g.step (A1.gro g)⟩
/-- a list put onto the heap, not told as plain -/
theorem Abs.lay {a : Addr} {ws : List V} (A : Abs K F H σ e) (n : H a = none) : Abs K F (upd H a (.lst ws)) σ e ∧ Step σ e F H σ e F (upd H a (.lst ws)) ∧ ¬ F a ∧ ¬ OwnA σ e a := by
  have nF : ¬ F a := fun z => A.fok a z n
  have nO : ¬ OwnA σ e a := fun z => A.ownT z n
  have kp : ∀ b o, H b = some o → upd H a (.lst ws) b = some o := fun b o q => by rw [upd_ne (ne_of_none q n)]; exact q
  refine ⟨⟨A.len, fun i d h => ?_, fun i xs h => ?_, A.dis, fun b f => ?_⟩, ⟨fun _ f => f, fun b o q _ => kp b o q, fun _ f => .inl f, fun _ f => .inl f⟩, nF, nO⟩
  · obtain ⟨v, h1, h2⟩ := A.val i d h
    exact ⟨v, h1, h2.mono (fun _ f => f) fun b o _ q => kp b o q⟩
  · obtain ⟨b, vs, h1, h2, h3, h4⟩ := A.own i xs h
    exact ⟨b, vs, h1, kp _ _ h2, h3.mono (fun _ f => f) fun b o _ q => kp b o q, h4⟩
  · cases q : H b with
    | none => exact absurd q (A.fok b f)
    | some o => rw [kp b o q]; simp
theorem opsF_run {c : List Op} {f : List D → Option (List D)} {r : List V → Hp → VK → Prop} {Q : VK} (hv : VF tx r f) (h : TFx tx W (mOpL f c) σ H Q) : tL tx W c σ H fun vs H1 => r vs H1 Q := by
  obtain ⟨F, e, A, h⟩ := h
  refine args_run c A ((RunAt.seq (RunAt.seq h)).mono fun l F1 H1 e1 s1 A1 h1 vs ha => ?_)
  obtain ⟨ds, hds, h2⟩ := RunAt.now h1
  obtain ⟨xs, hd, h3⟩ := RunAt.now (h2 F1 H1 Step.refl A1)
  refine hv F1 H1 vs ds xs Q A1.fok (fill_pk A1 ha hds) hd fun a ws n rv => ?_
  obtain ⟨A2, s2, nF, nO⟩ := A1.lay (ws := ws) n
  have back : H a = none ∨ OwnA σ e a := by
    by_cases o : OwnA σ e a
    · exact .inr o
    · cases q : H a with
      | none => exact .inl rfl
      | some u => rw [s1.kp a u q o] at n; cases n
  exact h3 F1 _ s2 A2 a ws upd_same (rv.mono (fun _ f => f) fun b o _ q => by rw [upd_ne (ne_of_none q n)]; exact q) nF nO back
/-- a new list is plain from now on -/
def mPl (m : En → Res (List D)) (e : En) : Res D := (m e).bind fun xs e' => .ok (.list xs) e'
theorem Abs.freeze {a : Addr} {vs : List V} (A : Abs K F H σ e) (ha : H a = some (.lst vs)) (nO : ¬ OwnA σ e a) : Abs K (fun b => F b ∨ b = a) H σ e where
  len := A.len
  val := fun i d h => by
    obtain ⟨v, h1, h2⟩ := A.val i d h
    exact ⟨v, h1, h2.mono (fun _ f => .inl f) fun b o _ q => q⟩
  own := fun i xs h => by
    obtain ⟨b, vs, h1, h2, h3, h4⟩ := A.own i xs h
    refine ⟨b, vs, h1, h2, h3.mono (fun _ f => .inl f) fun b o _ q => q, fun z => ?_⟩
    rcases z with z | z
    · exact h4 z
    · exact nO ⟨i, xs, h, by rw [← z]; exact h1⟩
  dis := A.dis
  fok := fun b f => by
    rcases f with f | rfl
    · exact A.fok b f
    · rw [ha]; simp
theorem plain_of {m : En → Res (List D)} {Q : VK} (h : TEx tx W (mPl m) σ H Q) : TFx tx W m σ H Q := by
  obtain ⟨F, e, A, h⟩ := h
  refine ⟨F, e, A, ?_⟩
  unfold mPl at h
  cases q : m e with
  | ok xs e' =>
    rw [q] at h
    have h : ∀ F' H', Step σ e F H σ e' F' H' → Abs tx.K F' H' σ e' → ∀ v, Rp tx.K F' H' v (.list xs) → Q v H' := h
    intro F' H' s' A' a vs ha rv nF nO bk
    refine h (fun b => F' b ∨ b = a) H' ⟨fun b f => .inl (s'.fr b f), s'.kp, fun b f => ?_, s'.ow⟩ (A'.freeze ha nO) _ (.lst (.inl ⟨.inr rfl, .inl ha⟩) (rv.mono (fun _ f => .inl f) fun b o _ q => q))
    rcases f with f | rfl
    · exact s'.nw b f
    · exact .inr bk
  | exc x e' => rw [q] at h; exact h
  | bad => rw [q] at h; exact h
end
end Dn

/-! Dn, part C: the plain functions behind operators and built-ins -/
namespace Dn
open PySem PySem.Spec PyProof.Rows L2

def r2L (r : R2) : List V → Hp → VK → Prop := fun vs H Q => match vs with
  | [x, y] => r x y H Q
  | _ => False
def r1L (r : V → Hp → VK → Prop) : List V → Hp → VK → Prop := fun vs H Q => match vs with
  | [x] => r x H Q
  | _ => False
section
variable {K : PySem.W.Frag} {F : Fz} {H : Hp}
theorem Pks.one {vs : List V} {d : D} (h : Pks K F H vs [d]) : ∃ x, vs = [x] ∧ Pk K F H x d := by
  match vs, h with
  | [x], h => exact ⟨x, rfl, h.1⟩
  | _ :: _ :: _, h => exact h.2.elim
theorem Pks.two {vs : List V} {d e : D} (h : Pks K F H vs [d, e]) : ∃ x y, vs = [x, y] ∧ Pk K F H x d ∧ Pk K F H y e := by
  match vs, h with
  | [x, y], h => exact ⟨x, y, rfl, h.1, h.2.1⟩
  | [_], h => exact h.2.elim
  | _ :: _ :: _ :: _, h => exact h.2.2.elim
theorem Pks.zero {vs : List V} (h : Pks K F H vs []) : vs = [] := by
  match vs, h with
  | [], _ => rfl
  | _ :: _, h => exact h.elim
end

/-! ### operators -/
def fAdd : List D → Option D
  | [.int i, .int j] => some (.int (i + j))
  | [.str a, .str b] => if a.length + b.length ≤ sizeLine then some (.str (a ++ b)) else none
  | [.list xs, .list ys] => if xs.length + ys.length ≤ sizeLine then some (.list (xs ++ ys)) else none
  | [.tuple xs, .tuple ys] => if xs.length + ys.length ≤ sizeLine then some (.tuple (xs ++ ys)) else none
  | _ => none
def fSub : List D → Option D
  | [.int i, .int j] => some (.int (i - j))
  | _ => none
instance (i j : Int) : Decidable (CMul i j) := by unfold CMul; exact inferInstance
instance (i j : Int) : Decidable (CDiv i j) := by unfold CDiv; exact inferInstance
instance (i j : Int) : Decidable (CPow i j) := by unfold CPow; exact inferInstance
def fMul : List D → Option D
  | [.int i, .int j] => if CMul i j then some (.int (i * j)) else none
  | _ => none
def fFDiv : List D → Option D
  | [.int i, .int j] => if CDiv i j then some (.int (i / j)) else none
  | _ => none
def fMod : List D → Option D
  | [.int i, .int j] => if 0 < j then some (.int (i % j)) else none
  | _ => none
def fPow : List D → Option D
  | [.int i, .int j] => if CPow i j then some (.int (i ^ j.toNat)) else none
  | _ => none
def fNeg : List D → Option D
  | [.int i] => some (.int (-i))
  | _ => none

section
variable {X : Cx}
/-- list + list, whatever bears them -/
def rCatL (K : PySem.W.Frag) : R2 := fun x y H Q => ∃ l b xs zs, x = .ref l ∧ y = .ref b ∧ SqL K H l xs ∧ SqL K H b zs ∧ xs.length + zs.length ≤ sizeLine ∧ ∀ p, H p = none → Q (.ref p) (upd H p (.lst (xs ++ zs)))
theorem op_catL : OpR X (binaryOp .Add) (rCatL X.K) := by
  intro pins s σ H x y v u Q I rx ry h
  obtain ⟨l, b, xs, zs, rfl, rfl, hH, hB, hz, q⟩ := h
  cases rx
  cases ry
  obtain ⟨its, r, ⟨⟨cls, dd, data, sl⟩, n, e, hc, hd, hdt⟩, hl⟩ := I.list hH
  obtain ⟨its2, r2, ⟨⟨cls2, dd2, data2, sl2⟩, n2, e2, hc2, hd2, hdt2⟩, hl2⟩ := I.list hB
  simp only at hc hd hdt hc2 hd2 hdt2
  subst hc hd hdt hc2 hd2 hdt2
  refine concat_meets ⟨_, e, rfl⟩ ⟨_, e2, rfl⟩ noFill_list_add seq_list_add PySem.F.slot_list_add PySem.F.entry_list_add (PySem.F.args_list_add_2 _ _) (list_addW l b its.toArray its2.toArray n n2 none none sl sl2 (by rw [List.size_toArray, List.size_toArray, ← r.length, ← r2.length]; exact hz)) ⟨e, e2, ?_⟩
  have ea : its.toArray ++ its2.toArray = (its ++ its2).toArray := by simp
  rw [ea]
  exact ⟨.ref _, _, I.lnew (t' := s.toks) (r.append r2) (by rw [List.length_append]; omega), rfl, q _ I.fresh⟩
def rCatU (K : PySem.W.Frag) : R2 := fun x y H Q => ∃ a b xs ys, x = .ref a ∧ y = .ref b ∧ SqT K H a xs ∧ SqT K H b ys ∧ xs.length + ys.length ≤ sizeLine ∧
  (xs = [] → Q (.ref b) H) ∧ (xs ≠ [] → ys = [] → Q (.ref a) H) ∧ (∀ p, H p = none → Q (.ref p) (upd H p (.tup (xs ++ ys))))
theorem op_catU : OpR X (binaryOp .Add) (rCatU X.K) := by
  intro pins s σ H x y v u Q I rx ry h
  obtain ⟨l, b, xs, zs, rfl, rfl, hH, hB, hz, q0, q1, q2⟩ := h
  cases rx
  cases ry
  obtain ⟨its, r, ⟨⟨cls, dd, data, sl⟩, e, hc, n, hdt⟩, hl⟩ := I.tuple hH
  obtain ⟨its2, r2, ⟨⟨cls2, dd2, data2, sl2⟩, e2, hc2, n2, hdt2⟩, hl2⟩ := I.tuple hB
  simp only at hc hdt hc2 hdt2
  subst hc hdt hc2 hdt2
  by_cases hv : its = []
  · refine concat_meets ⟨_, e, rfl⟩ ⟨_, e2, rfl⟩ noFill_tuple_add seq_tuple_add PySem.F.slot_tuple_add PySem.F.entry_tuple_add (PySem.F.args_tuple_add_2 _ _) (tuple_addW0 l b its.toArray its2.toArray n n2 dd dd2 sl sl2 (by simp [hv])) ⟨e, e2, ?_⟩
    exact ⟨.ref _, _, I, rfl, q0 (r.nil_iff.mp hv)⟩
  · by_cases hw : its2 = []
    · refine concat_meets ⟨_, e, rfl⟩ ⟨_, e2, rfl⟩ noFill_tuple_add seq_tuple_add PySem.F.slot_tuple_add PySem.F.entry_tuple_add (PySem.F.args_tuple_add_2 _ _) (tuple_addW1 l b its.toArray its2.toArray n n2 dd dd2 sl sl2 (by simpa using hv) (by simp [hw])) ⟨e, e2, ?_⟩
      exact ⟨.ref _, _, I, rfl, q1 (fun z => hv (r.nil_iff.mpr z)) (r2.nil_iff.mp hw)⟩
    · refine concat_meets ⟨_, e, rfl⟩ ⟨_, e2, rfl⟩ noFill_tuple_add seq_tuple_add PySem.F.slot_tuple_add PySem.F.entry_tuple_add (PySem.F.args_tuple_add_2 _ _) (tuple_addW2 l b its.toArray its2.toArray n n2 dd dd2 sl sl2 (by simpa using hv) (by simpa using hw) (by rw [List.size_toArray, List.size_toArray, ← r.length, ← r2.length]; exact hz)) ⟨e, e2, ?_⟩
      have ea : its.toArray ++ its2.toArray = (its ++ its2).toArray := by simp
      rw [ea]
      refine ⟨.ref _, _, I.laid (a := s.heap.objs.size) (o := .tup (xs ++ zs)) (t' := s.toks) (fun _ _ q => Heap.get?_push_of_some _ q) (Nat.le_refl _) ⟨by rw [List.length_append]; omega, its ++ its2, r.append r2, ?_⟩, rfl, q2 _ I.fresh⟩
      exact ⟨_, Heap.get?_push_size _ rfl, rfl, 0, rfl⟩
def rAdd : Cx → R2 := fun X x y H Q => rI0 (fun i j => .int (i + j)) x y H Q ∨ (∃ i j, x = .str i ∧ y = .str j ∧ i.length + j.length ≤ sizeLine ∧ Q (.str (i ++ j)) H) ∨ rCatL X.K x y H Q ∨ rCatU X.K x y H Q
theorem op_addD : OpR X (binaryOp .Add) (rAdd X) := op_add.or (op_add_str.or (op_catL.or op_catU))
end

section
variable {tx : Tx} {X : Cx}
theorem vl_add (hK : X.K = tx.K) : VL tx (r2L (rAdd X)) fAdd := by
  intro F H vs ds d Q hf h e q
  unfold fAdd at e
  split at e
  · cases e
    obtain ⟨x, y, rfl, h1, h2⟩ := h.two
    rw [h1.int, h2.int]
    exact .inl ⟨_, _, rfl, rfl, q _ F H (Gro.refl hf) (.int _)⟩
  · split at e
    · cases e
      rename_i hl
      obtain ⟨x, y, rfl, h1, h2⟩ := h.two
      rw [h1.str, h2.str]
      exact .inr (.inl ⟨_, _, rfl, rfl, hl, q _ F H (Gro.refl hf) (.str _)⟩)
    · cases e
  · split at e
    · cases e
      rename_i hl
      obtain ⟨x, y, rfl, h1, h2⟩ := h.two
      obtain ⟨a, vs, rfl, s1, r1⟩ := h1.lst
      obtain ⟨b, ws, rfl, s2, r2⟩ := h2.lst
      refine .inr (.inr (.inl ⟨a, b, vs, ws, rfl, rfl, by rw [hK]; exact s1, by rw [hK]; exact s2, by rw [r1.len, r2.len]; exact hl, fun p n => ?_⟩))
      exact q _ _ _ (Gro.new hf n) (Rp.newL n (r1.app r2))
    · cases e
  · split at e
    · cases e
      rename_i hl
      obtain ⟨x, y, rfl, h1, h2⟩ := h.two
      obtain ⟨a, vs, rfl, s1, r1⟩ := h1.tup
      obtain ⟨b, ws, rfl, s2, r2⟩ := h2.tup
      refine .inr (.inr (.inr ⟨a, b, vs, ws, rfl, rfl, by rw [hK]; exact s1.sq, by rw [hK]; exact s2.sq, by rw [r1.len, r2.len]; exact hl, fun z => ?_, fun _ z => ?_, fun p n => ?_⟩))
      · subst z
        cases r1
        exact q _ F H (Gro.refl hf) (.tup s2 r2)
      · subst z
        cases r2
        rw [List.append_nil] at q
        exact q _ F H (Gro.refl hf) (.tup s1 r1)
      · exact q _ _ _ (Gro.new hf n) (Rp.newT n (r1.app r2))
    · cases e
  · cases e
theorem vl_int2 {C : Int → Int → Prop} {g : Int → Int → Int} {f : List D → Option D} (hf : ∀ ds d, f ds = some d → ∃ i j, ds = [.int i, .int j] ∧ C i j ∧ d = .int (g i j)) : VL tx (r2L (rI C fun i j => .int (g i j))) f := by
  intro F H vs ds d Q hk h e q
  obtain ⟨i, j, rfl, c, rfl⟩ := hf ds d e
  obtain ⟨x, y, rfl, h1, h2⟩ := h.two
  rw [h1.int, h2.int]
  exact ⟨i, j, rfl, rfl, c, q _ F H (Gro.refl hk) (.int _)⟩
theorem vl_sub : VL tx (r2L (rI0 fun i j => .int (i - j))) fSub := by
  intro F H vs ds d Q hk h e q
  unfold fSub at e
  split at e
  · cases e
    obtain ⟨x, y, rfl, h1, h2⟩ := h.two
    rw [h1.int, h2.int]
    exact ⟨_, _, rfl, rfl, q _ F H (Gro.refl hk) (.int _)⟩
  · cases e
theorem vl_mul : VL tx (r2L (rI CMul fun i j => .int (i * j))) fMul := vl_int2 fun ds d e => by
  unfold fMul at e
  split at e
  · split at e
    · cases e; exact ⟨_, _, rfl, by assumption, rfl⟩
    · cases e
  · cases e
theorem vl_fdiv : VL tx (r2L (rI CDiv fun i j => .int (i / j))) fFDiv := vl_int2 fun ds d e => by
  unfold fFDiv at e
  split at e
  · split at e
    · cases e; exact ⟨_, _, rfl, by assumption, rfl⟩
    · cases e
  · cases e
theorem vl_mod : VL tx (r2L (rI (fun _ j => 0 < j) fun i j => .int (i % j))) fMod := vl_int2 fun ds d e => by
  unfold fMod at e
  split at e
  · split at e
    · cases e; exact ⟨_, _, rfl, by assumption, rfl⟩
    · cases e
  · cases e
theorem vl_pow : VL tx (r2L (rI CPow fun i j => .int (i ^ j.toNat))) fPow := vl_int2 fun ds d e => by
  unfold fPow at e
  split at e
  · split at e
    · cases e; exact ⟨_, _, rfl, by assumption, rfl⟩
    · cases e
  · cases e
theorem vl_neg : VL tx (r1L (rU fun i => .int (-i))) fNeg := by
  intro F H vs ds d Q hk h e q
  unfold fNeg at e
  split at e
  · cases e
    obtain ⟨x, rfl, h1⟩ := h.one
    rw [h1.int]
    exact ⟨_, rfl, q _ F H (Gro.refl hk) (.int _)⟩
  · cases e
end

/-! ### comparisons -/
def fEq : List D → Option Bool
  | [a, b] => if SeqAt.shaped a = true ∧ SeqAt.shaped b = true then some (PyData.eqv a b) else none
  | _ => none
def fNe : List D → Option Bool
  | [a, b] => if SeqAt.shaped a = true ∧ SeqAt.shaped b = true then some (!PyData.eqv a b) else none
  | _ => none
/-- what is compared by < -/
def fLt : List D → Option Bool
  | [.int i, .int j] => some (decide (i < j))
  | [.str a, .str b] => some (decide (a.cps.toList < b.cps.toList))
  | [.tuple [.int a, .int b], .tuple [.int c, .int d]] => some (HT.lexLt [a, b] [c, d])
  | _ => none
def fLe : List D → Option Bool
  | [.int i, .int j] => some (decide (i ≤ j))
  | _ => none
def fGt : List D → Option Bool
  | [.int i, .int j] => some (decide (j < i))
  | _ => none
def fGe : List D → Option Bool
  | [.int i, .int j] => some (decide (j ≤ i))
  | _ => none
def bV (f : List D → Option Bool) (ds : List D) : Option D := (f ds).map .bool
section
variable {tx : Tx} {X : Cx}
theorem VB.vl {r : List V → Hp → VK → Prop} {f : List D → Option Bool} (h : VB tx r f) : VL tx r (bV f) := by
  intro F H vs ds d Q hk hp e q
  obtain ⟨b, h1, rfl⟩ := Option.map_eq_some_iff.mp e
  exact h F H vs ds b Q hk hp h1 fun H' g => q _ F H' g (.bl b)
theorem vb_eq (hK : X.K = tx.K) : VB tx (r2L (rEqD X.K)) fEq := by
  intro F H vs ds b Q hk h e q
  unfold fEq at e
  split at e
  · split at e
    · rename_i hs
      cases e
      obtain ⟨x, y, rfl, h1, h2⟩ := h.two
      exact ⟨_, _, by rw [hK]; exact h1.dp, by rw [hK]; exact h2.dp, hs.1, hs.2, q H (Gro.refl hk)⟩
    · cases e
  · cases e
theorem vb_ne (hK : X.K = tx.K) : VB tx (r2L (rNeD X.K)) fNe := by
  intro F H vs ds b Q hk h e q
  unfold fNe at e
  split at e
  · split at e
    · rename_i hs
      cases e
      obtain ⟨x, y, rfl, h1, h2⟩ := h.two
      exact ⟨_, _, by rw [hK]; exact h1.dp, by rw [hK]; exact h2.dp, hs.1, hs.2, q H (Gro.refl hk)⟩
    · cases e
  · cases e
def rLt (X : Cx) : R2 := fun x y H Q => rI0 (fun i j => .bl (decide (i < j))) x y H Q ∨ (∃ i j, x = .str i ∧ y = .str j ∧ Q (.bl (decide (i.cps.toList < j.cps.toList))) H) ∨ rLtT X.K x y H Q
theorem op_ltD (hu : X.A.units < cLine) : OpR X (compareOp .Lt) (rLt X) := op_lt.or (op_lt_str.or (op_ltT hu))
theorem vb_lt (hK : X.K = tx.K) : VB tx (r2L (rLt X)) fLt := by
  intro F H vs ds b Q hk h e q
  unfold fLt at e
  split at e
  · cases e
    obtain ⟨x, y, rfl, h1, h2⟩ := h.two
    rw [h1.int, h2.int]
    exact .inl ⟨_, _, rfl, rfl, q H (Gro.refl hk)⟩
  · cases e
    obtain ⟨x, y, rfl, h1, h2⟩ := h.two
    rw [h1.str, h2.str]
    exact .inr (.inl ⟨_, _, rfl, rfl, q H (Gro.refl hk)⟩)
  · cases e
    rename_i a b c d
    obtain ⟨x, y, rfl, h1, h2⟩ := h.two
    obtain ⟨p, vs, rfl, s1, r1⟩ := h1.tup
    obtain ⟨p', ws, rfl, s2, r2⟩ := h2.tup
    have e1 : vs = [a, b].map V.int := by cases r1 with | cons x y => cases x; cases y with | cons x y => cases x; cases y; rfl
    have e2 : ws = [c, d].map V.int := by cases r2 with | cons x y => cases x; cases y with | cons x y => cases x; cases y; rfl
    subst e1 e2
    exact .inr (.inr ⟨p, p', [a, b], [c, d], rfl, rfl, by rw [hK]; exact s1.sq, by rw [hK]; exact s2.sq, q H (Gro.refl hk)⟩)
  · cases e
theorem vb_le : VB tx (r2L (rI0 fun i j => .bl (decide (i ≤ j)))) fLe := by
  intro F H vs ds b Q hk h e q
  unfold fLe at e
  split at e
  · cases e
    obtain ⟨x, y, rfl, h1, h2⟩ := h.two
    rw [h1.int, h2.int]
    exact ⟨_, _, rfl, rfl, q H (Gro.refl hk)⟩
  · cases e
theorem vb_gt : VB tx (r2L (rI0 fun i j => .bl (decide (j < i)))) fGt := by
  intro F H vs ds b Q hk h e q
  unfold fGt at e
  split at e
  · cases e
    obtain ⟨x, y, rfl, h1, h2⟩ := h.two
    rw [h1.int, h2.int]
    exact ⟨_, _, rfl, rfl, q H (Gro.refl hk)⟩
  · cases e
theorem vb_ge : VB tx (r2L (rI0 fun i j => .bl (decide (j ≤ i)))) fGe := by
  intro F H vs ds b Q hk h e q
  unfold fGe at e
  split at e
  · cases e
    obtain ⟨x, y, rfl, h1, h2⟩ := h.two
    rw [h1.int, h2.int]
    exact ⟨_, _, rfl, rfl, q H (Gro.refl hk)⟩
  · cases e
end

/-! ### truth -/
def trD : D → Option Bool
  | .none => some false
  | .bool b => some b
  | .int i => some (i != 0)
  | .str y => if y.length ≤ sizeLine then some ((y.length : Int) != 0) else none
  | .list xs => some (!xs.isEmpty)
  | .tuple xs => some (!xs.isEmpty)
  | .dict _ => none
theorem emp_eq {K : PySem.W.Frag} {F : Fz} {H : Hp} {vs : List V} {ds : List D} (r : Rps K F H vs ds) : (!ds.isEmpty) = !vs.isEmpty := by
  cases r <;> rfl
theorem Rp.tru {K : PySem.W.Frag} {F : Fz} {H : Hp} {v : V} {d : D} {b : Bool} (r : Rp K F H v d) (e : trD d = some b) : TruV K v H b := by
  cases r with
  | non => cases e; rfl
  | bl b => cases e; rfl
  | int i => cases e; rfl
  | str x =>
    have e : (if x.length ≤ sizeLine then some ((x.length : Int) != 0) else none) = some b := e
    split at e
    · cases e; exact ⟨by assumption, rfl⟩
    · cases e
  | lst h r => cases e; exact .inl ⟨_, h.sq, emp_eq r⟩
  | tup h r => cases e; exact .inr (.inl ⟨_, h.sq, emp_eq r⟩)
theorem Pk.tru {K : PySem.W.Frag} {F : Fz} {H : Hp} {v : V} {d : D} {b : Bool} (h : Pk K F H v d) (e : trD d = some b) : TruV K v H b := by
  rcases h with h | ⟨a, vs, ds, rfl, rfl, h, r⟩
  · exact h.tru e
  · cases e; exact .inl ⟨_, .inl (.inl h), emp_eq r⟩

/-! ### built-ins -/
def fLen : List D → Option D
  | [.str y] => if y.length ≤ sizeLine then some (.int y.length) else none
  | [.list xs] => some (.int xs.length)
  | [.tuple xs] => some (.int xs.length)
  | _ => none
def fAbs : List D → Option D
  | [.int i] => some (.int (if i < 0 then -i else i))
  | _ => none
def fInt : List D → Option D
  | [.int i] => some (.int i)
  | [.bool b] => some (.int (if b then 1 else 0))
  | _ => none
def fDivmod : List D → Option D
  | [.int i, .int j] => if CDiv i j then some (.tuple [.int (i / j), .int (i % j)]) else none
  | _ => none
/-- the ints of a list of data -/
def intsD : List D → Option (List Int)
  | [] => some []
  | .int i :: r => (intsD r).map (i :: ·)
  | _ => none
theorem intsD_map : ∀ {ds : List D} {ns : List Int}, intsD ds = some ns → ds = ns.map PyData.int
  | [], ns, h => by cases h; rfl
  | .int i :: r, ns, h => by
    obtain ⟨ms, h1, rfl⟩ := Option.map_eq_some_iff.mp (show (intsD r).map (i :: ·) = some ns from h)
    rw [List.map_cons, ← intsD_map h1]
  | .none :: r, ns, h => by cases h
  | .bool _ :: r, ns, h => by cases h
  | .str _ :: r, ns, h => by cases h
  | .list _ :: r, ns, h => by cases h
  | .tuple _ :: r, ns, h => by cases h
  | .dict _ :: r, ns, h => by cases h
def boolsD : List D → Option (List Bool)
  | [] => some []
  | .bool i :: r => (boolsD r).map (i :: ·)
  | _ => none
theorem boolsD_map : ∀ {ds : List D} {ns : List Bool}, boolsD ds = some ns → ds = ns.map PyData.bool
  | [], ns, h => by cases h; rfl
  | .bool i :: r, ns, h => by
    obtain ⟨ms, h1, rfl⟩ := Option.map_eq_some_iff.mp (show (boolsD r).map (i :: ·) = some ns from h)
    rw [List.map_cons, ← boolsD_map h1]
  | .none :: r, ns, h => by cases h
  | .int _ :: r, ns, h => by cases h
  | .str _ :: r, ns, h => by cases h
  | .list _ :: r, ns, h => by cases h
  | .tuple _ :: r, ns, h => by cases h
  | .dict _ :: r, ns, h => by cases h
theorem Rps.intsV {K : PySem.W.Frag} {F : Fz} {H : Hp} : ∀ {ns : List Int} {vs : List V}, Rps K F H vs (ns.map PyData.int) → vs = ns.map V.int
  | [], vs, h => by cases h; rfl
  | n :: ns, vs, h => by
    have h : Rps K F H vs (.int n :: ns.map PyData.int) := h
    cases h with
    | cons h r => cases h; rw [r.intsV]; rfl
theorem Rps.boolsV {K : PySem.W.Frag} {F : Fz} {H : Hp} : ∀ {ns : List Bool} {vs : List V}, Rps K F H vs (ns.map PyData.bool) → vs = ns.map V.bl
  | [], vs, h => by cases h; rfl
  | n :: ns, vs, h => by
    have h : Rps K F H vs (.bool n :: ns.map PyData.bool) := h
    cases h with
    | cons h r => cases h; rw [r.boolsV]; rfl
def maxL : Int → List Int → Int
  | m, [] => m
  | m, x :: r => maxL (if x > m then x else m) r
def minL : Int → List Int → Int
  | m, [] => m
  | m, x :: r => minL (if x < m then x else m) r
theorem maxL_spec : ∀ (r : List Int) (m : Int), (maxL m r = m ∨ maxL m r ∈ r) ∧ m ≤ maxL m r ∧ ∀ y ∈ r, y ≤ maxL m r
  | [], m => ⟨.inl rfl, Int.le_refl _, fun _ h => nomatch h⟩
  | x :: r, m => by
    obtain ⟨h1, h2, h3⟩ := maxL_spec r (if x > m then x else m)
    show (maxL (if x > m then x else m) r = m ∨ maxL (if x > m then x else m) r ∈ x :: r) ∧ m ≤ maxL (if x > m then x else m) r ∧ ∀ y ∈ x :: r, y ≤ maxL (if x > m then x else m) r
    have hm : ((if x > m then x else m) = x ∨ (if x > m then x else m) = m) ∧ m ≤ (if x > m then x else m) ∧ x ≤ (if x > m then x else m) := by split <;> omega
    generalize (if x > m then x else m) = m' at *
    refine ⟨?_, by omega, fun y hy => ?_⟩
    · rcases h1 with h1 | h1
      · rcases hm.1 with q | q
        · exact .inr (by rw [h1, q]; exact List.mem_cons_self)
        · exact .inl (by rw [h1, q])
      · exact .inr (List.mem_cons_of_mem _ h1)
    · rcases List.mem_cons.mp hy with rfl | hy
      · omega
      · exact h3 y hy
theorem minL_spec : ∀ (r : List Int) (m : Int), (minL m r = m ∨ minL m r ∈ r) ∧ minL m r ≤ m ∧ ∀ y ∈ r, minL m r ≤ y
  | [], m => ⟨.inl rfl, Int.le_refl _, fun _ h => nomatch h⟩
  | x :: r, m => by
    obtain ⟨h1, h2, h3⟩ := minL_spec r (if x < m then x else m)
    show (minL (if x < m then x else m) r = m ∨ minL (if x < m then x else m) r ∈ x :: r) ∧ minL (if x < m then x else m) r ≤ m ∧ ∀ y ∈ x :: r, minL (if x < m then x else m) r ≤ y
    have hm : ((if x < m then x else m) = x ∨ (if x < m then x else m) = m) ∧ (if x < m then x else m) ≤ m ∧ (if x < m then x else m) ≤ x := by split <;> omega
    generalize (if x < m then x else m) = m' at *
    refine ⟨?_, by omega, fun y hy => ?_⟩
    · rcases h1 with h1 | h1
      · rcases hm.1 with q | q
        · exact .inr (by rw [h1, q]; exact List.mem_cons_self)
        · exact .inl (by rw [h1, q])
      · exact .inr (List.mem_cons_of_mem _ h1)
    · rcases List.mem_cons.mp hy with rfl | hy
      · omega
      · exact h3 y hy
def fMax : List D → Option D
  | [.int i, .int j] => some (.int (if j > i then j else i))
  | [.list xs] => match intsD xs with
    | some (m :: r) => some (.int (maxL m r))
    | _ => none
  | _ => none
def fMin : List D → Option D
  | [.int i, .int j] => some (.int (if j < i then j else i))
  | [.list xs] => match intsD xs with
    | some (m :: r) => some (.int (minL m r))
    | _ => none
  | _ => none
def fSum : List D → Option D
  | [.list xs] => (intsD xs).map fun ns => .int ns.sum
  | _ => none
def fAll : List D → Option Bool
  | [.list xs] => (boolsD xs).map fun bs => bs.all id
  | _ => none
def fAny : List D → Option Bool
  | [.list xs] => (boolsD xs).map fun bs => bs.any id
  | _ => none
def fTuple : List D → Option D
  | [.list xs] => some (.tuple xs)
  | [.tuple xs] => some (.tuple xs)
  | _ => none
def fListF : List D → Option (List D)
  | [.list xs] => some xs
  | [.tuple xs] => some xs
  | _ => none
def fGcd : List D → Option D
  | [.int a, .int b] => some (.int ((Nat.gcd a.natAbs b.natAbs : Nat) : Int))
  | _ => none
def fComb : List D → Option D
  | [.int a, .int b] => if 0 ≤ a ∧ 0 ≤ b ∧ a < 2 ^ 64 ∧ b ≤ 9000 then some (.int (PySem.W.mcComb a b)) else none
  | _ => none
/-- the place that an index means -/
def fIx : List D → Option D
  | [.list xs, .int i] => atI xs i
  | [.tuple xs, .int i] => atI xs i
  | [.str z, .int i] => if z.length ≤ sizeLine then (atI z.cps.toList i).map fun c => .str ⟨#[c]⟩ else none
  | _ => none
section
variable {tx : Tx} {X : Cx}
theorem vl_len (hK : X.K = tx.K) : VL tx (fun xs H Q => ∃ x n, xs = [x] ∧ LenV X.K x H n ∧ Q (.int n) H) fLen := by
  intro F H vs ds d Q hk h e q
  unfold fLen at e
  split at e
  · split at e
    · cases e
      obtain ⟨x, rfl, h1⟩ := h.one
      rw [h1.str]
      exact ⟨_, _, rfl, ⟨by assumption, rfl⟩, q _ F H (Gro.refl hk) (.int _)⟩
    · cases e
  · cases e
    obtain ⟨x, rfl, h1⟩ := h.one
    obtain ⟨a, vs, rfl, s1, r1⟩ := h1.lst
    refine ⟨_, _, rfl, .inl ⟨vs, by rw [hK]; exact s1, rfl⟩, ?_⟩
    rw [r1.len]
    exact q _ F H (Gro.refl hk) (.int _)
  · cases e
    obtain ⟨x, rfl, h1⟩ := h.one
    obtain ⟨a, vs, rfl, s1, r1⟩ := h1.tup
    refine ⟨_, _, rfl, .inr ⟨vs, by rw [hK]; exact s1.sq, rfl⟩, ?_⟩
    rw [r1.len]
    exact q _ F H (Gro.refl hk) (.int _)
  · cases e
theorem vl_abs : VL tx (fun xs H Q => ∃ i, xs = [.int i] ∧ Q (.int (if i < 0 then -i else i)) H) fAbs := by
  intro F H vs ds d Q hk h e q
  unfold fAbs at e
  split at e
  · cases e
    obtain ⟨x, rfl, h1⟩ := h.one
    rw [h1.int]
    exact ⟨_, rfl, q _ F H (Gro.refl hk) (.int _)⟩
  · cases e
theorem vl_int : VL tx (fun xs H Q => (∃ i, xs = [.int i] ∧ Q (.int i) H) ∨ ∃ k, xs = [.bl k] ∧ Q (.int (if k then 1 else 0)) H) fInt := by
  intro F H vs ds d Q hk h e q
  unfold fInt at e
  split at e
  · cases e
    obtain ⟨x, rfl, h1⟩ := h.one
    rw [h1.int]
    exact .inl ⟨_, rfl, q _ F H (Gro.refl hk) (.int _)⟩
  · cases e
    obtain ⟨x, rfl, h1⟩ := h.one
    rw [h1.bl]
    exact .inr ⟨_, rfl, q _ F H (Gro.refl hk) (.int _)⟩
  · cases e
theorem vl_divmod : VL tx (fun xs H Q => ∃ i j, xs = [.int i, .int j] ∧ CDiv i j ∧ ∀ p, H p = none → Q (.ref p) (upd H p (.tup [.int (i / j), .int (i % j)]))) fDivmod := by
  intro F H vs ds d Q hk h e q
  unfold fDivmod at e
  split at e
  · split at e
    · cases e
      obtain ⟨x, y, rfl, h1, h2⟩ := h.two
      rw [h1.int, h2.int]
      exact ⟨_, _, rfl, by assumption, fun p n => q _ _ _ (Gro.new hk n) (Rp.newT n (.cons (.int _) (.cons (.int _) .nil)))⟩
    · cases e
  · cases e
def rMax1 (X : Cx) : List V → Hp → VK → Prop := fun xs H Q => (∃ i j, xs = [.int i, .int j] ∧ Q (.int (if j > i then j else i)) H) ∨ rMax X.K xs H Q
def rMin1 (X : Cx) : List V → Hp → VK → Prop := fun xs H Q => (∃ i j, xs = [.int i, .int j] ∧ Q (.int (if j < i then j else i)) H) ∨ rMin X.K xs H Q
theorem cr_maxD (hc : X.calm = true) : CallR X (.builtin "max") (rMax1 X) := (call_max2 hc).or (cr_max hc)
theorem cr_minD (hc : X.calm = true) : CallR X (.builtin "min") (rMin1 X) := (call_min2 hc).or (cr_min hc)
theorem vl_max (hK : X.K = tx.K) : VL tx (rMax1 X) fMax := by
  intro F H vs ds d Q hk h e q
  unfold fMax at e
  split at e
  · cases e
    obtain ⟨x, y, rfl, h1, h2⟩ := h.two
    rw [h1.int, h2.int]
    exact .inl ⟨_, _, rfl, q _ F H (Gro.refl hk) (.int _)⟩
  · split at e
    · rename_i m r hm
      cases e
      obtain ⟨x, rfl, h1⟩ := h.one
      obtain ⟨a, vs, rfl, s1, r1⟩ := h1.lst
      have em := intsD_map hm
      subst em
      rw [r1.intsV] at s1
      obtain ⟨p1, p2, p3⟩ := maxL_spec r m
      refine .inr ⟨a, m :: r, rfl, by rw [hK]; exact s1, Nat.succ_pos _, fun z hz hm' => ?_⟩
      have e1 : z = maxL m r := by
        have u1 : z ≤ maxL m r := by
          rcases List.mem_cons.mp hz with rfl | hz
          · exact p2
          · exact p3 z hz
        have u2 : maxL m r ≤ z := by
          rcases p1 with p1 | p1
          · rw [p1]; exact hm' m List.mem_cons_self
          · exact hm' _ (List.mem_cons_of_mem _ p1)
        omega
      rw [e1]
      exact q _ F H (Gro.refl hk) (.int _)
    · cases e
  · cases e
theorem vl_min (hK : X.K = tx.K) : VL tx (rMin1 X) fMin := by
  intro F H vs ds d Q hk h e q
  unfold fMin at e
  split at e
  · cases e
    obtain ⟨x, y, rfl, h1, h2⟩ := h.two
    rw [h1.int, h2.int]
    exact .inl ⟨_, _, rfl, q _ F H (Gro.refl hk) (.int _)⟩
  · split at e
    · rename_i m r hm
      cases e
      obtain ⟨x, rfl, h1⟩ := h.one
      obtain ⟨a, vs, rfl, s1, r1⟩ := h1.lst
      have em := intsD_map hm
      subst em
      rw [r1.intsV] at s1
      obtain ⟨p1, p2, p3⟩ := minL_spec r m
      refine .inr ⟨a, m :: r, rfl, by rw [hK]; exact s1, Nat.succ_pos _, fun z hz hm' => ?_⟩
      have e1 : z = minL m r := by
        have u1 : minL m r ≤ z := by
          rcases List.mem_cons.mp hz with rfl | hz
          · exact p2
          · exact p3 z hz
        have u2 : z ≤ minL m r := by
          rcases p1 with p1 | p1
          · rw [p1]; exact hm' m List.mem_cons_self
          · exact hm' _ (List.mem_cons_of_mem _ p1)
        omega
      rw [e1]
      exact q _ F H (Gro.refl hk) (.int _)
    · cases e
  · cases e
theorem vl_sum (hK : X.K = tx.K) : VL tx (rSum X.K) fSum := by
  intro F H vs ds d Q hk h e q
  unfold fSum at e
  split at e
  · obtain ⟨ns, hm, rfl⟩ := Option.map_eq_some_iff.mp e
    obtain ⟨x, rfl, h1⟩ := h.one
    obtain ⟨a, vs, rfl, s1, r1⟩ := h1.lst
    have em := intsD_map hm
    subst em
    rw [r1.intsV] at s1
    exact ⟨a, ns, rfl, by rw [hK]; exact s1, q _ F H (Gro.refl hk) (.int _)⟩
  · cases e
theorem vb_all (hK : X.K = tx.K) : VB tx (rAll X.K) fAll := by
  intro F H vs ds d Q hk h e q
  unfold fAll at e
  split at e
  · obtain ⟨ns, hm, rfl⟩ := Option.map_eq_some_iff.mp e
    obtain ⟨x, rfl, h1⟩ := h.one
    obtain ⟨a, vs, rfl, s1, r1⟩ := h1.lst
    have em := boolsD_map hm
    subst em
    rw [r1.boolsV] at s1
    exact ⟨a, ns, rfl, by rw [hK]; exact s1, q H (Gro.refl hk)⟩
  · cases e
theorem vb_any (hK : X.K = tx.K) : VB tx (rAny X.K) fAny := by
  intro F H vs ds d Q hk h e q
  unfold fAny at e
  split at e
  · obtain ⟨ns, hm, rfl⟩ := Option.map_eq_some_iff.mp e
    obtain ⟨x, rfl, h1⟩ := h.one
    obtain ⟨a, vs, rfl, s1, r1⟩ := h1.lst
    have em := boolsD_map hm
    subst em
    rw [r1.boolsV] at s1
    exact ⟨a, ns, rfl, by rw [hK]; exact s1, q H (Gro.refl hk)⟩
  · cases e
theorem vl_tuple (hK : X.K = tx.K) : VL tx (fun xs H Q => ∃ p ys, xs = [.ref p] ∧ ((SqL X.K H p ys ∧ ∀ l, H l = none → Q (.ref l) (upd H l (.tup ys))) ∨ (SqT X.K H p ys ∧ Q (.ref p) H))) fTuple := by
  intro F H vs ds d Q hk h e q
  unfold fTuple at e
  split at e
  · cases e
    obtain ⟨x, rfl, h1⟩ := h.one
    obtain ⟨a, vs, rfl, s1, r1⟩ := h1.lst
    exact ⟨a, vs, rfl, .inl ⟨by rw [hK]; exact s1, fun p n => q _ _ _ (Gro.new hk n) (Rp.newT n r1)⟩⟩
  · cases e
    obtain ⟨x, rfl, h1⟩ := h.one
    obtain ⟨a, vs, rfl, s1, r1⟩ := h1.tup
    exact ⟨a, vs, rfl, .inr ⟨by rw [hK]; exact s1.sq, q _ F H (Gro.refl hk) (.tup s1 r1)⟩⟩
  · cases e
theorem vf_list (hK : X.K = tx.K) : VF tx (fun xs H Q => ∃ p ys, xs = [.ref p] ∧ (SqL X.K H p ys ∨ SqT X.K H p ys) ∧ ∀ l, H l = none → Q (.ref l) (upd H l (.lst ys))) fListF := by
  intro F H vs ds d Q hk h e q
  unfold fListF at e
  split at e
  · cases e
    obtain ⟨x, rfl, h1⟩ := h.one
    obtain ⟨a, vs, rfl, s1, r1⟩ := h1.lst
    exact ⟨a, vs, rfl, .inl (by rw [hK]; exact s1), fun l n => q _ _ n r1⟩
  · cases e
    obtain ⟨x, rfl, h1⟩ := h.one
    obtain ⟨a, vs, rfl, s1, r1⟩ := h1.tup
    exact ⟨a, vs, rfl, .inr (by rw [hK]; exact s1.sq), fun l n => q _ _ n r1⟩
  · cases e
theorem vl_gcd : VL tx rGcd fGcd := by
  intro F H vs ds d Q hk h e q
  unfold fGcd at e
  split at e
  · cases e
    obtain ⟨x, y, rfl, h1, h2⟩ := h.two
    rw [h1.int, h2.int]
    exact ⟨_, _, rfl, q _ F H (Gro.refl hk) (.int _)⟩
  · cases e
def rComb : List V → Hp → VK → Prop := fun vs H Q => ∃ a b : Int, vs = [.int a, .int b] ∧ (0 ≤ a ∧ 0 ≤ b ∧ a < 2 ^ 64 ∧ b ≤ 9000) ∧ Q (.int (PySem.W.mcComb a b)) H
theorem cr_comb : CallR X (.builtin "math.comb") rComb := by
  intro pins s σ H vs us Q I r h
  obtain ⟨a, b, rfl, ⟨h1, h2, h3, h4⟩, q⟩ := h
  obtain ⟨t, u, rfl⟩ := Vals.int2 r
  exact PySem.W.mc_comb h1 h2 h3 (.inl h4) fun _ => ⟨.int _, H, I.tok _, ⟨_, rfl⟩, q⟩
theorem vl_comb : VL tx rComb fComb := by
  intro F H vs ds d Q hk h e q
  unfold fComb at e
  split at e
  · split at e
    · cases e
      obtain ⟨x, y, rfl, h1, h2⟩ := h.two
      rw [h1.int, h2.int]
      exact ⟨_, _, rfl, by assumption, q _ F H (Gro.refl hk) (.int _)⟩
    · cases e
  · cases e
theorem atI_rel {K : PySem.W.Frag} {F : Fz} {H : Hp} {vs : List V} {ds : List D} {i : Int} {d : D} (r : Rps K F H vs ds) (e : atI ds i = some d) : ∃ v, atI vs i = some v ∧ Rp K F H v d := by
  unfold atI at e ⊢
  rw [r.len]
  obtain ⟨j, h1, h2⟩ := Option.bind_eq_some_iff.mp e
  obtain ⟨v, h3, h4⟩ := r.get h2
  exact ⟨v, by rw [h1]; exact h3, h4⟩
theorem vl_ix (hK : X.K = tx.K) : VL tx (r2L (rIx X.K)) fIx := by
  intro F H vs ds d Q hk h e q
  unfold fIx at e
  split at e
  · obtain ⟨x, y, rfl, h1, h2⟩ := h.two
    obtain ⟨a, vs, rfl, s1, r1⟩ := h1.lst
    obtain ⟨v, h3, h4⟩ := atI_rel r1 e
    rw [h2.int]
    exact .inl ⟨a, vs, _, v, rfl, rfl, by rw [hK]; exact s1, h3, q _ F H (Gro.refl hk) h4⟩
  · obtain ⟨x, y, rfl, h1, h2⟩ := h.two
    obtain ⟨a, vs, rfl, s1, r1⟩ := h1.tup
    obtain ⟨v, h3, h4⟩ := atI_rel r1 e
    rw [h2.int]
    exact .inr (.inl ⟨a, vs, _, v, rfl, rfl, by rw [hK]; exact s1.sq, h3, q _ F H (Gro.refl hk) h4⟩)
  · split at e
    · obtain ⟨c, h3, rfl⟩ := Option.map_eq_some_iff.mp e
      obtain ⟨x, y, rfl, h1, h2⟩ := h.two
      rw [h1.str, h2.int]
      exact .inr (.inr ⟨_, _, c, rfl, rfl, by assumption, h3, q _ F H (Gro.refl hk) (.str _)⟩)
    · cases e
  · cases e
end
end Dn

/-! Dn, part D: the rules of expressions -/
namespace Dn
open PySem PySem.Spec PyProof.Rows L2

section
variable {X : Cx}
theorem pe_imp {e : Expr} {t t' : TE} (h : PE X e t) (hi : ∀ σ H Q, t' σ H Q → t σ H Q) : PE X e t' := ⟨fun pins s σ H Q I q => h.run pins s σ H Q I (hi σ H Q q)⟩
theorem pt_imp {e : Expr} {t t' : TT} (h : PT X e t) (hi : ∀ σ H Q, t' σ H Q → t σ H Q) : PT X e t' := ⟨fun pins s σ H Q I q => h.run pins s σ H Q I (hi σ H Q q)⟩
theorem pw_imp {e : Expr} {t t' : TT} (h : PW X e t) (hi : ∀ σ H Q, t' σ H Q → t σ H Q) : PW X e t' := ⟨fun wh pins s σ H Q I q => h.run wh pins s σ H Q I (hi σ H Q q)⟩
theorem pa_imp {es : List Expr} {t t' : TA} (h : PA X es t) (hi : ∀ σ H Q, t' σ H Q → t σ H Q) : PA X es t' := ⟨fun po pins s σ H Q I q => h.run po pins s σ H Q I (hi σ H Q q)⟩
theorem ps_imp {st : Stmt} {t t' : TS} (h : PS X st t) (hi : ∀ D σ H, t' D σ H → t D σ H) : PS X st t' := ⟨fun pins s σ H D I q => h.run pins s σ H D I (hi D σ H q)⟩
theorem pss_imp {st : List Stmt} {t t' : TS} (h : PSs X st t) (hi : ∀ D σ H, t' D σ H → t D σ H) : PSs X st t' := ⟨fun pins s σ H D I q => h.run pins s σ H D I (hi D σ H q)⟩
end

/-- what a rule asks of the context -/
structure Ck (tx : Tx) (X : Cx) : Prop where
  K : X.K = tx.K
  nd : X.N.Nodup
  units : X.A.units + 66 < cLine
  gd : X.A.guards = some []

/-! ### names and constants -/
def mVar (i : Nat) (e : En) : Res D := match e[i]? with
  | some (some (.val d)) => .ok d e
  | _ => .bad
/-- a list of one's own is plain from now on -/
def mFrz (i : Nat) (e : En) : Res D := match e[i]? with
  | some (some (.val d)) => .ok d e
  | some (some (.own xs)) => .ok (.list xs) (e.set i (some (.val (.list xs))))
  | _ => .bad
def mC (d : D) (e : En) : Res D := .ok d e
section
variable {tx : Tx} {X : Cx} {W : WX} {σ : Sg} {H : Hp} {Q : VK} {i : Nat} {x : Str} {pos : Pos}
theorem t_var (h : TEx tx W (mVar i) σ H Q) : tVar i σ H Q := by
  obtain ⟨F, e, A, h⟩ := h
  unfold mVar at h
  split at h
  · rename_i d q
    obtain ⟨v, h1, h2⟩ := A.val i d q
    exact ⟨v, h1, h F H Step.refl A v h2⟩
  · exact h.elim
theorem d_var (i : Nat) {x : Str} {pos : Pos} (hN : X.N[i]? = some x := by rfl) (hv : Vis X.env.scope x := by first | exact Or.inl rfl | exact Or.inr (Or.inl rfl) | exact Or.inr (Or.inr rfl)) (hd : (x == ("__debug__" : Str)) = false := by decide)
    (hcd : (x == ("__classdict__" : Str)) = false := by decide) : PE X (.Name x pos) (TEx tx W (mVar i)) := pe_imp (pe_var hN hv hd hcd) fun _ _ _ => t_var
/-- an operand: a name -/
theorem d_o (i : Nat) {x : Str} {pos : Pos} (hN : X.N[i]? = some x := by rfl) (hv : Vis X.env.scope x := by first | exact Or.inl rfl | exact Or.inr (Or.inl rfl) | exact Or.inr (Or.inr rfl)) (hd : (x == ("__debug__" : Str)) = false := by decide)
    (hcd : (x == ("__classdict__" : Str)) = false := by decide) : PE X (.Name x pos) (teO tx W (.o i)) := pe_var hN hv hd hcd
/-- an operand: a meaning -/
theorem d_p {e : Expr} {m : En → Res D} (h : PE X e (TEx tx W m)) : PE X e (teO tx W (.p m)) := h
theorem owned_set {e : En} {i : Nat} {d : D} {a : Addr} (h : OwnA σ (e.set i (some (.val d))) a) : OwnA σ e a := by
  obtain ⟨j, ys, h1, h2⟩ := h
  by_cases hj : i = j
  · subst hj
    by_cases hl : i < e.length
    · rw [List.getElem?_set_self hl] at h1; cases h1
    · rw [List.getElem?_eq_none (by simpa using hl)] at h1; cases h1
  · rw [List.getElem?_set_ne hj] at h1
    exact ⟨j, ys, h1, h2⟩
/-- the list in slot i is plain from now on -/
theorem Abs.frz {K : PySem.W.Frag} {F : Fz} {e : En} {a : Addr} {vs : List V} {xs : List D} (A : Abs K F H σ e) (he : e[i]? = some (some (.own xs))) (hs : σ[i]? = some (some (.ref a))) (ha : H a = some (.lst vs)) (r : Rps K F H vs xs) :
    Abs K (fun b => F b ∨ b = a) H σ (e.set i (some (.val (.list xs)))) ∧ Step σ e F H σ (e.set i (some (.val (.list xs)))) (fun b => F b ∨ b = a) H ∧ Rp K (fun b => F b ∨ b = a) H (.ref a) (.list xs) := by
  have hil : i < e.length := (List.getElem?_eq_some_iff.mp he).1
  have rr : Rps K (fun b => F b ∨ b = a) H vs xs := r.mono (fun _ f => .inl f) fun b o _ q => q
  have own_a : OwnA σ e a := ⟨i, xs, he, hs⟩
  refine ⟨⟨by rw [List.length_set]; exact A.len, fun j d h => ?_, fun j ys h => ?_, fun j k ys zs b h1 h2 h3 h4 => ?_, fun b f => ?_⟩, ⟨fun b f => .inl f, fun b o q _ => q, fun b f => ?_, fun b z => .inl (owned_set z)⟩, .lst (.inl ⟨.inr rfl, .inl ha⟩) rr⟩
  · by_cases hj : i = j
    · subst hj
      rw [List.getElem?_set_self hil] at h
      cases h
      exact ⟨_, hs, .lst (.inl ⟨.inr rfl, .inl ha⟩) rr⟩
    · rw [List.getElem?_set_ne hj] at h
      obtain ⟨v, h1, h2⟩ := A.val j d h
      exact ⟨v, h1, h2.mono (fun _ f => .inl f) fun b o _ q => q⟩
  · by_cases hj : i = j
    · subst hj
      rw [List.getElem?_set_self hil] at h
      cases h
    · rw [List.getElem?_set_ne hj] at h
      obtain ⟨b, ws, h1, h2, h3, h4⟩ := A.own j ys h
      refine ⟨b, ws, h1, h2, h3.mono (fun _ f => .inl f) fun b o _ q => q, fun z => ?_⟩
      rcases z with z | rfl
      · exact h4 z
      · exact hj (A.dis i j xs ys _ he h hs h1)
  · have g : ∀ {j : Nat} {ys : List D}, (e.set i (some (.val (.list xs))))[j]? = some (some (.own ys)) → e[j]? = some (some (.own ys)) := fun {j ys} h => by
      by_cases hj : i = j
      · subst hj; rw [List.getElem?_set_self hil] at h; cases h
      · rw [List.getElem?_set_ne hj] at h; exact h
    exact A.dis j k ys zs b (g h1) (g h2) h3 h4
  · rcases f with f | rfl
    · exact A.fok b f
    · rw [ha]; simp
  · rcases f with f | rfl
    · exact .inl f
    · exact .inr (.inr own_a)
theorem t_frz (h : TEx tx W (mFrz i) σ H Q) : tVar i σ H Q := by
  obtain ⟨F, e, A, h⟩ := h
  unfold mFrz at h
  split at h
  · rename_i d q
    obtain ⟨v, h1, h2⟩ := A.val i d q
    exact ⟨v, h1, h F H Step.refl A v h2⟩
  · rename_i xs q
    obtain ⟨a, vs, h1, h2, h3, h4⟩ := A.own i xs q
    obtain ⟨A', s', r'⟩ := A.frz q h1 h2 h3
    exact ⟨_, h1, h _ _ s' A' _ r'⟩
  · exact h.elim
theorem d_frz (i : Nat) {x : Str} {pos : Pos} (hN : X.N[i]? = some x := by rfl) (hv : Vis X.env.scope x := by first | exact Or.inl rfl | exact Or.inr (Or.inl rfl) | exact Or.inr (Or.inr rfl)) (hd : (x == ("__debug__" : Str)) = false := by decide)
    (hcd : (x == ("__classdict__" : Str)) = false := by decide) : PE X (.Name x pos) (TEx tx W (mFrz i)) := pe_imp (pe_var hN hv hd hcd) fun _ _ _ => t_frz
theorem t_c {v : V} {d : D} (hr : ∀ K F H, Rp K F H v d) (h : TEx tx W (mC d) σ H Q) : tC v σ H Q := by
  obtain ⟨F, e, A, h⟩ := h
  exact h F H Step.refl A v (hr _ _ _)
theorem d_int {i : Int} {j : Nat} : PE X (.Constant (.int i) j pos) (TEx tx W (mC (.int i))) := pe_imp pe_int fun _ _ _ => t_c fun _ _ _ => .int i
theorem d_bl {b : Bool} {j : Nat} : PE X (.Constant (.bool b) j pos) (TEx tx W (mC (.bool b))) := pe_imp pe_bl fun _ _ _ => t_c fun _ _ _ => .bl b
theorem d_non {j : Nat} : PE X (.Constant .none j pos) (TEx tx W (mC .none)) := pe_imp pe_non fun _ _ _ => t_c fun _ _ _ => .non
theorem d_str {z : Str} {j : Nat} : PE X (.Constant (.str z) j pos) (TEx tx W (mC (.str z))) := pe_imp pe_str fun _ _ _ => t_c fun _ _ _ => .str z
/-- a module's constant: an int, a text -/
theorem d_gint {n : Int} {u : Value} (hg : Gl X x) (hm : X.mg x = some u) (hu : ∃ t, u = .int n t) (hd : (x == ("__debug__" : Str)) = false := by decide) : PE X (.Name x pos) (TEx tx W (mC (.int n))) :=
  pe_imp (pe_glob (v := .int n) hg hm hu hd) fun _ _ _ => t_c fun _ _ _ => .int n
theorem d_gstr {z : Str} {u : Value} (hg : Gl X x) (hm : X.mg x = some u) (hu : ∃ t, u = .str z t) (hd : (x == ("__debug__" : Str)) = false := by decide) : PE X (.Name x pos) (TEx tx W (mC (.str z))) :=
  pe_imp (pe_glob (v := .str z) hg hm hu hd) fun _ _ _ => t_c fun _ _ _ => .str z
/-- .. a tuple of texts (or of anything that the written part bears) -/
theorem d_gtup {a : Addr} {d : D} (hg : Gl X x) (hm : X.mg x = some (.ref a)) (hr : ∀ F H, Rp tx.K F H (.ref a) d) (hd : (x == ("__debug__" : Str)) = false := by decide) : PE X (.Name x pos) (TEx tx W (mC d)) :=
  pe_imp (pe_glob (v := .ref a) hg hm rfl hd) fun _ _ _ h => by
    obtain ⟨F, e, A, h⟩ := h
    exact h F _ Step.refl A _ (hr _ _)
end

/-! ### operators, comparisons -/
section
variable {tx : Tx} {X : Cx} {W : WX} {pos : Pos} {a b c : Expr} {A B C : Op} {f : List D → Option D} {g : List D → Option Bool}
theorem d_bin {op : Operator} {r : R2} (ho : OpR X (binaryOp op) r) (hv : VL tx (r2L r) f) (ha : PE X a (teO tx W A)) (hb : PE X b (teO tx W B)) : PE X (.BinOp a op b pos) (TEx tx W (mOp f [A, B])) :=
  pe_imp (pe_op ho ha hb) fun _ _ _ h => ops_run hv h
theorem d_un {op : UnaryOp} {r : V → Hp → VK → Prop} (ho : UnR X (unaryOp op) r) (hv : VL tx (r1L r) f) (ha : PE X a (teO tx W A)) : PE X (.UnaryOp op a pos) (TEx tx W (mOp f [A])) :=
  pe_imp (pe_un ho ha) fun _ _ _ h => ops_run hv h
theorem d_add (k : Ck tx X) (ha : PE X a (teO tx W A)) (hb : PE X b (teO tx W B)) : PE X (.BinOp a .Add b pos) (TEx tx W (mOp fAdd [A, B])) := d_bin op_addD (vl_add k.K) ha hb
theorem d_sub (ha : PE X a (teO tx W A)) (hb : PE X b (teO tx W B)) : PE X (.BinOp a .Sub b pos) (TEx tx W (mOp fSub [A, B])) := d_bin op_sub vl_sub ha hb
theorem d_mul (ha : PE X a (teO tx W A)) (hb : PE X b (teO tx W B)) : PE X (.BinOp a .Mult b pos) (TEx tx W (mOp fMul [A, B])) := d_bin op_mul vl_mul ha hb
theorem d_fdiv (ha : PE X a (teO tx W A)) (hb : PE X b (teO tx W B)) : PE X (.BinOp a .FloorDiv b pos) (TEx tx W (mOp fFDiv [A, B])) := d_bin op_fdiv vl_fdiv ha hb
theorem d_mod (ha : PE X a (teO tx W A)) (hb : PE X b (teO tx W B)) : PE X (.BinOp a .Mod b pos) (TEx tx W (mOp fMod [A, B])) := d_bin op_mod vl_mod ha hb
theorem d_pow (ha : PE X a (teO tx W A)) (hb : PE X b (teO tx W B)) : PE X (.BinOp a .Pow b pos) (TEx tx W (mOp fPow [A, B])) := d_bin op_pow vl_pow ha hb
theorem d_neg (ha : PE X a (teO tx W A)) : PE X (.UnaryOp .USub a pos) (TEx tx W (mOp fNeg [A])) := d_un un_neg vl_neg ha
/-- a comparison, as a value and as a test -/
theorem d_cmp {op : CmpOp} {r : R2} (ho : OpR X (compareOp op) r) (hv : VB tx (r2L r) g) (ha : PE X a (teO tx W A)) (hb : PE X b (teO tx W B)) (hm : behindInMarks op b = false) : PE X (.Compare a [op] [b] pos) (TEx tx W (mOp (bV g) [A, B])) :=
  pe_imp (pe_cmpR ho ha hb hm) fun _ _ _ h => ops_run hv.vl h
theorem d_tcmp {op : CmpOp} {r : R2} (ho : OpR X (compareOp op) r) (hv : VB tx (r2L r) g) (ha : PE X a (teO tx W A)) (hb : PE X b (teO tx W B)) (hm : behindInMarks op b = false) : PT X (.Compare a [op] [b] pos) (TTx tx W (mOpB g [A, B])) :=
  pt_imp (pt_cmpR ho ha hb hm) fun _ _ _ h => opsB_run hv h
end
/-- the comparisons' rules, by the operator -/
structure Cmp (tx : Tx) (X : Cx) (op : CmpOp) (g : List D → Option Bool) : Prop where
  ex : ∃ r, OpR X (compareOp op) r ∧ VB tx (r2L r) g
section
variable {tx : Tx} {X : Cx}
theorem c_eq (k : Ck tx X) : Cmp tx X .Eq fEq := ⟨_, op_eqD (by have := k.units; omega), vb_eq k.K⟩
theorem c_ne (k : Ck tx X) : Cmp tx X .NotEq fNe := ⟨_, op_neD (by have := k.units; omega), vb_ne k.K⟩
theorem c_lt (k : Ck tx X) : Cmp tx X .Lt fLt := ⟨_, op_ltD (by have := k.units; omega), vb_lt k.K⟩
theorem c_le (k : Ck tx X) : Cmp tx X .LtE fLe := ⟨_, op_le, vb_le⟩
theorem c_gt (k : Ck tx X) : Cmp tx X .Gt fGt := ⟨_, op_gt, vb_gt⟩
theorem c_ge (k : Ck tx X) : Cmp tx X .GtE fGe := ⟨_, op_ge, vb_ge⟩
end
/-- is None -/
def fIsN : List D → Option Bool
  | [.none] => some true
  | [_] => some false
  | _ => none
def fNotN : List D → Option Bool
  | [.none] => some false
  | [_] => some true
  | _ => none
section
variable {tx : Tx} {X : Cx} {W : WX} {pos : Pos} {a b c : Expr} {A B C : Op} {f : List D → Option D} {g : List D → Option Bool}
theorem d_vcmp {op : CmpOp} (h : Cmp tx X op g) (ha : PE X a (teO tx W A)) (hb : PE X b (teO tx W B)) (hm : behindInMarks op b = false := by first | exact nomark _ | rfl) : PE X (.Compare a [op] [b] pos) (TEx tx W (mOp (bV g) [A, B])) := by
  obtain ⟨r, h1, h2⟩ := h.ex
  exact d_cmp h1 h2 ha hb hm
theorem d_tc {op : CmpOp} (h : Cmp tx X op g) (ha : PE X a (teO tx W A)) (hb : PE X b (teO tx W B)) (hm : behindInMarks op b = false := by first | exact nomark _ | rfl) : PT X (.Compare a [op] [b] pos) (TTx tx W (mOpB g [A, B])) := by
  obtain ⟨r, h1, h2⟩ := h.ex
  exact d_tcmp h1 h2 ha hb hm
theorem vb_isN : VB tx (r1L fun x H Q => Q (.bl (decide (x = .non))) H) fIsN := by
  intro F H vs ds b Q hk h e q
  unfold fIsN at e
  split at e
  · cases e
    obtain ⟨x, rfl, h1⟩ := h.one
    rw [h1.non]
    exact q H (Gro.refl hk)
  · rename_i d hd
    cases e
    obtain ⟨x, rfl, h1⟩ := h.one
    have hx : x ≠ .non := by
      rintro rfl
      rcases h1 with h1 | ⟨_, _, _, z, _⟩
      · cases h1; exact hd rfl
      · cases z
    show Q (.bl (decide (x = .non))) H
    rw [decide_eq_false hx]
    exact q H (Gro.refl hk)
  · cases e
theorem vb_notN : VB tx (r1L fun x H Q => Q (.bl (!decide (x = .non))) H) fNotN := by
  intro F H vs ds b Q hk h e q
  unfold fNotN at e
  split at e
  · cases e
    obtain ⟨x, rfl, h1⟩ := h.one
    rw [h1.non]
    exact q H (Gro.refl hk)
  · rename_i d hd
    cases e
    obtain ⟨x, rfl, h1⟩ := h.one
    have hx : x ≠ .non := by
      rintro rfl
      rcases h1 with h1 | ⟨_, _, _, z, _⟩
      · cases h1; exact hd rfl
      · cases z
    show Q (.bl (!decide (x = .non))) H
    rw [decide_eq_false hx]
    exact q H (Gro.refl hk)
  · cases e
theorem d_isN {j : Nat} {p : Pos} (ha : PE X a (teO tx W A)) : PE X (.Compare a [.Is] [.Constant .none j p] pos) (TEx tx W (mOp (bV fIsN) [A])) := pe_imp (pe_cmp (pc_isN ha)) fun _ _ _ h => ops_run vb_isN.vl h
theorem d_notN {j : Nat} {p : Pos} (ha : PE X a (teO tx W A)) : PE X (.Compare a [.IsNot] [.Constant .none j p] pos) (TEx tx W (mOp (bV fNotN) [A])) := pe_imp (pe_cmp (pc_notN ha)) fun _ _ _ h => ops_run vb_notN.vl h
theorem d_tisN {j : Nat} {p : Pos} (ha : PE X a (teO tx W A)) : PT X (.Compare a [.Is] [.Constant .none j p] pos) (TTx tx W (mOpB fIsN [A])) := pt_imp (pt_cmp (pc_isN ha)) fun _ _ _ h => opsB_run vb_isN h
theorem d_tnotN {j : Nat} {p : Pos} (ha : PE X a (teO tx W A)) : PT X (.Compare a [.IsNot] [.Constant .none j p] pos) (TTx tx W (mOpB fNotN [A])) := pt_imp (pt_cmp (pc_notN ha)) fun _ _ _ h => opsB_run vb_notN h
end

/-! ### tests -/
def mAndB (m n : En → Res Bool) (e : En) : Res Bool := (m e).bind fun b e' => if b = true then n e' else .ok false e'
def mOrB (m n : En → Res Bool) (e : En) : Res Bool := (m e).bind fun b e' => if b = true then .ok true e' else n e'
def mNotB (m : En → Res Bool) (e : En) : Res Bool := (m e).bind fun b e' => .ok (!b) e'
/-- a value's truth -/
def fTru : List D → Option Bool
  | [d] => trD d
  | _ => none
def mTru (A : Op) : En → Res Bool := mOpB fTru [A]
def mIf (c : En → Res Bool) {α : Type} (m n : En → Res α) (e : En) : Res α := (c e).bind fun b e' => if b = true then m e' else n e'
section
variable {tx : Tx} {X : Cx} {W : WX} {σ : Sg} {H : Hp}
/-- what comes behind a part -/
theorem Run.part {α β : Type} {m : En → Res α} {g : α → En → Res β} {k : En → β → Fz → Hp → En → Prop} {k' : α → Hp → Prop} (h : Run tx W (fun e => (m e).bind g) σ H k)
    (hk : ∀ F e a F' H' e', Abs tx.K F H σ e → Step σ e F H σ e' F' H' → Abs tx.K F' H' σ e' → RunAt tx W (g a e') σ F' H' e' (k e) → k' a H') : Run tx W m σ H fun _ a _ H' _ => k' a H' := by
  obtain ⟨F, e, A, h⟩ := h
  exact ⟨F, e, A, (RunAt.seq h).mono fun a F' H' e' s A' q => hk F e a F' H' e' A s A' q⟩
theorem t_andB {m n : En → Res Bool} {Q : Bool → Hp → Prop} (h : TTx tx W (mAndB m n) σ H Q) : tAnd (TTx tx W m) (TTx tx W n) σ H Q := by
  refine Run.part h fun F e b F' H' e' A s A' q => ?_
  cases b with
  | true => exact iteT ⟨F', e', A', q⟩
  | false => exact iteF (q F' H' Step.refl A')
theorem t_orB {m n : En → Res Bool} {Q : Bool → Hp → Prop} (h : TTx tx W (mOrB m n) σ H Q) : tOr (TTx tx W m) (TTx tx W n) σ H Q := by
  refine Run.part h fun F e b F' H' e' A s A' q => ?_
  cases b with
  | true => exact iteT (q F' H' Step.refl A')
  | false => exact iteF ⟨F', e', A', q⟩
theorem t_notB {m : En → Res Bool} {Q : Bool → Hp → Prop} (h : TTx tx W (mNotB m) σ H Q) : tNot (TTx tx W m) σ H Q := by
  refine Run.part h fun F e b F' H' e' A s A' q => ?_
  exact q F' H' Step.refl A'
theorem t_if {c : En → Res Bool} {m n : En → Res D} {Q : VK} (h : TEx tx W (mIf c m n) σ H Q) : tIf (TTx tx W c) (TEx tx W m) (TEx tx W n) σ H Q := by
  refine Run.part h fun F e b F' H' e' A s A' q => ?_
  cases b with
  | true => exact iteT ⟨F', e', A', q⟩
  | false => exact iteF ⟨F', e', A', q⟩
variable {pos : Pos} {a b c : Expr} {rest : List Expr} {m n l : En → Res Bool} {A B : Op}
theorem d_tand1 (ha : PT X a (TTx tx W m)) : PW X (.BoolOp .And [a] pos) (TTx tx W m) := pw_and1 ha
theorem d_tor1 (ha : PT X a (TTx tx W m)) : PW X (.BoolOp .Or [a] pos) (TTx tx W m) := pw_or1 ha
theorem d_tand (ha : PT X a (TTx tx W m)) (hb : PW X (.BoolOp .And (b :: rest) pos) (TTx tx W n)) : PW X (.BoolOp .And (a :: b :: rest) pos) (TTx tx W (mAndB m n)) := pw_imp (pw_and ha hb) fun _ _ _ => t_andB
theorem d_tor (ha : PT X a (TTx tx W m)) (hb : PW X (.BoolOp .Or (b :: rest) pos) (TTx tx W n)) : PW X (.BoolOp .Or (a :: b :: rest) pos) (TTx tx W (mOrB m n)) := pw_imp (pw_or ha hb) fun _ _ _ => t_orB
theorem d_tnot (ha : PT X a (TTx tx W m)) : PT X (.UnaryOp .Not a pos) (TTx tx W (mNotB m)) := pt_imp (pt_not ha) fun _ _ _ => t_notB
/-- an expression as a test, by its truth -/
theorem d_tru (k : Ck tx X) (ha : PE X a (teO tx W A)) (he : ∀ whole, isTrue a X.env whole = (do let v ← whole; standAt a.pos; holding [v] (truthy v)) := by intro _; rfl) : PT X a (TTx tx W (mTru A)) := by
  refine pt_imp (pt_truth ha he) fun σ H Q h => ?_
  have z := opsB_run (r := r1L fun x H' Q' => ∃ k, TruV X.K x H' k ∧ Q' (.bl k) H') (by
    intro F H vs ds b Q hk h e q
    unfold fTru at e
    split at e
    · obtain ⟨x, rfl, h1⟩ := h.one
      exact ⟨b, by rw [k.K]; exact h1.tru e, q H (Gro.refl hk)⟩
    · cases e) h
  show teO tx W A σ H fun x H' => ∃ k, TruV X.K x H' k ∧ Q k H'
  cases A with
  | o i =>
    obtain ⟨v, h1, k', h2, k2, h3, h4⟩ := z
    cases h3
    exact ⟨v, h1, _, h2, h4⟩
  | p m =>
    obtain ⟨F, e, Ab, z⟩ := z
    refine ⟨F, e, Ab, z.mono fun d F' H' e' s A' q v rv => ?_⟩
    obtain ⟨k', h2, k2, h3, h4⟩ := q v rv
    cases h3
    exact ⟨_, h2, h4⟩
theorem d_ifx {m' n' : En → Res D} (hc : PT X c (TTx tx W m)) (ha : PE X a (TEx tx W m')) (hb : PE X b (TEx tx W n')) : PE X (.IfExp c a b pos) (TEx tx W (mIf m m' n')) := pe_imp (pe_ifExp hc ha hb) fun _ _ _ => t_if
end
/-- and, or, not as values, of bools -/
def mAndV (m n : En → Res D) (e : En) : Res D := (m e).bind fun d e' => match d with
  | .bool b => if b = true then n e' else .ok (.bool false) e'
  | _ => .bad
def mOrV (m n : En → Res D) (e : En) : Res D := (m e).bind fun d e' => match d with
  | .bool b => if b = true then .ok (.bool true) e' else n e'
  | _ => .bad
def fNotV : List D → Option D
  | [d] => (trD d).map fun b => .bool (!b)
  | _ => none
section
variable {tx : Tx} {X : Cx} {W : WX} {σ : Sg} {H : Hp} {pos : Pos} {a b : Expr} {rest : List Expr} {m n : En → Res D} {A : Op}
theorem d_one {op : BoolOp} (h : PE X a (TEx tx W m)) : PE X (.BoolOp op [a] pos) (TEx tx W m) := pe_one h
theorem d_and (ha : PE X a (TEx tx W m)) (hb : PE X (.BoolOp .And (b :: rest) pos) (TEx tx W n)) : PE X (.BoolOp .And (a :: b :: rest) pos) (TEx tx W (mAndV m n)) := pe_imp (pe_and ha hb) fun σ H Q h => by
  obtain ⟨F, e, A, h⟩ := h
  refine ⟨F, e, A, (RunAt.seq h).mono fun d F' H' e' s A' q v rv => ?_⟩
  cases rv with
  | bl c =>
    refine ⟨c, rfl, ?_⟩
    cases c with
    | true => exact iteT ⟨F', e', A', q⟩
    | false => exact iteF (q F' H' Step.refl A' _ (.bl false))
  | _ => exact q.elim
theorem d_or (ha : PE X a (TEx tx W m)) (hb : PE X (.BoolOp .Or (b :: rest) pos) (TEx tx W n)) : PE X (.BoolOp .Or (a :: b :: rest) pos) (TEx tx W (mOrV m n)) := pe_imp (pe_or ha hb) fun σ H Q h => by
  obtain ⟨F, e, A, h⟩ := h
  refine ⟨F, e, A, (RunAt.seq h).mono fun d F' H' e' s A' q v rv => ?_⟩
  cases rv with
  | bl c =>
    refine ⟨c, rfl, ?_⟩
    cases c with
    | true => exact iteT (q F' H' Step.refl A' _ (.bl true))
    | false => exact iteF ⟨F', e', A', q⟩
  | _ => exact q.elim
theorem d_not (k : Ck tx X) (ha : PE X a (teO tx W A)) : PE X (.UnaryOp .Not a pos) (TEx tx W (mOp fNotV [A])) := pe_imp (pe_notT ha) fun σ H Q h => by
  refine ops_run (r := r1L fun x H1 Q => ∃ k, TruV X.K x H1 k ∧ Q (.bl (!k)) H1) ?_ h
  intro F H vs ds d Q hk h e q
  unfold fNotV at e
  split at e
  · obtain ⟨b, h1, rfl⟩ := Option.map_eq_some_iff.mp e
    obtain ⟨x, rfl, h2⟩ := h.one
    exact ⟨b, by rw [k.K]; exact h2.tru h1, q _ F H (Gro.refl hk) (.bl _)⟩
  · cases e
end

/-! ### argument lists -/
section
variable {tx : Tx} {X : Cx} {W : WX} {e : Expr} {es : List Expr} {A : Op} {c : List Op}
theorem a_nil : PA X [] (tL tx W []) := pa_nil
theorem a_cons (ha : PE X e (teO tx W A)) (hr : PA X es (tL tx W c)) (hs : starEach (e :: es) X.env = (false, eval e X.env) :: starEach es X.env := by rfl) : PA X (e :: es) (tL tx W (A :: c)) := pa_cons ha hr hs
end

/-! ### displays: what is put in is plain -/
def rdV (e : En) (i : Nat) : Option D := match e[i]? with
  | some (some (.val d)) => some d
  | _ => none
def fillV (e : En) : List Slot → Option (List D)
  | [] => some []
  | .inl d :: r => (fillV e r).map (d :: ·)
  | .inr i :: r => (rdV e i).bind fun d => (fillV e r).map (d :: ·)
def evV (c : List Op) (e : En) : Res (List D) := (evP c e).bind fun l e' => lift (fillV e' l) e'
theorem rdV_rp {K : PySem.W.Frag} {F : Fz} {H : Hp} {σ : Sg} {e : En} (A : Abs K F H σ e) {i : Nat} {d : D} {v : V} (h : rdV e i = some d) (hv : σ[i]? = some (some v)) : Rp K F H v d := by
  unfold rdV at h
  split at h
  · rename_i d' q
    cases h
    obtain ⟨v', h1, h2⟩ := A.val i d q
    rw [hv] at h1
    cases h1
    exact h2
  · cases h
theorem fillV_rp {K : PySem.W.Frag} {F : Fz} {H : Hp} {σ : Sg} {e : En} (A : Abs K F H σ e) : ∀ {l : List Slot} {vs : List V} {ds : List D}, ArgV K F H σ vs l → fillV e l = some ds → Rps K F H vs ds
  | [], [], ds, _, h => by cases h; exact .nil
  | .inl d :: r, v :: vs, ds, ha, h => by
    obtain ⟨ds', h1, rfl⟩ := Option.map_eq_some_iff.mp (show (fillV e r).map (d :: ·) = some ds from h)
    exact .cons ha.1 (fillV_rp A ha.2 h1)
  | .inr i :: r, v :: vs, ds, ha, h => by
    obtain ⟨d, h1, h2⟩ := Option.bind_eq_some_iff.mp (show ((rdV e i).bind fun d => (fillV e r).map (d :: ·)) = some ds from h)
    obtain ⟨ds', h3, rfl⟩ := Option.map_eq_some_iff.mp h2
    exact .cons (rdV_rp A h1 ha.1) (fillV_rp A ha.2 h3)
  | [], _ :: _, _, ha, _ => ha.elim
  | .inl _ :: _, [], _, ha, _ => ha.elim
  | .inr _ :: _, [], _, ha, _ => ha.elim
def fitD (ds : List D) : Option (List D) := if ds.length ≤ sizeLine then some ds else none
def mTup (c : List Op) (e : En) : Res D := (evV c e).bind fun ds e' => lift ((fitD ds).map .tuple) e'
def mLst (c : List Op) (e : En) : Res (List D) := (evV c e).bind fun ds e' => lift (fitD ds) e'
section
variable {tx : Tx} {X : Cx} {W : WX} {pos : Pos} {e : Expr} {es : List Expr} {c : List Op} {m : En → Res (List D)}
theorem d_tup {n : Nat} (h : PA X es (tL tx W c)) : PE X (.Tuple es n pos) (TEx tx W (mTup c)) := pe_imp (pe_tup h) fun σ H Q q => by
  obtain ⟨F, e, A, q⟩ := q
  refine args_run c A ((RunAt.seq (RunAt.seq q)).mono fun l F1 H1 e1 s1 A1 h1 vs ha => ?_)
  obtain ⟨ds, hds, h2⟩ := RunAt.now h1
  obtain ⟨d, hd, h3⟩ := RunAt.now (h2 F1 H1 Step.refl A1)
  obtain ⟨ds', hf, rfl⟩ := Option.map_eq_some_iff.mp hd
  unfold fitD at hf
  split at hf
  · cases hf
    have rs := fillV_rp A1 ha hds
    refine ⟨by rw [rs.len]; assumption, fun p n => ?_⟩
    have g := Gro.new (p := p) (o := .tup vs) A1.fok n
    exact h3 _ _ g.step (A1.gro g) _ (Rp.newT n rs)
  · cases hf
theorem d_lst (h : PA X es (tL tx W c)) : PE X (.List es pos) (TFx tx W (mLst c)) := pe_imp (pe_lst h) fun σ H Q q => by
  obtain ⟨F, e, A, q⟩ := q
  refine args_run c A ((RunAt.seq (RunAt.seq q)).mono fun l F1 H1 e1 s1 A1 h1 vs ha => ?_)
  obtain ⟨ds, hds, h2⟩ := RunAt.now h1
  obtain ⟨d, hf, h3⟩ := RunAt.now (h2 F1 H1 Step.refl A1)
  unfold fitD at hf
  split at hf
  · cases hf
    have rs := fillV_rp A1 ha hds
    refine ⟨by rw [rs.len]; assumption, fun p n => ?_⟩
    obtain ⟨A2, s2, nF, nO⟩ := A1.lay (ws := vs) n
    have back : H p = none ∨ OwnA σ e p := by
      by_cases o : OwnA σ e p
      · exact .inr o
      · cases q : H p with
        | none => exact .inl rfl
        | some u => rw [s1.kp p u q o] at n; cases n
    exact h3 F1 _ s2 A2 p vs upd_same (rs.mono (fun _ f => f) fun b o _ q => by rw [upd_ne (ne_of_none q n)]; exact q) nF nO back
  · cases hf
/-- a new list, plain from now on -/
theorem d_pl (h : PE X e (TFx tx W m)) : PE X e (TEx tx W (mPl m)) := pe_imp h fun _ _ _ => plain_of
end

/-! ### calls of built-ins -/
section
variable {tx : Tx} {X : Cx} {W : WX} {x : Str} {p pos : Pos} {e : Expr} {es : List Expr} {c : List Op} {f : List D → Option D} {fl : List D → Option (List D)} {g : List D → Option Bool} {r : List V → Hp → VK → Prop} {id T : String}
theorem d_callB (hc : CallR X (.builtin id) r) (hv : VL tx r f) (hg : Gl X x) (hm : X.mg x = none) (hb : bootBuiltins x = some (.builtin id)) (ha : PA X (e :: es) (tL tx W c)) (hn : x ≠ "__name__" := by decide) (hdb : (x == ("__debug__" : Str)) = false := by decide)
    (he : starEach (e :: es) X.env = (false, eval e X.env) :: starEach es X.env := by rfl) (hpl : (backTo pos (starEach es X.env)).any (·.1) = false := by rfl) : PE X (.Call (.Name x p) (e :: es) [] pos) (TEx tx W (mOp f c)) :=
  pe_imp (pe_callB hc hg hm hb ha hn hdb he hpl) fun _ _ _ h => ops_run hv h
theorem d_callT (hc : CallR X (.type T) r) (hv : VL tx r f) (hg : Gl X x) (hm : X.mg x = none) (hb : bootBuiltins x = some (.type T)) (ha : PA X (e :: es) (tL tx W c)) (hn : x ≠ "__name__" := by decide) (hdb : (x == ("__debug__" : Str)) = false := by decide)
    (he : starEach (e :: es) X.env = (false, eval e X.env) :: starEach es X.env := by rfl) (hpl : (backTo pos (starEach es X.env)).any (·.1) = false := by rfl) : PE X (.Call (.Name x p) (e :: es) [] pos) (TEx tx W (mOp f c)) :=
  pe_imp (pe_callTy hc hg hm hb ha hn hdb he hpl) fun _ _ _ h => ops_run hv h
theorem d_callTF (hc : CallR X (.type T) r) (hv : VF tx r fl) (hg : Gl X x) (hm : X.mg x = none) (hb : bootBuiltins x = some (.type T)) (ha : PA X (e :: es) (tL tx W c)) (hn : x ≠ "__name__" := by decide) (hdb : (x == ("__debug__" : Str)) = false := by decide)
    (he : starEach (e :: es) X.env = (false, eval e X.env) :: starEach es X.env := by rfl) (hpl : (backTo pos (starEach es X.env)).any (·.1) = false := by rfl) : PE X (.Call (.Name x p) (e :: es) [] pos) (TFx tx W (mOpL fl c)) :=
  pe_imp (pe_callTy hc hg hm hb ha hn hdb he hpl) fun _ _ _ h => opsF_run hv h
theorem d_callBF (hc : CallR X (.builtin id) r) (hv : VF tx r fl) (hg : Gl X x) (hm : X.mg x = none) (hb : bootBuiltins x = some (.builtin id)) (ha : PA X (e :: es) (tL tx W c)) (hn : x ≠ "__name__" := by decide) (hdb : (x == ("__debug__" : Str)) = false := by decide)
    (he : starEach (e :: es) X.env = (false, eval e X.env) :: starEach es X.env := by rfl) (hpl : (backTo pos (starEach es X.env)).any (·.1) = false := by rfl) : PE X (.Call (.Name x p) (e :: es) [] pos) (TFx tx W (mOpL fl c)) :=
  pe_imp (pe_callB hc hg hm hb ha hn hdb he hpl) fun _ _ _ h => opsF_run hv h
/-- a function of a module that the text imports -/
theorem d_callM (hc : CallR X (.builtin id) r) (hv : VL tx r f) (hg : Gl X x) (hm : X.mg x = some (.builtin id)) (ha : PA X (e :: es) (tL tx W c)) (hdb : (x == ("__debug__" : Str)) = false := by decide)
    (he : starEach (e :: es) X.env = (false, eval e X.env) :: starEach es X.env := by rfl) (hpl : (backTo pos (starEach es X.env)).any (·.1) = false := by rfl) : PE X (.Call (.Name x p) (e :: es) [] pos) (TEx tx W (mOp f c)) :=
  pe_imp (pe_callBfun hc hg hm ha hdb he hpl) fun _ _ _ h => ops_run hv h
end

/-! ### subscripts, slices -/
section
variable {tx : Tx} {X : Cx} {W : WX} {pos p2 : Pos} {a b c : Expr} {A B C : Op}
theorem d_ix (k : Ck tx X) (ha : PE X a (teO tx W A)) (hb : PE X b (teO tx W B)) (hs : PlainIx b := by exact fun _ _ => rfl) : PE X (.Subscript a b pos) (TEx tx W (mOp fIx [A, B])) :=
  pe_imp (pe_ix ix_seq ha hb hs) fun _ _ _ h => ops_run (vl_ix k.K) h
end
end Dn

/-! Dn, part E: statements -/
namespace Dn
open PySem PySem.Spec PyProof.Rows L2

/-- what is handed back: plain data, or a list of one's own -/
inductive Rv where
  | val (d : D)
  | own (xs : List D)
inductive SR where
  | nx (e : En)
  | rt (s : Rv) (e : En)
  | bk (e : En)
  | ct (e : En)
  | exc (x : Exn) (e : En)
  | bad
abbrev SM := En → SR
def SR.seq (r : SR) (f : SM) : SR := match r with
  | .nx e => f e
  | r => r
/-- a part's outcome, then a statement -/
def Res.toS {α : Type} (r : Res α) (f : α → SM) : SR := match r with
  | .ok a e => f a e
  | .exc x e => .exc x e
  | .bad => .bad

structure StepS (ps : List Nat) (σ : Sg) (e : En) (F : Fz) (H : Hp) (σ' : Sg) (e' : En) (F' : Fz) (H' : Hp) : Prop where
  st : Step σ e F H σ' e' F' H'
  pin : ∀ i ∈ ps, σ'[i]? = σ[i]?
  len : σ'.length = σ.length
section
variable {ps : List Nat} {F F1 F2 : Fz} {H H1 H2 : Hp} {σ σ1 σ2 : Sg} {e e1 e2 : En}
theorem StepS.refl : StepS ps σ e F H σ e F H := ⟨Step.refl, fun _ _ => rfl, rfl⟩
theorem StepS.trans (x : StepS ps σ e F H σ1 e1 F1 H1) (y : StepS ps σ1 e1 F1 H1 σ2 e2 F2 H2) : StepS ps σ e F H σ2 e2 F2 H2 := ⟨x.st.trans y.st, fun i h => (y.pin i h).trans (x.pin i h), y.len.trans x.len⟩
theorem StepS.of (x : Step σ e F H σ e1 F1 H1) : StepS ps σ e F H σ e1 F1 H1 := ⟨x, fun _ _ => rfl, rfl⟩
theorem Step.back (x : Step σ e F H σ1 e1 F1 H1) {a : Addr} (n : H1 a = none) : H a = none ∨ OwnA σ e a := by
  by_cases o : OwnA σ e a
  · exact .inr o
  · cases q : H a with
    | none => exact .inl rfl
    | some u => rw [x.kp a u q o] at n; cases n
theorem Step.org (x : Step σ e F H σ1 e1 F1 H1) {a : Addr} (h : H1 a = none ∨ OwnA σ1 e1 a) : H a = none ∨ OwnA σ e a := by
  rcases h with h | h
  · exact x.back h
  · exact (x.ow a h).symm
end
def RvR (K : PySem.W.Frag) (σ : Sg) (e : En) (H : Hp) (F' : Fz) (H' : Hp) (σ' : Sg) (e' : En) (v : V) : Rv → Prop
  | .val d => Rp K F' H' v d
  | .own xs => ∃ a vs, v = .ref a ∧ H' a = some (.lst vs) ∧ Rps K F' H' vs xs ∧ ¬ F' a ∧ ¬ OwnA σ' e' a ∧ (H a = none ∨ OwnA σ e a)
section
variable (tx : Tx) (W : WX) (ps : List Nat)
def SAt (r : SR) (D : Ends) (σ : Sg) (F : Fz) (H : Hp) (e : En) : Prop := match r with
  | .nx e' => ∀ σ' F' H', StepS ps σ e F H σ' e' F' H' → Abs tx.K F' H' σ' e' → D.nx σ' H'
  | .bk e' => ∀ σ' F' H', StepS ps σ e F H σ' e' F' H' → Abs tx.K F' H' σ' e' → D.bk σ' H'
  | .ct e' => ∀ σ' F' H', StepS ps σ e F H σ' e' F' H' → Abs tx.K F' H' σ' e' → D.ct σ' H'
  | .rt s e' => ∀ v σ' F' H', StepS ps σ e F H σ' e' F' H' → Abs tx.K F' H' σ' e' → RvR tx.K σ e H F' H' σ' e' v s → D.rt v H'
  | .exc x e' => ∀ cls dd σ' F' H', StepS ps σ e F H σ' e' F' H' → Abs tx.K F' H' σ' e' → XR tx F' H' x cls dd → W cls dd σ' H'
  | .bad => False
def TSx (m : SM) : TS := fun D σ H => ∃ F e, Abs tx.K F H σ e ∧ SAt tx W ps (m e) D σ F H e
end
section
variable {tx : Tx} {W : WX} {ps : List Nat} {F F1 F2 : Fz} {H H1 H2 : Hp} {σ σ1 σ2 : Sg} {e e1 e2 : En} {D D' : Ends}
/-- from a later state -/
theorem SAt.later {r : SR} (s : StepS ps σ e F H σ1 e1 F1 H1) (h : SAt tx W ps r D σ F H e) : SAt tx W ps r D σ1 F1 H1 e1 := by
  cases r with
  | nx e' => exact fun σ' F' H' s' A => h σ' F' H' (s.trans s') A
  | bk e' => exact fun σ' F' H' s' A => h σ' F' H' (s.trans s') A
  | ct e' => exact fun σ' F' H' s' A => h σ' F' H' (s.trans s') A
  | rt x e' =>
    refine fun v σ' F' H' s' A q => h v σ' F' H' (s.trans s') A ?_
    cases x with
    | val d => exact q
    | own xs =>
      obtain ⟨a, vs, h1, h2, h3, h4, h5, h6⟩ := q
      exact ⟨a, vs, h1, h2, h3, h4, h5, s.st.org h6⟩
  | exc x e' => exact fun cls dd σ' F' H' s' A => h cls dd σ' F' H' (s.trans s') A
  | bad => exact h
/-- one statement behind another -/
theorem SAt.seq {r : SR} {f : SM} (h : SAt tx W ps (r.seq f) D σ F H e) : SAt tx W ps r { D with nx := TSx tx W ps f D } σ F H e := by
  cases r with
  | nx e' =>
    have h : SAt tx W ps (f e') D σ F H e := h
    exact fun σ' F' H' s A => ⟨F', e', A, h.later s⟩
  | bk e' => exact h
  | ct e' => exact h
  | rt s e' => exact h
  | exc x e' => exact h
  | bad => exact h
/-- a statement behind a part -/
theorem SAt.part {α : Type} {r : Res α} {f : α → SM} (h : SAt tx W ps (r.toS f) D σ F H e) : RunAt tx W r σ F H e fun a F' H' e' => SAt tx W ps (f a e') D σ F' H' e' := by
  cases r with
  | ok a e' =>
    have h : SAt tx W ps (f a e') D σ F H e := h
    exact fun F' H' s A => h.later (.of s)
  | exc x e' => exact fun cls dd F' H' s A q => h cls dd σ F' H' (.of s) A q
  | bad => exact h
theorem SAt.imp {r : SR} (h : SAt tx W ps r D σ F H e) (h1 : ∀ σ H, D.nx σ H → D'.nx σ H) (h2 : ∀ v H, D.rt v H → D'.rt v H) (h3 : ∀ σ H, D.bk σ H → D'.bk σ H) (h4 : ∀ σ H, D.ct σ H → D'.ct σ H) : SAt tx W ps r D' σ F H e := by
  cases r with
  | nx e' => exact fun σ' F' H' s A => h1 _ _ (h σ' F' H' s A)
  | bk e' => exact fun σ' F' H' s A => h3 _ _ (h σ' F' H' s A)
  | ct e' => exact fun σ' F' H' s A => h4 _ _ (h σ' F' H' s A)
  | rt s e' => exact fun v σ' F' H' s A q => h2 _ _ (h v σ' F' H' s A q)
  | exc x e' => exact h
  | bad => exact h

/-! ### slots are stored -/
theorem Abs.setV {K : PySem.W.Frag} {i : Nat} {v : V} {d : PyData} (A : Abs K F H σ e) (r : Rp K F H v d) : Abs K F H (σ.set i (some v)) (e.set i (some (.val d))) where
  len := by rw [List.length_set, List.length_set]; exact A.len
  val := fun j d' h => by
    by_cases hj : i = j
    · subst hj
      by_cases hl : i < e.length
      · rw [List.getElem?_set_self hl] at h
        cases h
        exact ⟨v, List.getElem?_set_self (by rw [A.len]; exact hl), r⟩
      · rw [List.getElem?_eq_none (by simpa using hl)] at h; cases h
    · rw [List.getElem?_set_ne hj] at h
      rw [List.getElem?_set_ne hj]
      exact A.val j d' h
  own := fun j xs h => by
    by_cases hj : i = j
    · subst hj
      by_cases hl : i < e.length
      · rw [List.getElem?_set_self hl] at h; cases h
      · rw [List.getElem?_eq_none (by simpa using hl)] at h; cases h
    · rw [List.getElem?_set_ne hj] at h
      rw [List.getElem?_set_ne hj]
      exact A.own j xs h
  dis := fun j k xs ys a h1 h2 h3 h4 => by
    have g : ∀ {j : Nat} {xs : List PyData}, (e.set i (some (.val d)))[j]? = some (some (.own xs)) → i ≠ j := fun {j xs} h z => by
      subst z
      by_cases hl : i < e.length
      · rw [List.getElem?_set_self hl] at h; cases h
      · rw [List.getElem?_eq_none (by simpa using hl)] at h; cases h
    have n1 := g h1
    have n2 := g h2
    rw [List.getElem?_set_ne n1] at h1 h3
    rw [List.getElem?_set_ne n2] at h2 h4
    exact A.dis j k xs ys a h1 h2 h3 h4
  fok := A.fok
theorem ownA_setV {i : Nat} {v : V} {d : PyData} {a : Addr} (h : OwnA (σ.set i (some v)) (e.set i (some (.val d))) a) : OwnA σ e a := by
  obtain ⟨j, ys, h1, h2⟩ := h
  by_cases hj : i = j
  · subst hj
    by_cases hl : i < e.length
    · rw [List.getElem?_set_self hl] at h1; cases h1
    · rw [List.getElem?_eq_none (by simpa using hl)] at h1; cases h1
  · rw [List.getElem?_set_ne hj] at h1 h2
    exact ⟨j, ys, h1, h2⟩
theorem StepS.setV {i : Nat} {v : V} {d : PyData} (hi : i ∉ ps) : StepS ps σ e F H (σ.set i (some v)) (e.set i (some (.val d))) F H :=
  ⟨⟨fun _ f => f, fun _ _ q _ => q, fun _ f => .inl f, fun _ z => .inl (ownA_setV z)⟩, fun j hj => List.getElem?_set_ne fun z => hi (by rw [z]; exact hj), List.length_set⟩
/-- a list of one's own goes into slot i -/
theorem Abs.setO {K : PySem.W.Frag} {i : Nat} {a : Addr} {vs : List V} {xs : List PyData} (A : Abs K F H σ e) (ha : H a = some (.lst vs)) (r : Rps K F H vs xs) (nF : ¬ F a) (nO : ¬ OwnA σ e a) :
    Abs K F H (σ.set i (some (.ref a))) (e.set i (some (.own xs))) where
  len := by rw [List.length_set, List.length_set]; exact A.len
  val := fun j d' h => by
    by_cases hj : i = j
    · subst hj
      by_cases hl : i < e.length
      · rw [List.getElem?_set_self hl] at h; cases h
      · rw [List.getElem?_eq_none (by simpa using hl)] at h; cases h
    · rw [List.getElem?_set_ne hj] at h
      rw [List.getElem?_set_ne hj]
      exact A.val j d' h
  own := fun j ys h => by
    by_cases hj : i = j
    · subst hj
      by_cases hl : i < e.length
      · rw [List.getElem?_set_self hl] at h
        cases h
        exact ⟨a, vs, List.getElem?_set_self (by rw [A.len]; exact hl), ha, r, nF⟩
      · rw [List.getElem?_eq_none (by simpa using hl)] at h; cases h
    · rw [List.getElem?_set_ne hj] at h
      rw [List.getElem?_set_ne hj]
      exact A.own j ys h
  dis := fun j k ys zs b h1 h2 h3 h4 => by
    by_cases hj : i = j
    · by_cases hk : i = k
      · rw [← hj, ← hk]
      · subst hj
        by_cases hl : i < e.length
        · rw [List.getElem?_set_self (by rw [A.len]; exact hl)] at h3
          cases h3
          rw [List.getElem?_set_ne hk] at h2 h4
          exact absurd ⟨k, zs, h2, h4⟩ nO
        · rw [List.getElem?_eq_none (by simpa using hl)] at h1; cases h1
    · by_cases hk : i = k
      · subst hk
        by_cases hl : i < e.length
        · rw [List.getElem?_set_self (by rw [A.len]; exact hl)] at h4
          cases h4
          rw [List.getElem?_set_ne hj] at h1 h3
          exact absurd ⟨j, ys, h1, h3⟩ nO
        · rw [List.getElem?_eq_none (by simpa using hl)] at h2; cases h2
      · rw [List.getElem?_set_ne hj] at h1 h3
        rw [List.getElem?_set_ne hk] at h2 h4
        exact A.dis j k ys zs b h1 h2 h3 h4
  fok := A.fok
theorem ownA_setO {i : Nat} {a b : Addr} {xs : List PyData} (h : OwnA (σ.set i (some (.ref a))) (e.set i (some (.own xs))) b) : OwnA σ e b ∨ b = a := by
  obtain ⟨j, ys, h1, h2⟩ := h
  by_cases hj : i = j
  · subst hj
    by_cases hl : i < σ.length
    · rw [List.getElem?_set_self hl] at h2; cases h2; exact .inr rfl
    · rw [List.getElem?_eq_none (by simpa using hl)] at h2; cases h2
  · rw [List.getElem?_set_ne hj] at h1 h2
    exact .inl ⟨j, ys, h1, h2⟩
end

/-! ### small statements -/
def sPass : SM := fun e => .nx e
def sSeq (a b : SM) : SM := fun e => (a e).seq b
def sSet (i : Nat) (m : En → Res D) : SM := fun e => (m e).toS fun d e' => .nx (e'.set i (some (.val d)))
def sSetF (i : Nat) (m : En → Res (List D)) : SM := fun e => (m e).toS fun xs e' => .nx (e'.set i (some (.own xs)))
def sExp (m : En → Res D) : SM := fun e => (m e).toS fun _ e' => .nx e'
def sRet (m : En → Res D) : SM := fun e => (m e).toS fun d e' => .rt (.val d) e'
def sRetF (m : En → Res (List D)) : SM := fun e => (m e).toS fun xs e' => .rt (.own xs) e'
def sIf (c : En → Res Bool) (a b : SM) : SM := fun e => (c e).toS fun t e' => if t = true then a e' else b e'
section
variable {tx : Tx} {X : Cx} {W : WX} {ps : List Nat} {st : Stmt} {rest : List Stmt} {a b : SM} {m : En → Res D} {mf : En → Res (List D)} {c : En → Res Bool} {ex : Expr} {pos pos' : Pos}
theorem s_nil : PSs X [] (TSx tx W ps sPass) := pss_imp pss_nil fun D σ H ⟨F, e, A, h⟩ => h σ F H .refl A
theorem s_pass : PS X (.Pass pos) (TSx tx W ps sPass) := ps_imp ps_pass fun D σ H ⟨F, e, A, h⟩ => h σ F H .refl A
theorem s_one (h : PS X st (TSx tx W ps a)) : PSs X [st] (TSx tx W ps a) := pss_one h
theorem s_cons (h : PS X st (TSx tx W ps a)) (hr : PSs X rest (TSx tx W ps b)) : PSs X (st :: rest) (TSx tx W ps (sSeq a b)) := pss_imp (pss_cons h hr) fun D σ H ⟨F, e, A, h⟩ => ⟨F, e, A, h.seq⟩
theorem s_break : PS X (.Break pos) (TSx tx W ps fun e => .bk e) := ps_imp ps_break fun D σ H ⟨F, e, A, h⟩ => h σ F H .refl A
theorem s_continue : PS X (.Continue pos) (TSx tx W ps fun e => .ct e) := ps_imp ps_continue fun D σ H ⟨F, e, A, h⟩ => h σ F H .refl A
theorem s_exp (he : PE X ex (TEx tx W m)) (hs : swapsWith ex none pos.line X.env = pure false := by rfl) : PS X (.Expr ex pos) (TSx tx W ps (sExp m)) := ps_imp (ps_expr he hs) fun D σ H ⟨F, e, A, h⟩ =>
  ⟨F, e, A, h.part.mono fun d F' H' e' s A' q v _ => q σ F' H' .refl A'⟩
theorem s_ret (he : PE X ex (TEx tx W m)) : PS X (.Return (some ex) pos) (TSx tx W ps (sRet m)) := ps_imp (ps_ret he) fun D σ H ⟨F, e, A, h⟩ =>
  ⟨F, e, A, h.part.mono fun d F' H' e' s A' q v r => q v σ F' H' .refl A' r⟩
theorem s_retN : PS X (.Return none pos) (TSx tx W ps fun e => .rt (.val .none) e) := ps_imp ps_retN fun D σ H ⟨F, e, A, h⟩ => h _ σ F H .refl A .non
theorem s_if {a' b' : List Stmt} {ce : Expr} (hc : PT X ce (TTx tx W c)) (ha : PSs X a' (TSx tx W ps a)) (hb : PSs X b' (TSx tx W ps b)) : PS X (.If ce a' b' pos) (TSx tx W ps (sIf c a b)) := ps_imp (ps_if hc ha hb) fun D σ H ⟨F, e, A, h⟩ => by
  refine ⟨F, e, A, h.part.mono fun t F' H' e' s A' q => ?_⟩
  cases t with
  | true => exact iteT ⟨F', e', A', q⟩
  | false => exact iteF ⟨F', e', A', q⟩
/-- x = e -/
theorem s_set (k : Ck tx X) (i : Nat) {x : Str} (he : PE X ex (TEx tx W m)) (hp : i ∉ ps := by decide) (hi : X.N[i]? = some x := by rfl) (hx : Loc X.env.scope x := by first | exact Or.inl rfl | exact Or.inr rfl)
    (hs : swapsWith ex (some (.Name x pos')) pos.line X.env = pure false := by rfl) (hf : X.fn x = true ∨ X.env.scope.names.lookup x = some .local := by first | exact .inl rfl | exact .inr rfl | assumption) :
    PS X (.Assign [.Name x pos'] ex pos) (TSx tx W ps (sSet i m)) := ps_imp (ps_set k.nd hi hx he hs hf) fun D σ H ⟨F, e, A, h⟩ =>
  ⟨F, e, A, h.part.mono fun d F' H' e' s A' q v r => q _ F' H' (.setV hp) (A'.setV r)⟩
/-- x = a new list that will be changed -/
theorem s_setF (k : Ck tx X) (i : Nat) {x : Str} (he : PE X ex (TFx tx W mf)) (hp : i ∉ ps := by decide) (hi : X.N[i]? = some x := by rfl) (hx : Loc X.env.scope x := by first | exact Or.inl rfl | exact Or.inr rfl)
    (hs : swapsWith ex (some (.Name x pos')) pos.line X.env = pure false := by rfl) (hf : X.fn x = true ∨ X.env.scope.names.lookup x = some .local := by first | exact .inl rfl | exact .inr rfl | assumption) :
    PS X (.Assign [.Name x pos'] ex pos) (TSx tx W ps (sSetF i mf)) := ps_imp (ps_set k.nd hi hx he hs hf) fun D σ H ⟨F, e, A, h⟩ => by
  refine ⟨F, e, A, ?_⟩
  cases q : mf e with
  | ok xs e' =>
    unfold sSetF at h
    rw [q] at h
    intro F' H' s A' a vs ha r nF nO og
    refine h _ F' H' ⟨⟨s.fr, s.kp, s.nw, fun b z => ?_⟩, fun j hj => List.getElem?_set_ne fun z => hp (by rw [z]; exact hj), List.length_set⟩ (A'.setO ha r nF nO)
    rcases ownA_setO z with z | rfl
    · exact s.ow b z
    · exact og.symm
  | exc x e' =>
    unfold sSetF at h
    rw [q] at h
    exact fun cls dd F' H' s A q => h cls dd σ F' H' (.of s) A q
  | bad =>
    unfold sSetF at h
    rw [q] at h
    exact h
/-- return a new list, or a list of one's own -/
theorem s_retF (he : PE X ex (TFx tx W mf)) : PS X (.Return (some ex) pos) (TSx tx W ps (sRetF mf)) := ps_imp (ps_ret he) fun D σ H ⟨F, e, A, h⟩ => by
  refine ⟨F, e, A, ?_⟩
  cases q : mf e with
  | ok xs e' =>
    unfold sRetF at h
    rw [q] at h
    intro F' H' s A' a vs ha r nF nO og
    exact h _ σ F' H' (.of s) A' ⟨a, vs, rfl, ha, r, nF, nO, og⟩
  | exc x e' =>
    unfold sRetF at h
    rw [q] at h
    exact fun cls dd F' H' s A q => h cls dd σ F' H' (.of s) A q
  | bad =>
    unfold sRetF at h
    rw [q] at h
    exact h
end
/-- a list of one's own, handed on -/
def mMove (i : Nat) (e : En) : Res (List D) := match e[i]? with
  | some (some (.own xs)) => .ok xs (e.set i none)
  | _ => .bad
section
variable {tx : Tx} {X : Cx} {W : WX} {σ : Sg} {H : Hp} {Q : VK} {i : Nat}
theorem Abs.drop {K : PySem.W.Frag} {F : Fz} {e : En} (A : Abs K F H σ e) : Abs K F H σ (e.set i none) := by
  have g : ∀ {j : Nat} {s : Sl}, (e.set i none)[j]? = some (some s) → e[j]? = some (some s) := fun {j s} h => by
    by_cases hj : i = j
    · subst hj
      by_cases hl : i < e.length
      · rw [List.getElem?_set_self hl] at h; cases h
      · rw [List.getElem?_eq_none (by simpa using hl)] at h; cases h
    · rw [List.getElem?_set_ne hj] at h; exact h
  exact ⟨by rw [List.length_set]; exact A.len, fun j d h => A.val j d (g h), fun j xs h => A.own j xs (g h), fun j k xs ys a h1 h2 h3 h4 => A.dis j k xs ys a (g h1) (g h2) h3 h4, A.fok⟩
theorem t_move (h : TFx tx W (mMove i) σ H Q) : tVar i σ H Q := by
  obtain ⟨F, e, A, h⟩ := h
  unfold mMove at h
  split at h
  · rename_i xs q
    obtain ⟨a, vs, h1, h2, h3, h4⟩ := A.own i xs q
    have hil : i < e.length := (List.getElem?_eq_some_iff.mp q).1
    refine ⟨_, h1, h F H ⟨fun _ f => f, fun _ _ q _ => q, fun _ f => .inl f, fun b z => .inl ?_⟩ A.drop a vs h2 h3 h4 ?_ (.inr ⟨i, xs, q, h1⟩)⟩
    · obtain ⟨j, ys, z1, z2⟩ := z
      by_cases hj : i = j
      · subst hj; rw [List.getElem?_set_self hil] at z1; cases z1
      · rw [List.getElem?_set_ne hj] at z1; exact ⟨j, ys, z1, z2⟩
    · rintro ⟨j, ys, z1, z2⟩
      by_cases hj : i = j
      · subst hj; rw [List.getElem?_set_self hil] at z1; cases z1
      · rw [List.getElem?_set_ne hj] at z1
        exact hj (A.dis i j xs ys a q z1 h1 z2)
  · exact h.elim
theorem d_move (i : Nat) {x : Str} {pos : Pos} (hN : X.N[i]? = some x := by rfl) (hv : Vis X.env.scope x := by first | exact Or.inl rfl | exact Or.inr (Or.inl rfl) | exact Or.inr (Or.inr rfl)) (hd : (x == ("__debug__" : Str)) = false := by decide)
    (hcd : (x == ("__classdict__" : Str)) = false := by decide) : PE X (.Name x pos) (TFx tx W (mMove i)) := pe_imp (pe_var hN hv hd hcd) fun _ _ _ => t_move
end

/-! ### targets -/
/-- what a target makes of the environment -/
abbrev GM := D → SM
def gN (i : Nat) : GM := fun d e => .nx (e.set i (some (.val d)))
def gAll : List GM → List D → SM
  | [], [], e => .nx e
  | g :: gs, d :: ds, e => (g d e).seq (gAll gs ds)
  | _, _, _ => .bad
abbrev eG (Q : Sg → Hp → Prop) : Ends := { nx := Q, rt := fun _ _ => False }
section
variable (tx : Tx) (W : WX) (ps : List Nat)
def TGx (g : GM) : TG := fun v σ H Q => ∃ F e d, Abs tx.K F H σ e ∧ Rp tx.K F H v d ∧ SAt tx W ps (g d e) (eG Q) σ F H e
def TGsx (gs : List GM) : TGs := fun vs σ H Q => ∃ F e ds, Abs tx.K F H σ e ∧ Rps tx.K F H vs ds ∧ SAt tx W ps (gAll gs ds e) (eG Q) σ F H e
end
section
variable {tx : Tx} {X : Cx} {W : WX} {ps : List Nat} {ex : Expr} {es : List Expr} {g : GM} {gs : List GM} {pos : Pos}
theorem pg_imp {t t' : TG} (h : PG X ex t) (hi : ∀ v σ H Q, t' v σ H Q → t v σ H Q) : PG X ex t' := ⟨fun pins s σ H v u Q I r q => h.run pins s σ H v u Q I r (hi v σ H Q q)⟩
theorem pgs_imp {t t' : TGs} (h : PGs X es t) (hi : ∀ v σ H Q, t' v σ H Q → t v σ H Q) : PGs X es t' := ⟨fun pins s σ H v u Q I r q => h.run pins s σ H v u Q I r (hi v σ H Q q)⟩
theorem g_name (k : Ck tx X) (i : Nat) {x : Str} (hp : i ∉ ps := by decide) (hi : X.N[i]? = some x := by rfl) (hx : Loc X.env.scope x := by first | exact Or.inl rfl | exact Or.inr rfl)
    (hf : X.fn x = true ∨ X.env.scope.names.lookup x = some .local := by first | exact .inl rfl | exact .inr rfl | assumption) : PG X (.Name x pos) (TGx tx W ps (gN i)) :=
  pg_imp (pg_name k.nd hi hx hf) fun v σ H Q ⟨F, e, d, A, r, h⟩ => h _ F H (.setV hp) (A.setV r)
theorem g_nil : PGs X [] (TGsx tx W ps []) := pgs_imp pgs_nil fun vs σ H Q ⟨F, e, ds, A, r, h⟩ => by
  cases ds with
  | nil =>
    cases r
    exact ⟨rfl, h σ F H .refl A⟩
  | cons d ds => exact (show False from h).elim
theorem g_cons (h1 : PG X ex (TGx tx W ps g)) (h2 : PGs X es (TGsx tx W ps gs)) (hs : (assignEach (ex :: es) X.env).map (·.2) = assign ex X.env :: (assignEach es X.env).map (·.2) := by rfl) : PGs X (ex :: es) (TGsx tx W ps (g :: gs)) :=
  pgs_imp (pgs_cons h1 h2 hs) fun vs σ H Q ⟨F, e, ds, A, r, h⟩ => by
    cases ds with
    | nil => exact (show False from h).elim
    | cons d ds =>
      cases r with
      | cons r1 r2 =>
        have h : SAt tx W ps ((g d e).seq (gAll gs ds)) (eG Q) σ F H e := h
        refine ⟨_, _, rfl, F, e, d, A, r1, ?_⟩
        cases q : g d e with
        | nx e1 =>
          rw [q] at h
          have h : SAt tx W ps (gAll gs ds e1) (eG Q) σ F H e := h
          exact fun σ1 F1 H1 s1 A1 => ⟨F1, e1, ds, A1, A.rps s1.st r2, h.later s1⟩
        | rt s e1 => rw [q] at h; exact fun v σ' F' H' s A q => h v σ' F' H' s A q
        | bk e1 => rw [q] at h; exact fun σ' F' H' s A => h σ' F' H' s A
        | ct e1 => rw [q] at h; exact fun σ' F' H' s A => h σ' F' H' s A
        | exc x e1 => rw [q] at h; exact h
        | bad => rw [q] at h; exact h
/-- a tuple of that many -/
def gTn (n : Nat) (gs : List GM) : GM := fun d e => match d with
  | .tuple ds => if ds.length = n then gAll gs ds e else .bad
  | _ => .bad
theorem g_tup {n j : Nat} (k : Ck tx X) (hc : X.calm = true) (h : PGs X es (TGsx tx W ps gs)) (hn : (assignEach es X.env).length = n := by rfl) (hst : (assignEach es X.env).findIdx? (·.1) = none := by rfl) : PG X (.Tuple es j pos) (TGx tx W ps (gTn n gs)) :=
  pg_imp (pg_tup hc h hn hst) fun v σ H Q ⟨F, e, d, A, r, q⟩ => by
    unfold gTn at q
    cases r with
    | tup f r =>
      have q : SAt tx W ps (if _ then _ else _) (eG Q) σ F H e := q
      split at q
      · rename_i hl
        exact ⟨_, _, rfl, by rw [k.K]; exact f.sq, by rw [r.len, hl], F, e, _, A, r, q⟩
      · exact (show False from q).elim
    | _ => exact (show False from q).elim
/-- target = value -/
def sAsg (g : GM) (m : En → Res D) : SM := fun e => (m e).toS g
theorem SAt.nxOnly {r : SR} {D D' : Ends} {σ : Sg} {F : Fz} {H : Hp} {e : En} (h : SAt tx W ps r D σ F H e) (hr : ∀ e' s, r ≠ .rt s e' ∧ r ≠ .bk e' ∧ r ≠ .ct e') (h1 : ∀ σ H, D.nx σ H → D'.nx σ H) : SAt tx W ps r D' σ F H e := by
  cases r with
  | nx e' => exact fun σ' F' H' s A => h1 _ _ (h σ' F' H' s A)
  | bk e' => exact absurd rfl (hr e' (.val .none)).2.1
  | ct e' => exact absurd rfl (hr e' (.val .none)).2.2
  | rt s e' => exact absurd rfl (hr e' s).1
  | exc x e' => exact h
  | bad => exact h
/-- a target never leaves -/
structure GQ (g : GM) : Prop where
  q : ∀ d e e' s, g d e ≠ .rt s e' ∧ g d e ≠ .bk e' ∧ g d e ≠ .ct e'
theorem gq_name {i : Nat} : GQ (gN i) := ⟨fun d e e' s => ⟨(by intro z; cases z), (by intro z; cases z), (by intro z; cases z)⟩⟩
theorem gq_all : ∀ {gs : List GM}, (∀ g ∈ gs, GQ g) → ∀ ds e e' s, gAll gs ds e ≠ .rt s e' ∧ gAll gs ds e ≠ .bk e' ∧ gAll gs ds e ≠ .ct e'
  | [], _, [], e, e', s => ⟨(by intro z; cases z), (by intro z; cases z), (by intro z; cases z)⟩
  | [], _, _ :: _, e, e', s => ⟨(by intro z; cases z), (by intro z; cases z), (by intro z; cases z)⟩
  | _ :: _, _, [], e, e', s => ⟨(by intro z; cases z), (by intro z; cases z), (by intro z; cases z)⟩
  | g :: gs, hg, d :: ds, e, e', s => by
    have q := (hg g List.mem_cons_self).q d e
    have ih := fun e1 => gq_all (fun g h => hg g (List.mem_cons_of_mem _ h)) ds e1 e' s
    show (g d e).seq (gAll gs ds) ≠ .rt s e' ∧ (g d e).seq (gAll gs ds) ≠ .bk e' ∧ (g d e).seq (gAll gs ds) ≠ .ct e'
    cases r : g d e with
    | nx e1 => exact ih e1
    | rt s1 e1 => exact absurd r (q e1 s1).1
    | bk e1 => exact absurd r (q e1 s).2.1
    | ct e1 => exact absurd r (q e1 s).2.2
    | exc x e1 => exact ⟨(by intro z; cases z), (by intro z; cases z), (by intro z; cases z)⟩
    | bad => exact ⟨(by intro z; cases z), (by intro z; cases z), (by intro z; cases z)⟩
theorem gq_tup {n : Nat} {gs : List GM} (h : ∀ g ∈ gs, GQ g) : GQ (gTn n gs) := ⟨fun d e e' s => by
  unfold gTn
  split
  · split
    · exact gq_all h _ _ _ _
    · exact ⟨(by intro z; cases z), (by intro z; cases z), (by intro z; cases z)⟩
  · exact ⟨(by intro z; cases z), (by intro z; cases z), (by intro z; cases z)⟩⟩
theorem gq_nil : ∀ g ∈ ([] : List GM), GQ g := fun _ h => nomatch h
theorem gq_cons {g : GM} {gs : List GM} (h : GQ g) (r : ∀ g ∈ gs, GQ g) : ∀ g' ∈ g :: gs, GQ g' := fun g' hm => by
  rcases List.mem_cons.mp hm with rfl | hm
  · exact h
  · exact r _ hm
theorem s_asg {tg : Expr} {m : En → Res D} (he : PE X ex (TEx tx W m)) (hg : PG X tg (TGx tx W ps g)) (gq : GQ g) (hs : swapsWithSole [tg] ex pos.line X.env = pure false := by rfl) (hw : swappedStores [tg] ex X.env = pure none := by rfl)
    (h1 : (assignEach [tg] X.env).map (·.2) = [assign tg X.env] := by rfl) : PS X (.Assign [tg] ex pos) (TSx tx W ps (sAsg g m)) := ps_imp (ps_asg he hg hs hw h1) fun D σ H ⟨F, e, A, h⟩ => by
  refine ⟨F, e, A, h.part.mono fun d F' H' e' s A' q v r => ?_⟩
  exact ⟨F', e', d, A', r, q.nxOnly (gq.q d e') fun _ _ z => z⟩
end
end Dn

/-! Dn, part F: lists of one's own are changed; several names at once; loops -/
namespace Dn
open PySem PySem.Spec PyProof.Rows L2

section
variable {K : PySem.W.Frag} {F : Fz} {H : Hp} {σ : Sg} {e : En} {i : Nat} {a : Addr} {vs ws : List V} {xs ys : List D}
/-- the list in slot i is changed -/
theorem Abs.mut (A : Abs K F H σ e) (he : e[i]? = some (some (.own xs))) (hs : σ[i]? = some (some (.ref a))) (nF : ¬ F a) (r : Rps K F H ws ys) :
    Abs K F (upd H a (.lst ws)) σ (e.set i (some (.own ys))) ∧ Step σ e F H σ (e.set i (some (.own ys))) F (upd H a (.lst ws)) := by
  have hil : i < e.length := (List.getElem?_eq_some_iff.mp he).1
  have own_a : OwnA σ e a := ⟨i, xs, he, hs⟩
  have kp : ∀ b o, F b → H b = some o → upd H a (.lst ws) b = some o := fun b o f q => by
    rw [upd_ne (fun z => nF (by rw [← z]; exact f))]; exact q
  refine ⟨⟨by rw [List.length_set]; exact A.len, fun j d h => ?_, fun j zs h => ?_, fun j k zs us b h1 h2 h3 h4 => ?_, fun b f => ?_⟩, ⟨fun _ f => f, fun b o q n => ?_, fun _ f => .inl f, fun b z => .inl ?_⟩⟩
  · by_cases hj : i = j
    · subst hj; rw [List.getElem?_set_self hil] at h; cases h
    · rw [List.getElem?_set_ne hj] at h
      obtain ⟨v, h1, h2⟩ := A.val j d h
      exact ⟨v, h1, h2.mono (fun _ f => f) kp⟩
  · by_cases hj : i = j
    · subst hj
      rw [List.getElem?_set_self hil] at h
      cases h
      exact ⟨a, ws, hs, upd_same, r.mono (fun _ f => f) kp, nF⟩
    · rw [List.getElem?_set_ne hj] at h
      obtain ⟨b, us, h1, h2, h3, h4⟩ := A.own j zs h
      have nb : b ≠ a := fun z => hj (A.dis i j xs zs a he h hs (by rw [← z]; exact h1))
      exact ⟨b, us, h1, by rw [upd_ne nb]; exact h2, h3.mono (fun _ f => f) kp, h4⟩
  · have g : ∀ {j : Nat} {zs : List D}, (e.set i (some (.own ys)))[j]? = some (some (.own zs)) → ∃ zs', e[j]? = some (some (.own zs')) := fun {j zs} h => by
      by_cases hj : i = j
      · subst hj; exact ⟨xs, he⟩
      · rw [List.getElem?_set_ne hj] at h; exact ⟨zs, h⟩
    obtain ⟨z1, g1⟩ := g h1
    obtain ⟨z2, g2⟩ := g h2
    exact A.dis j k z1 z2 b g1 g2 h3 h4
  · by_cases hb : b = a
    · rw [hb, upd_same]; simp
    · rw [upd_ne hb]; exact A.fok b f
  · rw [upd_ne (fun z => n (by rw [z]; exact own_a))]; exact q
  · obtain ⟨j, zs, z1, z2⟩ := z
    by_cases hj : i = j
    · subst hj; exact ⟨i, xs, he, z2⟩
    · rw [List.getElem?_set_ne hj] at z1; exact ⟨j, zs, z1, z2⟩
end
def rdOwn (e : En) (i : Nat) : Option (List D) := match e[i]? with
  | some (some (.own xs)) => some xs
  | _ => none
theorem rdOwn_at {e : En} {i : Nat} {xs : List D} (h : rdOwn e i = some xs) : e[i]? = some (some (.own xs)) := by
  unfold rdOwn at h
  split at h
  · cases h; assumption
  · cases h
/-- x.append(A) -/
def mAppend (i : Nat) (A : Op) (e : En) : Res D := (lift (rdOwn e i) e).bind fun _ e => (evV [A] e).bind fun ds e1 => match ds with
  | [d] => (lift (rdOwn e1 i) e1).bind fun xs e1 => if xs.length < sizeLine then .ok .none (e1.set i (some (.own (xs ++ [d])))) else .bad
  | _ => .bad
def popD (xs : List D) (k : Int) : Option (D × List D) := if xs.length ≤ sizeLine then (ixN xs.length k).bind fun j => (xs[j]?).map fun d => (d, xs.eraseIdx j) else none
/-- x.pop(A) -/
def mPopAt (i : Nat) (A : Op) (e : En) : Res D := (lift (rdOwn e i) e).bind fun _ e => (evL [A] e).bind fun ds e1 => match ds with
  | [.int k] => (lift (rdOwn e1 i) e1).bind fun xs e1 => (lift (popD xs k) e1).bind fun p e1 => .ok p.1 (e1.set i (some (.own p.2)))
  | _ => .bad
/-- x.pop() -/
def mPop (i : Nat) (e : En) : Res D := (lift (rdOwn e i) e).bind fun xs e => match xs[xs.length - 1]? with
  | some d => .ok d (e.set i (some (.own xs.dropLast)))
  | none => .bad
theorem Rps.one {K : PySem.W.Frag} {F : Fz} {H : Hp} {vs : List V} {d : D} (h : Rps K F H vs [d]) : ∃ v, vs = [v] ∧ Rp K F H v d := by
  cases h with
  | cons h r => cases r; exact ⟨_, rfl, h⟩
theorem Rps.butLast {K : PySem.W.Frag} {F : Fz} {H : Hp} {vs : List V} {ds : List D} (h : Rps K F H vs ds) : Rps K F H vs.dropLast ds.dropLast := by
  rw [List.dropLast_eq_take, List.dropLast_eq_take, h.len]
  exact h.take _
section
variable {tx : Tx} {X : Cx} {W : WX} {σ : Sg} {H : Hp} {i : Nat} {A : Op} {x : Str} {xp ap pos : Pos} {ex : Expr}
theorem own_ty {K : PySem.W.Frag} {F : Fz} {e : En} {xs : List D} (Ab : Abs K F H σ e) (he : e[i]? = some (some (.own xs))) : ∃ a vs, σ[i]? = some (some (.ref a)) ∧ tyV K "list" (.ref a) H ∧ H a = some (.lst vs) ∧ Rps K F H vs xs ∧ ¬ F a := by
  obtain ⟨a, vs, h1, h2, h3, h4⟩ := Ab.own i xs he
  exact ⟨a, vs, h1, .inl ⟨rfl, vs, .inl (.inl h2)⟩, h2, h3, h4⟩
theorem d_append (k : Ck tx X) (i : Nat) {x : Str} (ha : PE X ex (teO tx W A)) (hN : X.N[i]? = some x := by rfl) (hv : Vis X.env.scope x := by first | exact Or.inl rfl | exact Or.inr (Or.inl rfl) | exact Or.inr (Or.inr rfl)) (hd : (x == ("__debug__" : Str)) = false := by decide)
    (hcd : (x == ("__classdict__" : Str)) = false := by decide) (hs : starEach [ex] X.env = (false, eval ex X.env) :: starEach [] X.env := by rfl) (hb : attributeBase (.Name x xp) "append" X.env (eval (.Name x xp) X.env) = eval (.Name x xp) X.env := by rfl)
    (hf : ((backTo pos (starEach [ex] X.env)).all (fun x => !x.1) && (backToKw pos (keywordEach [] X.env)).all (fun x => x.1.isSome) && decide ([ex].length + ([] : List Keyword).length + (if ([] : List Keyword).isEmpty then 0 else 1) < 30)) = true := by rfl) (hl : (ap.endLine == pos.line) = true := by rfl) :
    PE X (.Call (.Attribute (.Name x xp) "append" ap) [ex] [] pos) (TEx tx W (mAppend i A)) :=
  pe_imp (pe_bm PySem.F.plainAttrs_list PySem.F.slot_list_append PySem.F.type_list_append mt_append (pe_var hN hv hd hcd) (pa_cons ha pa_nil hs) hb hf hl hs) fun σ H Q ⟨F, e, Ab, h⟩ => by
    obtain ⟨xs, hx, h⟩ := RunAt.now (RunAt.seq h)
    have h := h F H .refl Ab
    have he := rdOwn_at hx
    obtain ⟨a, vs, h1, h2, h3, h4, h5⟩ := own_ty Ab he
    refine ⟨.ref a, h1, by rw [k.K]; exact h2, ?_⟩
    refine args_run (tx := tx) (W := W) [A] Ab ((RunAt.seq (RunAt.seq h)).mono fun l F1 H1 e1 s1 A1 q us ha => ?_)
    obtain ⟨ds, hds, q⟩ := RunAt.now q
    have q := q F1 H1 .refl A1
    have rs := fillV_rp A1 ha hds
    match ds, rs, q with
    | [d], rs, q =>
      obtain ⟨v, rfl, rv⟩ := rs.one
      obtain ⟨xs1, hx1, q⟩ := RunAt.now (RunAt.seq q)
      have q := q F1 H1 .refl A1
      have he1 := rdOwn_at hx1
      obtain ⟨a', vs1, g1, _, g3, g4, g5⟩ := own_ty A1 he1
      rw [h1] at g1
      cases g1
      split at q
      · rename_i hz
        obtain ⟨A2, s2⟩ := A1.mut he1 h1 g5 (g4.app (.cons rv .nil))
        exact ⟨a, vs1, v, rfl, rfl, g3, by rw [g4.len]; exact hz, q _ _ s2 A2 _ .non⟩
      · exact q.elim
    | [], _, q => exact q.elim
    | _ :: _ :: _, _, q => exact q.elim
theorem d_popAt (k : Ck tx X) (i : Nat) {x : Str} (ha : PE X ex (teO tx W A)) (hN : X.N[i]? = some x := by rfl) (hv : Vis X.env.scope x := by first | exact Or.inl rfl | exact Or.inr (Or.inl rfl) | exact Or.inr (Or.inr rfl)) (hd : (x == ("__debug__" : Str)) = false := by decide)
    (hcd : (x == ("__classdict__" : Str)) = false := by decide) (hs : starEach [ex] X.env = (false, eval ex X.env) :: starEach [] X.env := by rfl) (hb : attributeBase (.Name x xp) "pop" X.env (eval (.Name x xp) X.env) = eval (.Name x xp) X.env := by rfl)
    (hf : ((backTo pos (starEach [ex] X.env)).all (fun x => !x.1) && (backToKw pos (keywordEach [] X.env)).all (fun x => x.1.isSome) && decide ([ex].length + ([] : List Keyword).length + (if ([] : List Keyword).isEmpty then 0 else 1) < 30)) = true := by rfl) (hl : (ap.endLine == pos.line) = true := by rfl) :
    PE X (.Call (.Attribute (.Name x xp) "pop" ap) [ex] [] pos) (TEx tx W (mPopAt i A)) :=
  pe_imp (pe_bm PySem.F.plainAttrs_list PySem.F.slot_list_pop PySem.F.type_list_pop mt_popAt (pe_var hN hv hd hcd) (pa_cons ha pa_nil hs) hb hf hl hs) fun σ H Q ⟨F, e, Ab, h⟩ => by
    obtain ⟨xs, hx, h⟩ := RunAt.now (RunAt.seq h)
    have h := h F H .refl Ab
    have he := rdOwn_at hx
    obtain ⟨a, vs, h1, h2, h3, h4, h5⟩ := own_ty Ab he
    refine ⟨.ref a, h1, by rw [k.K]; exact h2, ?_⟩
    refine args_run (tx := tx) (W := W) [A] Ab ((RunAt.seq (RunAt.seq h)).mono fun l F1 H1 e1 s1 A1 q us ha => ?_)
    obtain ⟨ds, hds, q⟩ := RunAt.now q
    have q := q F1 H1 .refl A1
    have rs := fill_pk A1 ha hds
    match ds, rs, q with
    | [.int n], rs, q =>
      obtain ⟨v, rfl, rv⟩ := Pks.one rs
      obtain ⟨xs1, hx1, q⟩ := RunAt.now (RunAt.seq q)
      have q := q F1 H1 .refl A1
      obtain ⟨p, hp, q⟩ := RunAt.now (RunAt.seq q)
      have q := q F1 H1 .refl A1
      have he1 := rdOwn_at hx1
      obtain ⟨a', vs1, g1, _, g3, g4, g5⟩ := own_ty A1 he1
      rw [h1] at g1
      cases g1
      unfold popD at hp
      split at hp
      · rename_i hz
        obtain ⟨j, hj, hp⟩ := Option.bind_eq_some_iff.mp hp
        obtain ⟨d, hd', rfl⟩ := Option.map_eq_some_iff.mp hp
        obtain ⟨w, hw, rw'⟩ := g4.get hd'
        obtain ⟨A2, s2⟩ := A1.mut he1 h1 g5 (g4.erase j)
        obtain ⟨i1, i2, i3, i4⟩ := ixN_seq hj
        have hlen := g4.len
        have := line63
        rw [rv.int]
        exact ⟨a, vs1, n, j, w, rfl, rfl, g3, by omega, by omega, by rw [hlen]; exact i1, hw, q _ _ s2 A2 _ (A1.rp s2 rw')⟩
      · cases hp
    | [], _, q => exact q.elim
    | [.none], _, q => exact q.elim
    | [.bool _], _, q => exact q.elim
    | [.str _], _, q => exact q.elim
    | [.list _], _, q => exact q.elim
    | [.tuple _], _, q => exact q.elim
    | [.dict _], _, q => exact q.elim
    | d :: _ :: _, _, q => exact (show False by cases d <;> exact q).elim
theorem d_pop (k : Ck tx X) (i : Nat) {x : Str} (hN : X.N[i]? = some x := by rfl) (hv : Vis X.env.scope x := by first | exact Or.inl rfl | exact Or.inr (Or.inl rfl) | exact Or.inr (Or.inr rfl)) (hd : (x == ("__debug__" : Str)) = false := by decide)
    (hcd : (x == ("__classdict__" : Str)) = false := by decide) (hb : attributeBase (.Name x xp) "pop" X.env (eval (.Name x xp) X.env) = eval (.Name x xp) X.env := by rfl) (hl : (ap.endLine == pos.line) = true := by rfl) :
    PE X (.Call (.Attribute (.Name x xp) "pop" ap) [] [] pos) (TEx tx W (mPop i)) :=
  pe_imp (pe_bm0 PySem.F.plainAttrs_list PySem.F.slot_list_pop PySem.F.type_list_pop mt_pop (pe_var hN hv hd hcd) hb hl) fun σ H Q ⟨F, e, Ab, h⟩ => by
    obtain ⟨xs, hx, h⟩ := RunAt.now (RunAt.seq h)
    have q := h F H .refl Ab
    have he := rdOwn_at hx
    obtain ⟨a, vs, h1, h2, h3, h4, h5⟩ := own_ty Ab he
    refine ⟨.ref a, h1, by rw [k.K]; exact h2, ?_⟩
    split at q
    · rename_i d hd'
      obtain ⟨w, hw, rw'⟩ := h4.get hd'
      obtain ⟨A2, s2⟩ := Ab.mut he h1 h5 h4.butLast
      exact ⟨a, vs, w, rfl, rfl, h3, by rw [h4.len]; exact hw, q _ _ s2 A2 _ (Ab.rp s2 rw')⟩
    · exact q.elim
end

/-! ### x[B] = .., x a list of one's own -/
def setD (xs : List D) (k : Int) (d : D) : Option (List D) := (ixN xs.length k).map fun j => xs.set j d
def gSt (i : Nat) (B : Op) : GM := fun d e => (lift (rdOwn e i) e).toS fun _ e => (evL [B] e).toS fun ds e1 => match ds with
  | [.int k] => (lift (rdOwn e1 i) e1).toS fun xs e1 => (lift (setD xs k d) e1).toS fun ys e1 => .nx (e1.set i (some (.own ys)))
  | _ => .bad
section
variable {tx : Tx} {X : Cx} {W : WX} {ps : List Nat} {σ : Sg} {H : Hp} {i : Nat} {A B : Op} {xp pos : Pos} {ex bx : Expr}
theorem Res.toS_of {α : Type} {r : Res α} {f : α → SM} {e' : En} {s : Rv} (h : ∀ a e, f a e ≠ .rt s e' ∧ f a e ≠ .bk e' ∧ f a e ≠ .ct e') : r.toS f ≠ .rt s e' ∧ r.toS f ≠ .bk e' ∧ r.toS f ≠ .ct e' := by
  cases r with
  | ok a e => exact h a e
  | exc x e => exact ⟨(by intro z; cases z), (by intro z; cases z), (by intro z; cases z)⟩
  | bad => exact ⟨(by intro z; cases z), (by intro z; cases z), (by intro z; cases z)⟩
theorem gq_st : GQ (gSt i B) := ⟨fun d e e' s => by
  refine Res.toS_of fun _ _ => Res.toS_of fun ds _ => ?_
  split
  · exact Res.toS_of fun _ _ => Res.toS_of fun _ _ => ⟨(by intro z; cases z), (by intro z; cases z), (by intro z; cases z)⟩
  · exact ⟨(by intro z; cases z), (by intro z; cases z), (by intro z; cases z)⟩⟩
theorem g_store (i : Nat) {x : Str} (hb : PE X bx (teO tx W B)) (hN : X.N[i]? = some x := by rfl) (hv : Vis X.env.scope x := by first | exact Or.inl rfl | exact Or.inr (Or.inl rfl) | exact Or.inr (Or.inr rfl)) (hd : (x == ("__debug__" : Str)) = false := by decide)
    (hcd : (x == ("__classdict__" : Str)) = false := by decide)
    (ha : ∀ v, assign (.Subscript (.Name x xp) bx pos) X.env v = (do
      let ov ← holding [v] (eval (.Name x xp) X.env)
      let iv ← holding [v, ov] (eval bx X.env)
      standAt pos
      holding [v, ov, iv] (setItem ov iv v)
      release [v, ov, iv] []) := by intro _; rfl) : PG X (.Subscript (.Name x xp) bx pos) (TGx tx W ps (gSt i B)) :=
  pg_imp (pg_sub (pe_var hN hv hd hcd) hb set_list ha) fun v σ H Q ⟨F, e, d, Ab, r, h⟩ => by
    obtain ⟨xs, hx, h⟩ := RunAt.now (SAt.part h)
    have h := h F H .refl Ab
    have he := rdOwn_at hx
    obtain ⟨a, vs, h1, h2, h3⟩ := Ab.own i xs he
    refine ⟨.ref a, h1, ?_⟩
    have go := args_run (tx := tx) (W := W) [B] (k := fun us H1 => ∃ w, us = [w] ∧ rSetL (.ref a) w v H1 fun H3 => Q σ H3) Ab ((RunAt.seq (g := fun l e' => lift (fillL e' l) e') (SAt.part h)).mono fun l F1 H1 e1 s1 A1 q us hu => ?_)
    · cases B with
      | o j =>
        obtain ⟨w, g1, w', g2, g3⟩ := go
        cases g2
        exact ⟨w, g1, g3⟩
      | p m =>
        obtain ⟨F', e', A', go⟩ := go
        refine ⟨F', e', A', go.mono fun d' F'' H'' e'' s'' A'' q w rw' => ?_⟩
        obtain ⟨w', g2, g3⟩ := q w rw'
        cases g2
        exact g3
    obtain ⟨ds, hds, q⟩ := RunAt.now q
    have q := q F1 H1 .refl A1
    have rs := fill_pk A1 hu hds
    match ds, rs, q with
    | [.int n], rs, q =>
      obtain ⟨w, rfl, rw'⟩ := Pks.one rs
      obtain ⟨xs1, hx1, q⟩ := RunAt.now (SAt.part q)
      have q := q F1 H1 .refl A1
      obtain ⟨ys, hy, q⟩ := RunAt.now (SAt.part q)
      have q := q F1 H1 .refl A1
      have he1 := rdOwn_at hx1
      obtain ⟨a', vs1, g1, g3, g4, g5⟩ := A1.own i xs1 he1
      rw [h1] at g1
      cases g1
      obtain ⟨j, hj, rfl⟩ := Option.map_eq_some_iff.mp hy
      obtain ⟨A2, s2⟩ := A1.mut he1 h1 g5 (g4.set (Ab.rp s1 r) j)
      exact ⟨w, rfl, a, vs1, n, j, rfl, rw'.int, g3, by rw [g4.len]; exact hj, q σ F1 _ (.of s2) A2⟩
    | [], _, q => exact q.elim
    | [.none], _, q => exact q.elim
    | [.bool _], _, q => exact q.elim
    | [.str _], _, q => exact q.elim
    | [.list _], _, q => exact q.elim
    | [.tuple _], _, q => exact q.elim
    | [.dict _], _, q => exact q.elim
    | d :: _ :: _, _, q => exact (show False by cases d <;> exact q).elim
/-- x[i], by values -/
theorem get_list : PGet X (rIxL X.K) := by
  intro pins s σ H x y v u Q I rx ry h
  obtain ⟨p, xs, i, z, rfl, rfl, hq, he, q⟩ := h
  cases rx
  obtain ⟨t, rfl⟩ := ry
  obtain ⟨its, r, pl, hz⟩ := I.list hq
  obtain ⟨j, h1, h2, h3, h4, h5⟩ := atI_get he
  obtain ⟨w, ew, rw'⟩ := r.get h2
  have hl := r.length
  have hn := line63
  have fin : EP X pins σ Q w s := ⟨z, H, I, rw', q⟩
  by_cases h0 : 0 ≤ i
  · have hj : i.toNat = j := by
      rw [seqIndex_of h0 h5] at h1
      exact Option.some.inj h1
    exact wpAny_getItem_list pl.isList h0 (by omega) (by rw [hj]; simpa using ew) fin
  · have hj : (i + (its.toArray.size : Int)).toNat = j := by
      rw [seqIndex_neg (by omega) h4] at h1
      rw [List.size_toArray, ← hl]
      exact Option.some.inj h1
    exact wpAny_getItem_list_neg pl.isList (by omega) (by rw [List.size_toArray] <;> omega) (by omega) (by rw [hj]; simpa using ew) fin
theorem pip_add : PIp X .Add (ipI fun i j => i + j) := ip_add
/-- x[B] op= A: ints -/
def sAug (i : Nat) (B A : Op) (f : Int → Int → Int) : SM := fun e => (lift (rdOwn e i) e).toS fun _ e => (evL [B] e).toS fun ds e1 => match ds with
  | [.int k] => (lift (rdOwn e1 i) e1).toS fun xs e1 => (lift (atI xs k) e1).toS fun x e1 => match x with
    | .int x => (evL [A] e1).toS fun ys e2 => match ys with
      | [.int y] => (lift (rdOwn e2 i) e2).toS fun xs2 e2 => (lift (setD xs2 k (.int (f x y))) e2).toS fun zs e2 => .nx (e2.set i (some (.own zs)))
      | _ => .bad
    | _ => .bad
  | _ => .bad
theorem one_run {F : Fz} {e : En} {k : V → Hp → Prop} (Ab : Abs tx.K F H σ e) (h : RunAt tx W (evL [A] e) σ F H e fun ds F' H' _ => ∀ w d, ds = [d] → Pk tx.K F' H' w d → k w H') : teO tx W A σ H k := by
  cases A with
  | o j =>
    unfold evL evP at h
    cases q : e[j]? with
    | none => rw [q] at h; exact h.elim
    | some s =>
      cases s with
      | none => rw [q] at h; exact h.elim
      | some s =>
        rw [q] at h
        obtain ⟨v, hv⟩ := Ab.slot q
        have h : RunAt tx W (lift (fillL e [.inr j]) e) σ F H e _ := h
        obtain ⟨ds, h1, h2⟩ := RunAt.now h
        obtain ⟨d, h3, h4⟩ := Option.bind_eq_some_iff.mp (show ((rdS e j).bind fun d => (fillL e []).map (d :: ·)) = some ds from h1)
        cases h4
        exact ⟨v, hv, h2 F H .refl Ab v d rfl (Ab.rd h3 hv)⟩
  | p m =>
    refine ⟨F, e, Ab, ?_⟩
    unfold evL evP at h
    cases q : m e with
    | ok d e1 =>
      rw [q] at h
      have h : RunAt tx W (.ok [d] e1) σ F H e _ := h
      exact fun F' H' s' A' v rv => h F' H' s' A' v d rfl (.inl rv)
    | exc x e1 => rw [q] at h; exact h
    | bad => rw [q] at h; exact h
end
end Dn

/-! Dn, part G: loops -/
namespace Dn
open PySem PySem.Spec PyProof.Rows L2

/-- a later state, as far as frozen things go -/
structure Lat (F : Fz) (H : Hp) (F' : Fz) (H' : Hp) : Prop where
  fr : ∀ a, F a → F' a
  kp : ∀ a o, F a → H a = some o → H' a = some o
theorem Lat.refl {F : Fz} {H : Hp} : Lat F H F H := ⟨fun _ h => h, fun _ _ _ h => h⟩
theorem Lat.trans {F F1 F2 : Fz} {H H1 H2 : Hp} (x : Lat F H F1 H1) (y : Lat F1 H1 F2 H2) : Lat F H F2 H2 := ⟨fun a h => y.fr a (x.fr a h), fun a o f h => y.kp a o (x.fr a f) (x.kp a o f h)⟩
theorem Gro.lat {F F' : Fz} {H H' : Hp} (g : Gro F H F' H') : Lat F H F' H' := ⟨g.fr, fun a o _ h => g.kp a o h⟩
theorem Abs.lat {K : PySem.W.Frag} {F F1 : Fz} {H H1 : Hp} {σ σ1 : Sg} {e e1 : En} (A : Abs K F H σ e) (s : Step σ e F H σ1 e1 F1 H1) : Lat F H F1 H1 := ⟨s.fr, fun a o f h => s.kp a o h fun z => A.noF z f⟩
theorem Lat.rp {K : PySem.W.Frag} {F F1 : Fz} {H H1 : Hp} {v : V} {d : D} (l : Lat F H F1 H1) (r : Rp K F H v d) : Rp K F1 H1 v d := r.mono l.fr l.kp
theorem Lat.rps {K : PySem.W.Frag} {F F1 : Fz} {H H1 : Hp} {v : List V} {d : List D} (l : Lat F H F1 H1) (r : Rps K F H v d) : Rps K F1 H1 v d := r.mono l.fr l.kp

/-- J walks the items ds, whatever happens meanwhile -/
def Wk (K : PySem.W.Frag) (F : Fz) (H : Hp) (ds : List D) (J : It) : Prop :=
  ∀ F1 H1, Lat F H F1 H1 → (∀ a, F1 a → H1 a ≠ none) →
    (∀ (i : Nat) d, ds[i]? = some d → J.go i H1 ∧ ∀ x H', J.yld i H1 x H' → ∃ F', Gro F1 H1 F' H' ∧ Rp K F' H' x d) ∧ ∀ i : Nat, ds.length ≤ i → J.stop i H1
def TIx (tx : Tx) (W : WX) (m : En → Res (List D)) : TI := fun σ H R => Run tx W m σ H fun _ ds F' H' _ => ∀ J, Wk tx.K F' H' ds J → R J H'
theorem pi_imp {X : Cx} {tg it : Expr} {t t' : TI} (h : PI X tg it t) (hi : ∀ σ H R, t' σ H R → t σ H R) : PI X tg it t' := ⟨fun pins s σ H R I q => h.run pins s σ H R I (hi σ H R q)⟩
section
variable {K : PySem.W.Frag} {F : Fz} {H : Hp} {a : Addr} {vs : List V} {ds : List D}
theorem wk_list (h : FL K F H a vs) (r : Rps K F H vs ds) : Wk K F H ds (Itl K a) := fun F1 H1 l ok => by
  have q := (h.mono l.fr l.kp).sq
  refine ⟨fun i d e => ?_, fun i hi => ⟨vs, q, by rw [r.len]; exact hi⟩⟩
  obtain ⟨v, h1, h2⟩ := r.get e
  refine ⟨⟨vs, v, q, h1⟩, fun x H' ⟨e1, e2⟩ => ?_⟩
  subst e1
  have := e2 vs q
  rw [h1] at this
  cases this
  exact ⟨F1, Gro.refl ok, l.rp h2⟩
theorem wk_tup (h : FT K F H a vs) (r : Rps K F H vs ds) : Wk K F H ds (Itt K a) := fun F1 H1 l ok => by
  have q := (h.mono l.fr l.kp).sq
  refine ⟨fun i d e => ?_, fun i hi => ⟨vs, q, by rw [r.len]; exact hi⟩⟩
  obtain ⟨v, h1, h2⟩ := r.get e
  refine ⟨⟨vs, v, q, h1⟩, fun x H' ⟨e1, e2⟩ => ?_⟩
  subst e1
  have := e2 vs q
  rw [h1] at this
  cases this
  exact ⟨F1, Gro.refl ok, l.rp h2⟩
end
/-- lo, lo + 1, .. -/
def rngI (lo : Int) (n : Nat) : List D := (List.range n).map fun (i : Nat) => .int (lo + i)
theorem rngI_get {lo : Int} {n i : Nat} {d : D} (e : (rngI lo n)[i]? = some d) : i < n ∧ d = .int (lo + i) := by
  unfold rngI at e
  rw [List.getElem?_map] at e
  obtain ⟨j, h1, rfl⟩ := Option.map_eq_some_iff.mp e
  have hl : i < (List.range n).length := (List.getElem?_eq_some_iff.mp h1).1
  have h2 := (List.getElem?_eq_some_iff.mp h1).2
  rw [List.getElem_range] at h2
  rw [List.length_range] at hl
  exact ⟨hl, by rw [h2]⟩
theorem rngI_len {lo : Int} {n : Nat} : (rngI lo n).length = n := by unfold rngI; rw [List.length_map, List.length_range]
theorem wk_range {K : PySem.W.Frag} {F : Fz} {H : Hp} {lo : Int} {n : Nat} : Wk K F H (rngI lo n) (Itr lo n) := fun F1 H1 l ok => by
  refine ⟨fun i d e => ?_, fun i hi => show n ≤ i by rw [rngI_len] at hi; exact hi⟩
  obtain ⟨hl, rfl⟩ := rngI_get e
  exact ⟨hl, fun x H' ⟨e1, e2⟩ => by subst e1 e2; exact ⟨F1, Gro.refl ok, .int _⟩⟩

/-! ### for -/
def sLoop (g : GM) (b : SM) : List D → SM
  | [], e => .nx e
  | d :: r, e => match (g d e).seq b with
    | .nx e' => sLoop g b r e'
    | .ct e' => sLoop g b r e'
    | .bk e' => .nx e'
    | .rt s e' => .rt s e'
    | .exc x e' => .exc x e'
    | .bad => .bad
def sFor (m : En → Res (List D)) (g : GM) (b : SM) : SM := fun e => (m e).toS fun ds e1 => sLoop g b ds e1
section
variable {tx : Tx} {X : Cx} {W : WX} {ps : List Nat} {m : En → Res (List D)} {g : GM} {b : SM} {iter tg : Expr} {body : List Stmt} {pos : Pos}
theorem s_for (hp : PassesOwn (model X.prog X.w) X.A X.env X.xe) (hc : X.calm = true) (hi : PI X tg iter (TIx tx W m)) (hg : PG X tg (TGx tx W ps g)) (gq : GQ g) (hb : PSs X body (TSx tx W ps b))
    (hs : ∀ x, foldedSetIterable iter X.env x = pure x := by intro _; rfl) : PS X (.For tg iter body [] pos) (TSx tx W ps (sFor m g b)) := ps_imp (ps_for hp hc hi hg hb hs) fun D σ H ⟨F, e, A, h⟩ => by
  refine ⟨F, e, A, h.part.mono fun ds F1 H1 e1 s1 A1 q J wk => ?_⟩
  refine ⟨fun i m σ' H' => m = ds.length - i ∧ i ≤ ds.length ∧ ∃ F' e', Abs tx.K F' H' σ' e' ∧ Lat F1 H1 F' H' ∧ SAt tx W ps (sLoop g b (ds.drop i) e') D σ' F' H' e', ⟨ds.length, rfl, Nat.zero_le _, F1, e1, A1, .refl, q⟩, ?_⟩
  rintro i m σ' H' ⟨rfl, hi, F', e', A', l, q⟩
  obtain ⟨w1, w2⟩ := wk F' H' l A'.fok
  by_cases hlt : i < ds.length
  · refine .inr ?_
    have hd : ds[i]? = some ds[i] := List.getElem?_eq_getElem hlt
    rw [List.drop_eq_getElem_cons hlt] at q
    obtain ⟨go, y⟩ := w1 i _ hd
    refine ⟨go, fun σ2 H2 => ∃ F2 e2, Abs tx.K F2 H2 σ2 e2 ∧ Lat F1 H1 F2 H2 ∧ SAt tx W ps (sLoop g b (ds.drop (i + 1)) e2) D σ2 F2 H2 e2, fun σ2 H2 n2 => ⟨ds.length - (i + 1), by omega, rfl, hlt, n2⟩, fun x Hx yx => ?_⟩
    obtain ⟨Fx, gr, rx⟩ := y x Hx yx
    have Ax := A'.gro gr
    have q := q.later (.of gr.step)
    have lx := l.trans gr.lat
    refine ⟨Fx, e', _, Ax, rx, ?_⟩
    unfold sLoop at q
    have gn := gq.q ds[i] e'
    cases r : g ds[i] e' with
    | nx e2 =>
      rw [r] at q
      have q : SAt tx W ps (match b e2 with
        | .nx e' => sLoop g b (ds.drop (i + 1)) e'
        | .ct e' => sLoop g b (ds.drop (i + 1)) e'
        | .bk e' => .nx e'
        | .rt s e' => .rt s e'
        | .exc x e' => .exc x e'
        | .bad => .bad) D σ' Fx Hx e' := q
      intro σ2 F2 H2 s2 A2
      refine ⟨F2, e2, A2, ?_⟩
      have q := q.later s2
      have l2 : Lat F1 H1 F2 H2 := lx.trans (Ax.lat s2.st)
      cases rb : b e2 with
      | nx e3 => rw [rb] at q; exact fun σ3 F3 H3 s3 A3 => ⟨F3, e3, A3, l2.trans (A2.lat s3.st), q.later s3⟩
      | ct e3 => rw [rb] at q; exact fun σ3 F3 H3 s3 A3 => ⟨F3, e3, A3, l2.trans (A2.lat s3.st), q.later s3⟩
      | bk e3 => rw [rb] at q; exact fun σ3 F3 H3 s3 A3 => q σ3 F3 H3 s3 A3
      | rt s e3 => rw [rb] at q; exact q
      | exc x e3 => rw [rb] at q; exact q
      | bad => rw [rb] at q; exact q
    | rt s e2 => exact absurd r (gn e2 s).1
    | bk e2 => exact absurd r (gn e2 (.val .none)).2.1
    | ct e2 => exact absurd r (gn e2 (.val .none)).2.2
    | exc x e2 => rw [r] at q; exact q
    | bad => rw [r] at q; exact q
  · have hi2 : i = ds.length := by omega
    subst hi2
    refine .inl ⟨w2 _ (Nat.le_refl _), ?_⟩
    rw [List.drop_length] at q
    exact q σ' F' H' .refl A'
end

/-! ### what is walked -/
/-- a list, a tuple -/
def mItL (m : En → Res D) (e : En) : Res (List D) := (m e).bind fun d e' => match d with
  | .list ds => .ok ds e'
  | _ => .bad
def mItT (m : En → Res D) (e : En) : Res (List D) := (m e).bind fun d e' => match d with
  | .tuple ds => .ok ds e'
  | _ => .bad
def rng62 (i : Int) : Bool := decide (-(2 ^ 62) ≤ i) && decide (i < 2 ^ 62)
/-- range(A), range(A, B) -/
def mRng1 (A : Op) (e : En) : Res (List D) := (evL [A] e).bind fun ds e' => match ds with
  | [.int j] => if rng62 j = true then .ok (rngI 0 j.toNat) e' else .bad
  | _ => .bad
def mRng2 (A B : Op) (e : En) : Res (List D) := (evL [A, B] e).bind fun ds e' => match ds with
  | [.int i, .int j] => if rng62 i = true ∧ rng62 j = true then .ok (rngI i (j - i).toNat) e' else .bad
  | _ => .bad
theorem rng62_ok {i : Int} (h : rng62 i = true) : -(2 ^ 62) ≤ i ∧ i < 2 ^ 62 := by
  unfold rng62 at h
  rw [Bool.and_eq_true] at h
  exact ⟨of_decide_eq_true h.1, of_decide_eq_true h.2⟩
section
variable {tx : Tx} {X : Cx} {W : WX} {tg it a b : Expr} {m : En → Res D} {A B : Op} {p pos : Pos}
theorem i_list (k : Ck tx X) (h : PE X it (TEx tx W m)) : PI X tg it (TIx tx W (mItL m)) := pi_imp (pi_list h) fun σ H R ⟨F, e, Ab, q⟩ => by
  refine ⟨F, e, Ab, (RunAt.seq q).mono fun d F1 H1 e1 s1 A1 q v rv => ?_⟩
  cases rv with
  | lst h r => exact ⟨_, rfl, ⟨_, by rw [k.K]; exact h.sq⟩, q F1 H1 .refl A1 _ (by rw [k.K]; exact wk_list h r)⟩
  | _ => exact q.elim
theorem i_tup (k : Ck tx X) (h : PE X it (TEx tx W m)) : PI X tg it (TIx tx W (mItT m)) := pi_imp (pi_tup h) fun σ H R ⟨F, e, Ab, q⟩ => by
  refine ⟨F, e, Ab, (RunAt.seq q).mono fun d F1 H1 e1 s1 A1 q v rv => ?_⟩
  cases rv with
  | tup h r => exact ⟨_, rfl, ⟨_, by rw [k.K]; exact h.sq⟩, q F1 H1 .refl A1 _ (by rw [k.K]; exact wk_tup h r)⟩
  | _ => exact q.elim
/-- operands by their readings -/
theorem evL_run {c : List Op} {F : Fz} {e : En} {σ : Sg} {H : Hp} {k : List V → Hp → Prop} (Ab : Abs tx.K F H σ e) (h : RunAt tx W (evL c e) σ F H e fun ds F' H' e' => Abs tx.K F' H' σ e' → ∀ vs, Pks tx.K F' H' vs ds → k vs H') : tL tx W c σ H k := by
  refine args_run c Ab ((RunAt.seq h).mono fun l F1 H1 e1 s1 A1 q us hu => ?_)
  obtain ⟨ds, hds, q⟩ := RunAt.now q
  exact q F1 H1 .refl A1 A1 us (fill_pk A1 hu hds)
theorem Pks.int1 {K : PySem.W.Frag} {F : Fz} {H : Hp} {vs : List V} {i : Int} (h : Pks K F H vs [.int i]) : vs = [.int i] := by
  obtain ⟨x, rfl, h1⟩ := h.one
  rw [h1.int]
theorem Pks.int2 {K : PySem.W.Frag} {F : Fz} {H : Hp} {vs : List V} {i j : Int} (h : Pks K F H vs [.int i, .int j]) : vs = [.int i, .int j] := by
  obtain ⟨x, y, rfl, h1, h2⟩ := h.two
  rw [h1.int, h2.int]
theorem i_rng1 (k : Ck tx X) (hg : Gl X "range") (hm : X.mg "range" = none) (ha : PA X [a] (tL tx W [A])) (hs : starEach [a] X.env = [(false, eval a X.env)] := by rfl) : PI X tg (.Call (.Name "range" p) [a] [] pos) (TIx tx W (mRng1 A)) :=
  pi_imp (pi_range1 hg hm ha hs) fun σ H R ⟨F, e, Ab, q⟩ => by
    refine evL_run Ab ((RunAt.seq q).mono fun ds F1 H1 e1 s1 A1 q _ vs hv => ?_)
    split at q
    · split at q
      · rename_i hr
        rw [hv.int1]
        exact ⟨_, rfl, (rng62_ok hr).1, (rng62_ok hr).2, q F1 H1 .refl A1 _ (by exact wk_range)⟩
      · exact q.elim
    · exact q.elim
theorem i_rng2 (k : Ck tx X) (hg : Gl X "range") (hm : X.mg "range" = none) (ha : PA X [a, b] (tL tx W [A, B])) (hs : starEach [a, b] X.env = [(false, eval a X.env), (false, eval b X.env)] := by rfl) (hs2 : starEach [b] X.env = [(false, eval b X.env)] := by rfl) :
    PI X tg (.Call (.Name "range" p) [a, b] [] pos) (TIx tx W (mRng2 A B)) :=
  pi_imp (pi_range2 hg hm ha hs hs2) fun σ H R ⟨F, e, Ab, q⟩ => by
    refine evL_run Ab ((RunAt.seq q).mono fun ds F1 H1 e1 s1 A1 q _ vs hv => ?_)
    split at q
    · split at q
      · rename_i hr
        rw [hv.int2]
        exact ⟨_, _, rfl, ⟨(rng62_ok hr.1).1, (rng62_ok hr.1).2, (rng62_ok hr.2).1, (rng62_ok hr.2).2⟩, q F1 H1 .refl A1 _ (by exact wk_range)⟩
      · exact q.elim
    · exact q.elim
end

/-! ### enumerate, zip -/
def enumD : Nat → List D → List D
  | _, [] => []
  | i, d :: ds => .tuple [.int (i : Nat), d] :: enumD (i + 1) ds
theorem enumD_len : ∀ (ds : List D) (i : Nat), (enumD i ds).length = ds.length
  | [], _ => rfl
  | _ :: ds, i => by
    show (enumD (i + 1) ds).length + 1 = ds.length + 1
    rw [enumD_len ds]
theorem enumD_get : ∀ {ds : List D} {j i : Nat} {x : D}, (enumD j ds)[i]? = some x → ∃ d, ds[i]? = some d ∧ x = .tuple [.int ((j + i : Nat) : Int), d]
  | [], _, _, _, e => by simp [enumD] at e
  | d :: ds, j, 0, x, e => by
    have e : some (PyData.tuple [.int (j : Nat), d]) = some x := e
    cases e
    exact ⟨d, rfl, rfl⟩
  | d :: ds, j, i + 1, x, e => by
    obtain ⟨d', h1, h2⟩ := enumD_get (ds := ds) (j := j + 1) (i := i) (x := x) e
    refine ⟨d', h1, ?_⟩
    rw [h2, show j + 1 + i = j + (i + 1) by omega]
def zipD (xs ys : List D) : List D := (xs.zip ys).map fun p => .tuple [p.1, p.2]
theorem zipD_get {xs ys : List D} {i : Nat} {x : D} (e : (zipD xs ys)[i]? = some x) : ∃ a b, xs[i]? = some a ∧ ys[i]? = some b ∧ x = .tuple [a, b] := by
  unfold zipD at e
  rw [List.getElem?_map] at e
  obtain ⟨p, h1, rfl⟩ := Option.map_eq_some_iff.mp e
  obtain ⟨a, b⟩ := p
  obtain ⟨h2, h3⟩ := List.getElem?_zip_eq_some.mp h1
  exact ⟨a, b, h2, h3, rfl⟩
theorem zipD_len {xs ys : List D} : (zipD xs ys).length = min xs.length ys.length := by
  unfold zipD
  rw [List.length_map, List.length_zip]
section
variable {K : PySem.W.Frag} {F : Fz} {H : Hp} {a b : Addr} {vs ws : List V} {ds es : List D}
/-- a new pair comes -/
theorem pair_new {F1 : Fz} {H1 : Hp} {T : Addr} {v w : V} {d c : D} (ok : ∀ a, F1 a → H1 a ≠ none) (n : H1 T = none) (r1 : Rp K F1 H1 v d) (r2 : Rp K F1 H1 w c) : ∃ F', Gro F1 H1 F' (upd H1 T (.tup [v, w])) ∧ Rp K F' (upd H1 T (.tup [v, w])) (.ref T) (.tuple [d, c]) :=
  ⟨_, Gro.new ok n, Rp.newT n (.cons r1 (.cons r2 .nil))⟩
theorem wk_enum (h : FL K F H a vs) (r : Rps K F H vs ds) : Wk K F H (enumD 0 ds) (Ite K a) := fun F1 H1 l ok => by
  have q := (h.mono l.fr l.kp).sq
  refine ⟨fun i x e => ?_, fun i hi => ⟨vs, q, by rw [enumD_len] at hi; rw [r.len]; exact hi⟩⟩
  obtain ⟨d, h0, rfl⟩ := enumD_get e
  obtain ⟨v, h1, h2⟩ := r.get h0
  refine ⟨⟨vs, v, q, h1⟩, fun x H' y => ?_⟩
  obtain ⟨T, w, rfl, n, rfl, e2⟩ := y
  have := e2 vs q
  rw [h1] at this
  cases this
  rw [Nat.zero_add]
  exact pair_new ok n (.int _) (l.rp h2)
theorem wk_zipL (h : FL K F H a vs) (r : Rps K F H vs ds) (h' : FL K F H b ws) (r' : Rps K F H ws es) : Wk K F H (zipD ds es) (Itz K a b) := fun F1 H1 l ok => by
  have q := (h.mono l.fr l.kp).sq
  have q' := (h'.mono l.fr l.kp).sq
  refine ⟨fun i x e => ?_, fun i hi => ⟨vs, ws, q, q', by rw [zipD_len] at hi; rw [r.len, r'.len]; omega⟩⟩
  obtain ⟨d, c, h0, h0', rfl⟩ := zipD_get e
  obtain ⟨v, h1, h2⟩ := r.get h0
  obtain ⟨w, h1', h2'⟩ := r'.get h0'
  refine ⟨⟨vs, ws, v, w, q, q', h1, h1'⟩, fun x H' y => ?_⟩
  obtain ⟨T, v2, w2, rfl, n, rfl, e1, e2⟩ := y
  have z1 := e1 vs q
  rw [h1] at z1
  cases z1
  have z2 := e2 ws q'
  rw [h1'] at z2
  cases z2
  exact pair_new ok n (l.rp h2) (l.rp h2')
theorem wk_zipT (h : FT K F H a vs) (r : Rps K F H vs ds) (h' : FT K F H b ws) (r' : Rps K F H ws es) : Wk K F H (zipD ds es) (RZ.ItzT K a b) := fun F1 H1 l ok => by
  have q := (h.mono l.fr l.kp).sq
  have q' := (h'.mono l.fr l.kp).sq
  refine ⟨fun i x e => ?_, fun i hi => ⟨vs, ws, q, q', by rw [zipD_len] at hi; rw [r.len, r'.len]; omega⟩⟩
  obtain ⟨d, c, h0, h0', rfl⟩ := zipD_get e
  obtain ⟨v, h1, h2⟩ := r.get h0
  obtain ⟨w, h1', h2'⟩ := r'.get h0'
  refine ⟨⟨vs, ws, v, w, q, q', h1, h1'⟩, fun x H' y => ?_⟩
  obtain ⟨T, v2, w2, rfl, n, rfl, e1, e2⟩ := y
  have z1 := e1 vs q
  rw [h1] at z1
  cases z1
  have z2 := e2 ws q'
  rw [h1'] at z2
  cases z2
  exact pair_new ok n (l.rp h2) (l.rp h2')
end
/-- the operands are plain -/
theorem evV_run {tx : Tx} {W : WX} {c : List Op} {F : Fz} {e : En} {σ : Sg} {H : Hp} {k : List V → Hp → Prop} (Ab : Abs tx.K F H σ e) (h : RunAt tx W (evV c e) σ F H e fun ds F' H' e' => Abs tx.K F' H' σ e' → ∀ vs, Rps tx.K F' H' vs ds → k vs H') : tL tx W c σ H k := by
  refine args_run c Ab ((RunAt.seq h).mono fun l F1 H1 e1 s1 A1 q us hu => ?_)
  obtain ⟨ds, hds, q⟩ := RunAt.now q
  exact q F1 H1 .refl A1 A1 us (fillV_rp A1 hu hds)
def mEnumL (A : Op) (e : En) : Res (List D) := (evV [A] e).bind fun ds e' => match ds with
  | [.list xs] => .ok (enumD 0 xs) e'
  | _ => .bad
def mZip (A B : Op) (e : En) : Res (List D) := (evV [A, B] e).bind fun ds e' => match ds with
  | [.list xs, .list ys] => .ok (zipD xs ys) e'
  | [.tuple xs, .tuple ys] => .ok (zipD xs ys) e'
  | _ => .bad
section
variable {tx : Tx} {X : Cx} {W : WX} {a b : Expr} {A B : Op} {p pos tpos : Pos} {elts : List Expr} {kk : Nat}
theorem i_enumL (k : Ck tx X) (hg : Gl X "enumerate") (hm : X.mg "enumerate" = none) (ha : PA X [a] (tL tx W [A])) (hs : starEach [a] X.env = [(false, eval a X.env)] := by rfl) : PI X (.Tuple elts kk tpos) (.Call (.Name "enumerate" p) [a] [] pos) (TIx tx W (mEnumL A)) :=
  pi_imp (pi_enum hg hm ha hs) fun σ H R ⟨F, e, Ab, q⟩ => by
    refine evV_run Ab ((RunAt.seq q).mono fun ds F1 H1 e1 s1 A1 q _ vs hv => ?_)
    split at q
    · obtain ⟨v, rfl, rv⟩ := hv.one
      cases rv with
      | lst h r => exact ⟨_, _, rfl, by rw [k.K]; exact h.sq, q F1 H1 .refl A1 _ (by rw [k.K]; exact wk_enum h r)⟩
    · exact q.elim
theorem Rps.two {K : PySem.W.Frag} {F : Fz} {H : Hp} {vs : List V} {d c : D} (h : Rps K F H vs [d, c]) : ∃ v w, vs = [v, w] ∧ Rp K F H v d ∧ Rp K F H w c := by
  cases h with
  | cons h r =>
    obtain ⟨w, rfl, r'⟩ := r.one
    exact ⟨_, _, rfl, h, r'⟩
theorem i_zip (k : Ck tx X) (hg : Gl X "zip") (hm : X.mg "zip" = none) (ha : PA X [a, b] (tL tx W [A, B])) (hs : starEach [a, b] X.env = (false, eval a X.env) :: starEach [b] X.env := by rfl) (hpl : (backTo pos (starEach [b] X.env)).any (·.1) = false := by rfl) :
    PI X (.Tuple elts kk tpos) (.Call (.Name "zip" p) [a, b] [] pos) (TIx tx W (mZip A B)) :=
  pi_imp (RZ.pi_zipA hg hm ha hs hpl) fun σ H R ⟨F, e, Ab, q⟩ => by
    refine evV_run Ab ((RunAt.seq q).mono fun ds F1 H1 e1 s1 A1 q _ vs hv => ?_)
    split at q
    · obtain ⟨v, w, rfl, rv, rw'⟩ := hv.two
      cases rv with
      | lst h r =>
        cases rw' with
        | lst h' r' => exact ⟨_, _, _, _, rfl, .inl ⟨by rw [k.K]; exact h.sq, by rw [k.K]; exact h'.sq, q F1 H1 .refl A1 _ (by rw [k.K]; exact wk_zipL h r h' r')⟩⟩
    · obtain ⟨v, w, rfl, rv, rw'⟩ := hv.two
      cases rv with
      | tup h r =>
        cases rw' with
        | tup h' r' => exact ⟨_, _, _, _, rfl, .inr ⟨by rw [k.K]; exact h.sq, by rw [k.K]; exact h'.sq, q F1 H1 .refl A1 _ (by rw [k.K]; exact wk_zipT h r h' r')⟩⟩
    · exact q.elim
end

/-! ### while -/
def sWh (c : En → Res Bool) (b : SM) : Nat → SM
  | 0 => fun _ => .bad
  | n + 1 => fun e => (c e).toS fun t e1 => if t = true then (match b e1 with
    | .nx e' => sWh c b n e'
    | .ct e' => sWh c b n e'
    | .bk e' => .nx e'
    | .rt s e' => .rt s e'
    | .exc x e' => .exc x e'
    | .bad => .bad) else .nx e1
section
variable {tx : Tx} {X : Cx} {W : WX} {ps : List Nat} {c : En → Res Bool} {b : SM} {ce : Expr} {body : List Stmt} {pos : Pos}
/-- n: as many turns as one likes -/
theorem s_while (n : Nat) (hp : PassesOwn (model X.prog X.w) X.A X.env X.xe) (hc : PT X ce (TTx tx W c)) (hb : PSs X body (TSx tx W ps b)) : PS X (.While ce body [] pos) (TSx tx W ps (sWh c b n)) := ps_imp (ps_while hp hc hb) fun D σ H ⟨F, e, A, h⟩ => by
  refine ⟨fun m σ H => ∃ F e, Abs tx.K F H σ e ∧ SAt tx W ps (sWh c b m e) D σ F H e, ⟨n, F, e, A, h⟩, ?_⟩
  rintro m σ H ⟨F, e, A, h⟩
  cases m with
  | zero => exact h.elim
  | succ m =>
    refine ⟨F, e, A, (SAt.part h).mono fun t F1 H1 e1 s1 A1 q => ?_⟩
    cases t with
    | false => exact iteF (q σ F1 H1 .refl A1)
    | true =>
      refine iteT ⟨fun σ' H' => ∃ F e, Abs tx.K F H' σ' e ∧ SAt tx W ps (sWh c b m e) D σ' F H' e, fun σ' H' h' => ⟨m, Nat.lt_succ_self _, h'⟩, F1, e1, A1, ?_⟩
      rw [if_pos rfl] at q
      cases rb : b e1 with
      | nx e3 => rw [rb] at q; exact fun σ3 F3 H3 s3 A3 => ⟨F3, e3, A3, q.later s3⟩
      | ct e3 => rw [rb] at q; exact fun σ3 F3 H3 s3 A3 => ⟨F3, e3, A3, q.later s3⟩
      | bk e3 => rw [rb] at q; exact fun σ3 F3 H3 s3 A3 => q σ3 F3 H3 s3 A3
      | rt s e3 => rw [rb] at q; exact q
      | exc x e3 => rw [rb] at q; exact q
      | bad => rw [rb] at q; exact q
end
end Dn

/-! Dn, part P: promises of defs that are called while nothing is being shown -/
namespace Dn
open PySem PySem.Spec PyProof.Rows L2
/-- a def's promise, asked for where no repr is under way -/
structure FnG (P : Program) (w : World) (K : PySem.W.Frag) (mg : Str → Option Value) (base : Heap) (k : Nat) (f : Addr) (fd : FuncData) (ps : List Str) (sp : Sp) : Prop where
  len : ∀ vs H Q E, sp vs H Q E → vs.length = ps.length
  go : ∀ (A : Around), A.guards = some [] → Room k A → ∀ (outer : List Env) (s : Shared) (H : Hp), Env0 P w K mg base A outer s H → ∀ (args : Args) (us : List Value), BindsTo s fd args (ps.zip us) →
    ∀ (vs : List V) (Q : VK) (E : XK), Vals vs us → sp vs H Q E → codeAny (model P w) A (.call (.ref f) args) (CR (L2.CX P w) outer P w H s Q E) s
section
variable {P : Program} {w : World} {K : PySem.W.Frag} {mg : Str → Option Value} {base : Heap} {k : Nat} {f : Addr} {fd : FuncData} {ps : List Str} {sp : Sp}
theorem fnG_of {x qual : Str} {st : Stmt} {N : List Str} (Fn : Fun K x qual st f fd) (S : FnScope N ps (defScope st)) (len : ∀ vs H Q E, sp vs H Q E → vs.length = ps.length)
    (body : ∀ (cdv : Value) (A : Around) (outer : List Env) (s : Shared) (H : Hp) (vs : List V) (Q : VK) (E : XK), A.guards = some [] → Room k (A.deeper (envOfC qual (defScope st) s.heap.objs.size f cdv)) → sp vs H Q E →
      ∃ t, PSs (cxOf (L2.CX P w) P w K mg base N qual (defScope st) f cdv A outer s H E) (defBody st) t ∧ t { nx := fun _ H' => Q .non H', rt := Q } (L2.start N vs) H) : FnG P w K mg base (k + 1) f fd ps sp := by
  obtain ⟨oc, od, kV, doc, pm, an, cdv, ct, osl, rfl, lk, hcd⟩ := Fn.ex
  refine ⟨len, fun A gd room outer s H e0 args us hb vs Q E r q => ?_⟩
  have inK : K.In s.heap := e0.mod.kin.keeps fun b o z => (e0.bs b o z).1
  have noLim : s.heap.NoLimit := e0.mod.nolimit.keeps fun b o z => (e0.bs b o z).1
  refine codeAny_call_function room.depth (inK _ _ lk) rfl S.co S.gen rfl (PySem.W.codeRec_of inK hcd) (hb _ _ _ _ ?_)
  refine wpAny_newFunctionEnv_cells S.kind (fun y hy => ?_) fun env he s1 ic => ?_
  · rcases S.par y.1 (List.of_mem_zip (show (y.1, y.2) ∈ ps.zip us from hy)).1 with z | z
    · exact .inl z
    · exact .inr ⟨z, PySem.W.cellsFrom_some _ _ _ (.inl z)⟩
  subst he
  obtain ⟨t, ht, hq⟩ := body cdv A outer s H vs Q E gd (room.deeper _) q
  have J := inv_start (CX := L2.CX P w) (E := E) S room.hd e0 (len _ _ _ _ q) r ic
  refine ⟨noLim.keeps ic.toInCall.keep, codeAny_func (wpAny_mono (ht.run [] s1 (L2.start N vs) H _ J hq) (fun fl s' hs => ?_) fun _ _ z => z)⟩
  cases fl with
  | ret u =>
    obtain ⟨v, σ', H', I, rv, q'⟩ := hs
    exact ⟨v, H', I.os, I.bare, I.base, I.hok, rv, q'⟩
  | next =>
    obtain ⟨σ', H', I, q'⟩ := hs
    exact ⟨.non, H', I.os, I.bare, I.base, I.hok, rfl, q'⟩
  | brk => exact (show False from hs.choose_spec.choose_spec.2).elim
  | cont => exact (show False from hs.choose_spec.choose_spec.2).elim
/-- the callee runs -/
theorem run_g {X : Cx} {pins : List (Addr × Obj)} {σ : Sg} {H : Hp} {s : Shared} {Q : VK} {args : Args} {us : List Value} {vs : List V} {E : XK} (F : FnG X.prog X.w X.K X.mg X.base k f fd ps sp) (gd : X.A.guards = some []) (hr : Room k X.A) (hb : BindsTo s fd args (ps.zip us)) (hx : PassesAt (L2.CX X.prog X.w) X σ E)
    (I : Inv X pins σ H s) (r : Vals vs us) (h : sp vs H Q E) : codeAny (model X.prog X.w) X.A (.call (.ref f) args) (fun r s' => match r with
      | .ok (.ret u) => EP X pins σ Q u s'
      | .ok _ => False
      | .error e => X.xe e s') s := by
  refine codeAny_mono (F.go X.A gd hr X.stack s H I.env0 args us hb vs Q E r h) fun r s' hq => ?_
  cases r with
  | error e => exact hx pins H s e s' I hq
  | ok fl =>
    cases fl with
    | ret u => exact I.after hq
    | next => exact False.elim hq
    | brk => exact False.elim hq
    | cont => exact False.elim hq
end
end Dn

/-! Dn, part H: defs and their calls -/
namespace Dn
open PySem PySem.Spec PyProof.Rows L2

/-- how a def ends: the parameters' lists as they lie then -/
inductive CR where
  | ok (s : Rv) (o : En)
  | exc (x : Exn) (o : En)
  | bad
abbrev Den := List Sl → CR
abbrev sgV (vs : List V) : Sg := vs.map some
abbrev enA (as : List Sl) : En := as.map some
def CAt (tx : Tx) (r : CR) (σ : Sg) (F : Fz) (H : Hp) (e : En) (Q : VK) (E : XK) : Prop := match r with
  | .ok s o => ∀ v F' H', Step σ e F H σ o F' H' → Abs tx.K F' H' σ o → RvR tx.K σ e H F' H' σ o v s → Q v H'
  | .exc x o => ∀ cls dd F' H', Step σ e F H σ o F' H' → Abs tx.K F' H' σ o → XR tx F' H' x cls dd → E cls dd H'
  | .bad => False
/-- what a def promises -/
def spD (tx : Tx) (n : Nat) (den : Den) : Sp := fun vs H Q E => ∃ F as, vs.length = n ∧ Abs tx.K F H (sgV vs) (enA as) ∧ CAt tx (den as) (sgV vs) F H (enA as) Q E

/-! ### the callee -/
def keepO : Option Sl → Option Sl
  | some (.own ys) => some (.own ys)
  | _ => none
/-- the parameters at the end: those of ps, as far as they are lists of one's own -/
def outE (ps : List Nat) (n : Nat) (e : En) : En := (List.range n).map fun k => if ps.contains k then keepO (e[k]?.join) else none
def denOf (m : Nat) (ps : List Nat) (n : Nat) (b : SM) : Den := fun as => match b (enA as ++ List.replicate m none) with
  | .rt s e => .ok s (outE ps n e)
  | .nx e => .ok (.val .none) (outE ps n e)
  | .exc x e => .exc x (outE ps n e)
  | _ => .bad
theorem outE_own {ps : List Nat} {n k : Nat} {e : En} {s : Sl} (h : (outE ps n e)[k]? = some (some s)) : k ∈ ps ∧ k < n ∧ ∃ ys, s = .own ys ∧ e[k]? = some (some (.own ys)) := by
  unfold outE at h
  rw [List.getElem?_map] at h
  obtain ⟨j, h1, h2⟩ := Option.map_eq_some_iff.mp h
  have hl : k < (List.range n).length := (List.getElem?_eq_some_iff.mp h1).1
  have hj := (List.getElem?_eq_some_iff.mp h1).2
  rw [List.getElem_range] at hj
  subst hj
  rw [List.length_range] at hl
  split at h2
  · rename_i hc
    unfold keepO at h2
    split at h2
    · rename_i ys q
      cases h2
      refine ⟨by simpa using hc, hl, ys, rfl, ?_⟩
      cases z : e[k]? with
      | none => rw [z] at q; cases q
      | some w => rw [z] at q; cases w with
        | none => cases q
        | some u => cases q; rfl
    · cases h2
  · cases h2
section
variable {K : PySem.W.Frag} {F F' : Fz} {H H' : Hp} {vs : List V} {as : List Sl}
theorem en0 {m k : Nat} {s : Sl} (h : (enA as ++ List.replicate m none)[k]? = some (some s)) : (enA as)[k]? = some (some s) := by
  by_cases hk : k < (enA as).length
  · rw [List.getElem?_append_left hk] at h; exact h
  · rw [List.getElem?_append_right (by omega), List.getElem?_replicate] at h
    split at h <;> cases h
theorem en0' {m k : Nat} {s : Sl} (h : (enA as)[k]? = some (some s)) : (enA as ++ List.replicate m none)[k]? = some (some s) := by
  rw [List.getElem?_append_left (List.getElem?_eq_some_iff.mp h).1]; exact h
theorem sg0 {m k : Nat} {v : V} (h : (sgV vs)[k]? = some (some v)) : (sgV vs ++ List.replicate m none)[k]? = some (some v) := by
  rw [List.getElem?_append_left (List.getElem?_eq_some_iff.mp h).1]; exact h
theorem sg0' {m k : Nat} {v : V} (h : (sgV vs ++ List.replicate m none)[k]? = some (some v)) : (sgV vs)[k]? = some (some v) := by
  by_cases hk : k < (sgV vs).length
  · rw [List.getElem?_append_left hk] at h; exact h
  · rw [List.getElem?_append_right (by omega), List.getElem?_replicate] at h
    split at h <;> cases h
theorem Abs.start {m : Nat} (A : Abs K F H (sgV vs) (enA as)) : Abs K F H (sgV vs ++ List.replicate m none) (enA as ++ List.replicate m none) where
  len := by rw [List.length_append, List.length_append, A.len, List.length_replicate, List.length_replicate]
  val := fun i d h => by
    obtain ⟨v, h1, h2⟩ := A.val i d (en0 h)
    exact ⟨v, sg0 h1, h2⟩
  own := fun i xs h => by
    obtain ⟨a, us, h1, h2, h3, h4⟩ := A.own i xs (en0 h)
    exact ⟨a, us, sg0 h1, h2, h3, h4⟩
  dis := fun i j xs ys a h1 h2 h3 h4 => A.dis i j xs ys a (en0 h1) (en0 h2) (sg0' h3) (sg0' h4)
  fok := A.fok
theorem ownA0 {m : Nat} {a : Addr} (h : OwnA (sgV vs ++ List.replicate m none) (enA as ++ List.replicate m none) a) : OwnA (sgV vs) (enA as) a := by
  obtain ⟨i, xs, h1, h2⟩ := h
  exact ⟨i, xs, en0 h1, sg0' h2⟩
theorem ownA0' {m : Nat} {a : Addr} (h : OwnA (sgV vs) (enA as) a) : OwnA (sgV vs ++ List.replicate m none) (enA as ++ List.replicate m none) a := by
  obtain ⟨i, xs, h1, h2⟩ := h
  exact ⟨i, xs, en0' h1, sg0 h2⟩
section
variable {m n : Nat} {ps : List Nat} {σ' : Sg} {e' : En}
theorem outs_own (hn : vs.length = n) (hp : ∀ i ∈ ps, σ'[i]? = (sgV vs ++ List.replicate m none)[i]?) {a : Addr} {k : Nat} {ys : List D} (h1 : (outE ps n e')[k]? = some (some (.own ys))) (h2 : (sgV vs)[k]? = some (some (.ref a))) :
    e'[k]? = some (some (.own ys)) ∧ σ'[k]? = some (some (.ref a)) := by
  obtain ⟨h3, _, zs, h4, h5⟩ := outE_own h1
  cases h4
  exact ⟨h5, by rw [hp k h3]; exact sg0 h2⟩
theorem outs_abs (hn : vs.length = n) (hp : ∀ i ∈ ps, σ'[i]? = (sgV vs ++ List.replicate m none)[i]?) (A : Abs K F' H' σ' e') : Abs K F' H' (sgV vs) (outE ps n e') where
  len := by unfold outE; rw [List.length_map, List.length_map, List.length_range, hn]
  val := fun i d h => by
    obtain ⟨_, _, zs, h4, h5⟩ := outE_own h
    cases h4
  own := fun i xs h => by
    obtain ⟨h3, h6, zs, h4, h5⟩ := outE_own h
    cases h4
    obtain ⟨a, us, g1, g2, g3, g4⟩ := A.own i xs h5
    rw [hp i h3] at g1
    exact ⟨a, us, sg0' g1, g2, g3, g4⟩
  dis := fun i j xs ys a h1 h2 h3 h4 => by
    obtain ⟨g1, g2⟩ := outs_own hn hp h1 h3
    obtain ⟨g3, g4⟩ := outs_own hn hp h2 h4
    exact A.dis i j xs ys a g1 g3 g2 g4
  fok := A.fok
theorem outs_step (hn : vs.length = n) (s : StepS ps (sgV vs ++ List.replicate m none) (enA as ++ List.replicate m none) F H σ' e' F' H') : Step (sgV vs) (enA as) F H (sgV vs) (outE ps n e') F' H' := by
  refine ⟨s.st.fr, fun a o h z => s.st.kp a o h fun q => z (ownA0 q), fun a h => (s.st.nw a h).imp id fun q => q.imp id ownA0, fun a h => ?_⟩
  obtain ⟨k, ys, h1, h2⟩ := h
  obtain ⟨g1, g2⟩ := outs_own hn s.pin h1 h2
  exact (s.st.ow a ⟨k, ys, g1, g2⟩).imp ownA0 id
theorem outs_not (hn : vs.length = n) (hp : ∀ i ∈ ps, σ'[i]? = (sgV vs ++ List.replicate m none)[i]?) {a : Addr} (h : ¬ OwnA σ' e' a) : ¬ OwnA (sgV vs) (outE ps n e') a := fun ⟨k, ys, h1, h2⟩ => by
  obtain ⟨g1, g2⟩ := outs_own hn hp h1 h2
  exact h ⟨k, ys, g1, g2⟩
end
end
/-- a def keeps its promise -/
theorem fn_den {P : Program} {w : World} {mg : Str → Option Value} {base : Heap} {x qual : Str} {st : Stmt} {f : Addr} {fd : FuncData} {N : List Str} {pl : List Str} {k : Nat} (tx : Tx) (ps : List Nat) {b : SM} (Fn : Fun tx.K x qual st f fd) (S : FnScope N pl (defScope st))
    (hbody : ∀ (cdv : Value) (A : Around) (outer : List Env) (s : Shared) (H : Hp) (E : XK), A.guards = some [] → Room k (A.deeper (envOfC qual (defScope st) s.heap.objs.size f cdv)) →
      PSs (cxOf (L2.CX P w) P w tx.K mg base N qual (defScope st) f cdv A outer s H E) (defBody st) (TSx tx (fun cls dd _ H' => E cls dd H') ps b)) :
    FnG P w tx.K mg base (k + 1) f fd pl (spD tx pl.length (denOf (N.length - pl.length) ps pl.length b)) :=
  fnG_of Fn S (fun vs H Q E ⟨_, _, h, _⟩ => h) fun cdv A outer s H vs Q E gd hr ⟨F, as, hn, Ab, h⟩ => by
    refine ⟨_, hbody cdv A outer s H E gd hr, ?_⟩
    have e1 : L2.start N vs = sgV vs ++ List.replicate (N.length - pl.length) none := by unfold L2.start; rw [hn]
    rw [e1]
    refine ⟨F, enA as ++ List.replicate (N.length - pl.length) none, Ab.start, ?_⟩
    unfold denOf at h
    cases r : b (enA as ++ List.replicate (N.length - pl.length) none) with
    | rt s' e' =>
      rw [r] at h
      intro v σ' F' H' st' A' q
      refine h v F' H' (outs_step hn st') (outs_abs hn st'.pin A') ?_
      cases s' with
      | val d => exact q
      | own xs =>
        obtain ⟨a, us, q1, q2, q3, q4, q5, q6⟩ := q
        exact ⟨a, us, q1, q2, q3, q4, outs_not hn st'.pin q5, q6.imp id ownA0⟩
    | nx e' =>
      rw [r] at h
      exact fun σ' F' H' st' A' => h _ F' H' (outs_step hn st') (outs_abs hn st'.pin A') .non
    | exc x e' =>
      rw [r] at h
      exact fun cls dd σ' F' H' st' A' q => h cls dd F' H' (outs_step hn st') (outs_abs hn st'.pin A') q
    | bk e' => rw [r] at h; exact h.elim
    | ct e' => rw [r] at h; exact h.elim
    | bad => rw [r] at h; exact h.elim

/-! ### the caller -/
/-- an argument: an operand (a list of one's own is lent), or a new list that may be changed -/
inductive CA where
  | op (A : Op)
  | fr (m : En → Res (List D))
inductive CS where
  | v (d : D)
  | s (i : Nat)
  | f (xs : List D)
def evC : List CA → En → Res (List CS)
  | [], e => .ok [] e
  | .op (.o i) :: r, e => match e[i]? with
    | some (some _) => (evC r e).bind fun l e' => .ok (.s i :: l) e'
    | _ => .bad
  | .op (.p m) :: r, e => (m e).bind fun d e1 => (evC r e1).bind fun l e2 => .ok (.v d :: l) e2
  | .fr m :: r, e => (m e).bind fun xs e1 => (evC r e1).bind fun l e2 => .ok (.f xs :: l) e2
def fillC (e : En) : List CS → Option (List Sl)
  | [] => some []
  | .v d :: r => (fillC e r).map (.val d :: ·)
  | .f xs :: r => (fillC e r).map (.own xs :: ·)
  | .s i :: r => match e[i]? with
    | some (some s) => (fillC e r).map (s :: ·)
    | _ => none
/-- the lists of one's own that are lent -/
def lent (e : En) : List CS → List Nat
  | [] => []
  | .s i :: r => match e[i]? with
    | some (some (.own _)) => i :: lent e r
    | _ => lent e r
  | _ :: r => lent e r
def upE : List CS → En → En → En
  | .s i :: l, o :: os, e => upE l os (match e[i]? with
    | some (some (.own _)) => e.set i (keepO o)
    | _ => e)
  | _ :: l, _ :: os, e => upE l os e
  | _, _, e => e
section
variable (tx : Tx) (W : WX)
def teC : CA → TE
  | .op A => teO tx W A
  | .fr m => TFx tx W m
def tLC : List CA → TA
  | [] => tNil
  | c :: r => tCons (teC tx W c) (tLC r)
end
/-- how the arguments lie; H0, e0: ahead of them -/
structure ArgC (K : PySem.W.Frag) (F : Fz) (H : Hp) (σ : Sg) (e : En) (H0 : Hp) (e0 : En) (vs : List V) (l : List CS) : Prop where
  len : vs.length = l.length
  v : ∀ (k : Nat) d, l[k]? = some (.v d) → ∃ x, vs[k]? = some x ∧ Rp K F H x d
  s : ∀ (k : Nat) i, l[k]? = some (.s i) → ∃ x, vs[k]? = some x ∧ σ[i]? = some (some x)
  f : ∀ (k : Nat) xs, l[k]? = some (.f xs) → ∃ a us, vs[k]? = some (.ref a) ∧ H a = some (.lst us) ∧ Rps K F H us xs ∧ ¬ F a ∧ ¬ OwnA σ e a ∧ (H0 a = none ∨ OwnA σ e0 a)
  d : ∀ (j k : Nat) xs ys a, l[j]? = some (.f xs) → l[k]? = some (.f ys) → vs[j]? = some (.ref a) → vs[k]? = some (.ref a) → j = k
section
variable {K : PySem.W.Frag} {tx : Tx} {W : WX} {σ : Sg} {F F1 F2 : Fz} {H H0 H1 H2 : Hp} {e e0 e1 e2 : En} {vs : List V} {l : List CS}
theorem ArgC.nil : ArgC K F H σ e H0 e0 [] [] := ⟨rfl, fun k d h => by simp at h, fun k d h => by simp at h, fun k d h => by simp at h, fun j k xs ys a h => by simp at h⟩
/-- one argument ahead -/
theorem ArgC.cons {x : V} {c : CS} (A : ArgC K F2 H2 σ e2 H1 e1 vs l) (st : Step σ e0 F H0 σ e1 F1 H1)
    (hv : ∀ d, c = .v d → Rp K F2 H2 x d) (hs : ∀ i, c = .s i → σ[i]? = some (some x))
    (hf : ∀ xs, c = .f xs → ∃ a us, x = .ref a ∧ H2 a = some (.lst us) ∧ Rps K F2 H2 us xs ∧ ¬ F2 a ∧ ¬ OwnA σ e2 a ∧ (H0 a = none ∨ OwnA σ e0 a) ∧ H1 a ≠ none ∧ ¬ OwnA σ e1 a) : ArgC K F2 H2 σ e2 H0 e0 (x :: vs) (c :: l) where
  len := by rw [List.length_cons, List.length_cons, A.len]
  v := fun k d h => by
    cases k with
    | zero => exact ⟨x, rfl, hv d (by simpa using h)⟩
    | succ k => exact A.v k d (by simpa using h)
  s := fun k d h => by
    cases k with
    | zero => exact ⟨x, rfl, hs d (by simpa using h)⟩
    | succ k => exact A.s k d (by simpa using h)
  f := fun k xs h => by
    cases k with
    | zero =>
      obtain ⟨a, us, h1, h2, h3, h4, h5, h6, _, _⟩ := hf xs (by simpa using h)
      exact ⟨a, us, by rw [h1]; rfl, h2, h3, h4, h5, h6⟩
    | succ k =>
      obtain ⟨a, us, h1, h2, h3, h4, h5, h6⟩ := A.f k xs (by simpa using h)
      exact ⟨a, us, by simpa using h1, h2, h3, h4, h5, st.org h6⟩
  d := fun j k xs ys a h1 h2 h3 h4 => by
    have clash : ∀ {k : Nat} {xs ys : List D} {a : Addr}, c = .f xs → l[k]? = some (.f ys) → x = .ref a → vs[k]? = some (.ref a) → False := fun {k xs ys a} g1 g2 g3 g4 => by
      obtain ⟨b, us, p1, _, _, _, _, _, p2, p3⟩ := hf _ g1
      obtain ⟨b', us', q1, _, _, _, _, q2⟩ := A.f k _ g2
      rw [g3] at p1
      cases p1
      rw [g4] at q1
      cases q1
      rcases q2 with q2 | q2
      · exact p2 q2
      · exact p3 q2
    cases j with
    | zero =>
      cases k with
      | zero => rfl
      | succ k => exact (clash (by simpa using h1) (by simpa using h2) (by simpa using h3) (by simpa using h4)).elim
    | succ j =>
      cases k with
      | zero => exact (clash (by simpa using h2) (by simpa using h1) (by simpa using h4) (by simpa using h3)).elim
      | succ k => rw [A.d j k xs ys a (by simpa using h1) (by simpa using h2) (by simpa using h3) (by simpa using h4)]
theorem argsC_run : ∀ (c : List CA) {F : Fz} {H : Hp} {e : En} {k : List V → Hp → Prop}, Abs tx.K F H σ e →
    RunAt tx W (evC c e) σ F H e (fun l F' H' e' => ∀ vs, ArgC tx.K F' H' σ e' H e vs l → k vs H') → tLC tx W c σ H k
  | [], F, H, e, k, A, h => h F H Step.refl A [] .nil
  | .op (.o i) :: r, F, H, e, k, A, h => by
    unfold evC at h
    cases q : e[i]? with
    | none => rw [q] at h; exact h.elim
    | some s =>
      cases s with
      | none => rw [q] at h; exact h.elim
      | some s =>
        rw [q] at h
        obtain ⟨v, hv⟩ := A.slot q
        refine ⟨v, hv, ?_⟩
        refine argsC_run r A (k := fun xs H2 => k (v :: xs) H2) ?_
        refine (RunAt.seq h).mono fun l F' H' e' s' A' q' vs ha => ?_
        exact q' F' H' Step.refl A' (v :: vs) (ha.cons (Step.refl (F := F)) (fun d z => nomatch z) (fun i z => by cases z; exact hv) (fun d z => nomatch z))
  | .op (.p m) :: r, F, H, e, k, A, h => by
    unfold evC at h
    refine ⟨F, e, A, (RunAt.seq h).mono fun d F1 H1 e1 s1 A1 h1 v rv => ?_⟩
    refine argsC_run r A1 (k := fun xs H2 => k (v :: xs) H2) ?_
    refine (RunAt.seq h1).mono fun l F' H' e' s' A' q' vs ha => ?_
    exact q' F' H' Step.refl A' (v :: vs) (ha.cons s1 (fun d z => by cases z; exact A1.rp s' rv) (fun i z => nomatch z) (fun d z => nomatch z))
  | .fr m :: r, F, H, e, k, A, h => by
    unfold evC at h
    refine ⟨F, e, A, (RunAt.seq h).mono fun xs F1 H1 e1 s1 A1 h1 a us ha rs nF nO og => ?_⟩
    refine argsC_run r A1 (k := fun xs H2 => k (.ref a :: xs) H2) ?_
    refine (RunAt.seq h1).mono fun l F' H' e' s' A' q' vs hv => ?_
    have n1 : H1 a ≠ none := by rw [ha]; simp
    refine q' F' H' Step.refl A' (.ref a :: vs) (hv.cons s1 (fun d z => nomatch z) (fun i z => nomatch z) (fun d z => ?_))
    cases z
    refine ⟨a, us, rfl, s'.kp a _ ha nO, A1.rps s' rs, fun z => ?_, fun z => ?_, og, n1, nO⟩
    · rcases s'.nw a z with z | z | z
      · exact nF z
      · exact n1 z
      · exact nO z
    · rcases s'.ow a z with z | z
      · exact nO z
      · exact n1 z
theorem fillC_at : ∀ {l : List CS} {as : List Sl} {k : Nat} {s : Sl}, fillC e l = some as → as[k]? = some s → (∃ d, l[k]? = some (.v d) ∧ s = .val d) ∨ (∃ xs, l[k]? = some (.f xs) ∧ s = .own xs) ∨ ∃ i, l[k]? = some (.s i) ∧ e[i]? = some (some s)
  | [], as, k, s, h, h2 => by cases h; simp at h2
  | .v d :: r, as, k, s, h, h2 => by
    obtain ⟨as', h1, rfl⟩ := Option.map_eq_some_iff.mp (show (fillC e r).map (.val d :: ·) = some as from h)
    cases k with
    | zero =>
      have h2 : some (Sl.val d) = some s := h2
      cases h2
      exact .inl ⟨d, rfl, rfl⟩
    | succ k => exact fillC_at (l := r) h1 (show as'[k]? = some s from h2)
  | .f xs :: r, as, k, s, h, h2 => by
    obtain ⟨as', h1, rfl⟩ := Option.map_eq_some_iff.mp (show (fillC e r).map (.own xs :: ·) = some as from h)
    cases k with
    | zero =>
      have h2 : some (Sl.own xs) = some s := h2
      cases h2
      exact .inr (.inl ⟨xs, rfl, rfl⟩)
    | succ k => exact fillC_at (l := r) h1 (show as'[k]? = some s from h2)
  | .s i :: r, as, k, s, h, h2 => by
    unfold fillC at h
    split at h
    · rename_i s' q
      obtain ⟨as', h1, rfl⟩ := Option.map_eq_some_iff.mp h
      cases k with
      | zero =>
        have h2 : some s' = some s := h2
        cases h2
        exact .inr (.inr ⟨i, rfl, q⟩)
      | succ k => exact fillC_at (l := r) h1 (show as'[k]? = some s from h2)
    · cases h
theorem fillC_len : ∀ {l : List CS} {as : List Sl}, fillC e l = some as → as.length = l.length
  | [], as, h => by cases h; rfl
  | .v d :: r, as, h => by
    obtain ⟨as', h1, rfl⟩ := Option.map_eq_some_iff.mp (show (fillC e r).map (.val d :: ·) = some as from h)
    rw [List.length_cons, List.length_cons, fillC_len h1]
  | .f xs :: r, as, h => by
    obtain ⟨as', h1, rfl⟩ := Option.map_eq_some_iff.mp (show (fillC e r).map (.own xs :: ·) = some as from h)
    rw [List.length_cons, List.length_cons, fillC_len h1]
  | .s i :: r, as, h => by
    unfold fillC at h
    split at h
    · obtain ⟨as', h1, rfl⟩ := Option.map_eq_some_iff.mp h
      rw [List.length_cons, List.length_cons, fillC_len h1]
    · cases h
theorem lent_mem : ∀ {l : List CS} {k i : Nat} {xs : List D}, l[k]? = some (.s i) → e[i]? = some (some (.own xs)) → i ∈ lent e l
  | [], k, i, xs, h, _ => by simp at h
  | c :: r, 0, i, xs, h, h2 => by
    have h : some c = some (.s i) := h
    cases h
    unfold lent
    rw [h2]
    exact List.mem_cons_self
  | c :: r, k + 1, i, xs, h, h2 => by
    have ih := lent_mem (l := r) (k := k) h h2
    cases c with
    | v d => exact ih
    | f d => exact ih
    | s j =>
      unfold lent
      split
      · exact List.mem_cons_of_mem _ ih
      · exact ih
theorem lent_inj : ∀ {l : List CS} {j k i : Nat} {xs : List D}, (lent e l).Nodup → l[j]? = some (.s i) → l[k]? = some (.s i) → e[i]? = some (some (.own xs)) → j = k
  | [], j, k, i, xs, _, h, _, _ => by simp at h
  | c :: r, 0, 0, i, xs, _, _, _, _ => rfl
  | c :: r, 0, k + 1, i, xs, nd, h, h2, h3 => by
    have h : some c = some (.s i) := h
    cases h
    unfold lent at nd
    rw [h3] at nd
    exact absurd (lent_mem (l := r) h2 h3) (List.nodup_cons.mp nd).1
  | c :: r, j + 1, 0, i, xs, nd, h, h2, h3 => by
    have h2 : some c = some (.s i) := h2
    cases h2
    unfold lent at nd
    rw [h3] at nd
    exact absurd (lent_mem (l := r) h h3) (List.nodup_cons.mp nd).1
  | c :: r, j + 1, k + 1, i, xs, nd, h, h2, h3 => by
    have nd' : (lent e r).Nodup := by
      cases c with
      | v d => exact nd
      | f d => exact nd
      | s j =>
        unfold lent at nd
        split at nd
        · exact (List.nodup_cons.mp nd).2
        · exact nd
    rw [lent_inj (l := r) nd' h h2 h3]
theorem enA_at {as : List Sl} {k : Nat} {s : Sl} (h : (enA as)[k]? = some (some s)) : as[k]? = some s := by
  rw [List.getElem?_map] at h
  obtain ⟨s', h1, h2⟩ := Option.map_eq_some_iff.mp h
  cases h2
  exact h1
theorem sgV_at {k : Nat} {v : V} (h : (sgV vs)[k]? = some (some v)) : vs[k]? = some v := by
  rw [List.getElem?_map] at h
  obtain ⟨s', h1, h2⟩ := Option.map_eq_some_iff.mp h
  cases h2
  exact h1
theorem sgV_mk {k : Nat} {v : V} (h : vs[k]? = some v) : (sgV vs)[k]? = some (some v) := by
  rw [List.getElem?_map, h]; rfl
/-- the arguments as the callee sees them -/
theorem ArgC.abs {as : List Sl} (C : ArgC K F H σ e H0 e0 vs l) (A : Abs K F H σ e) (hf : fillC e l = some as) (nd : (lent e l).Nodup) : Abs K F H (sgV vs) (enA as) where
  len := by rw [List.length_map, List.length_map, C.len, fillC_len hf]
  val := fun k d h => by
    rcases fillC_at hf (enA_at h) with ⟨d', h1, h2⟩ | ⟨xs, h1, h2⟩ | ⟨i, h1, h2⟩
    · cases h2
      obtain ⟨x, g1, g2⟩ := C.v k _ h1
      exact ⟨x, sgV_mk g1, g2⟩
    · cases h2
    · obtain ⟨x, g1, g2⟩ := C.s k _ h1
      obtain ⟨v, g3, g4⟩ := A.val i d h2
      rw [g2] at g3
      cases g3
      exact ⟨x, sgV_mk g1, g4⟩
  own := fun k ys h => by
    rcases fillC_at hf (enA_at h) with ⟨d', h1, h2⟩ | ⟨xs, h1, h2⟩ | ⟨i, h1, h2⟩
    · cases h2
    · cases h2
      obtain ⟨a, us, g1, g2, g3, g4, _⟩ := C.f k _ h1
      exact ⟨a, us, sgV_mk g1, g2, g3, g4⟩
    · obtain ⟨x, g1, g2⟩ := C.s k _ h1
      obtain ⟨a, us, g3, g4⟩ := A.own i ys h2
      rw [g2] at g3
      cases g3
      exact ⟨a, us, sgV_mk g1, g4⟩
  dis := fun j k xs ys a h1 h2 h3 h4 => by
    have h3 := sgV_at h3
    have h4 := sgV_at h4
    rcases fillC_at hf (enA_at h1) with ⟨d', p1, p2⟩ | ⟨xs, p1, p2⟩ | ⟨i, p1, p2⟩
    · cases p2
    · rcases fillC_at hf (enA_at h2) with ⟨d', q1, q2⟩ | ⟨xs, q1, q2⟩ | ⟨i', q1, q2⟩
      · cases q2
      · exact C.d j k _ _ a p1 q1 h3 h4
      · obtain ⟨b, us, g1, _, _, _, g5, _⟩ := C.f j _ p1
        obtain ⟨x, g3, g4⟩ := C.s k _ q1
        rw [h3] at g1
        cases g1
        rw [h4] at g3
        cases g3
        exact absurd ⟨i', _, q2, g4⟩ g5
    · rcases fillC_at hf (enA_at h2) with ⟨d', q1, q2⟩ | ⟨xs, q1, q2⟩ | ⟨i', q1, q2⟩
      · cases q2
      · obtain ⟨b, us, g1, _, _, _, g5, _⟩ := C.f k _ q1
        obtain ⟨x, g3, g4⟩ := C.s j _ p1
        rw [h4] at g1
        cases g1
        rw [h3] at g3
        cases g3
        exact absurd ⟨i, _, p2, g4⟩ g5
      · obtain ⟨x, g1, g2⟩ := C.s j _ p1
        obtain ⟨y, g3, g4⟩ := C.s k _ q1
        rw [h3] at g1
        cases g1
        rw [h4] at g3
        cases g3
        have := A.dis i i' _ _ a p2 q2 g2 g4
        subst this
        exact lent_inj nd p1 q1 p2
  fok := A.fok
/-- whose list an argument is -/
theorem ArgC.ownA {as : List Sl} {a : Addr} (C : ArgC K F H σ e H0 e0 vs l) (hf : fillC e l = some as) (h : OwnA (sgV vs) (enA as) a) :
    (∃ (k i : Nat) (xs : List D), l[k]? = some (.s i) ∧ e[i]? = some (some (.own xs)) ∧ σ[i]? = some (some (.ref a)) ∧ vs[k]? = some (.ref a)) ∨ (¬ OwnA σ e a ∧ (H0 a = none ∨ OwnA σ e0 a)) := by
  obtain ⟨k, ys, h1, h2⟩ := h
  have h2 := sgV_at h2
  rcases fillC_at hf (enA_at h1) with ⟨d', p1, p2⟩ | ⟨xs, p1, p2⟩ | ⟨i, p1, p2⟩
  · cases p2
  · obtain ⟨b, us, g1, _, _, _, g5, g6⟩ := C.f k _ p1
    rw [h2] at g1
    cases g1
    exact .inr ⟨g5, g6⟩
  · obtain ⟨x, g1, g2⟩ := C.s k _ p1
    rw [h2] at g1
    cases g1
    exact .inl ⟨k, i, ys, p1, p2, g2, h2⟩
theorem upE_len : ∀ {l : List CS} {o e : En}, (upE l o e).length = e.length
  | [], o, e => by unfold upE; cases o <;> rfl
  | .v d :: l, [], e => rfl
  | .f d :: l, [], e => rfl
  | .s i :: l, [], e => rfl
  | .v d :: l, o :: os, e => upE_len (l := l)
  | .f d :: l, o :: os, e => upE_len (l := l)
  | .s i :: l, o :: os, e => by
    show (upE l os _).length = _
    rw [upE_len (l := l)]
    split
    · rw [List.length_set]
    · rfl
theorem upE_val : ∀ {l : List CS} {o e : En} {j : Nat} {d : D}, (upE l o e)[j]? = some (some (.val d)) → e[j]? = some (some (.val d))
  | [], o, e, j, d, h => by unfold upE at h; cases o <;> exact h
  | .v d :: l, [], e, _, _, h => h
  | .f d :: l, [], e, _, _, h => h
  | .s i :: l, [], e, _, _, h => h
  | .v d :: l, o :: os, e, _, _, h => upE_val (l := l) h
  | .f d :: l, o :: os, e, _, _, h => upE_val (l := l) h
  | .s i :: l, o :: os, e, j, d, h => by
    have h := upE_val (l := l) (show (upE l os _)[j]? = _ from h)
    split at h
    · by_cases hj : i = j
      · subst hj
        by_cases hl : i < e.length
        · rw [List.getElem?_set_self hl] at h
          have h : keepO o = some (.val d) := Option.some.inj h
          unfold keepO at h
          split at h <;> cases h
        · rw [List.getElem?_eq_none (by simpa using hl)] at h; cases h
      · rw [List.getElem?_set_ne hj] at h; exact h
    · exact h
theorem upE_own : ∀ {l : List CS} {o e : En} {j : Nat} {ys : List D}, l.length ≤ o.length → (upE l o e)[j]? = some (some (.own ys)) →
    (e[j]? = some (some (.own ys)) ∧ ∀ k : Nat, l[k]? ≠ some (.s j)) ∨ ∃ (k : Nat) (xs : List D), l[k]? = some (.s j) ∧ o[k]? = some (some (.own ys)) ∧ e[j]? = some (some (.own xs))
  | [], o, e, j, ys, _, h => by
    unfold upE at h
    cases o <;> exact .inl ⟨h, fun k => by simp⟩
  | _ :: l, [], e, _, _, hl, h => by simp at hl
  | .v d :: l, o :: os, e, j, ys, hl, h => by
    rcases upE_own (l := l) (by simpa using hl) (show (upE l os e)[j]? = _ from h) with ⟨h1, h2⟩ | ⟨k, xs, h1, h2, h3⟩
    · refine .inl ⟨h1, fun k => ?_⟩
      cases k with
      | zero => simp
      | succ k => simpa using h2 k
    · exact .inr ⟨k + 1, xs, by simpa using h1, by simpa using h2, h3⟩
  | .f d :: l, o :: os, e, j, ys, hl, h => by
    rcases upE_own (l := l) (by simpa using hl) (show (upE l os e)[j]? = _ from h) with ⟨h1, h2⟩ | ⟨k, xs, h1, h2, h3⟩
    · refine .inl ⟨h1, fun k => ?_⟩
      cases k with
      | zero => simp
      | succ k => simpa using h2 k
    · exact .inr ⟨k + 1, xs, by simpa using h1, by simpa using h2, h3⟩
  | .s i :: l, o :: os, e, j, ys, hl, h => by
    have h := upE_own (l := l) (by simpa using hl) (show (upE l os _)[j]? = _ from h)
    cases q : e[i]? with
    | none =>
      rw [q] at h
      rcases h with ⟨h1, h2⟩ | ⟨k, xs, h1, h2, h3⟩
      · refine .inl ⟨h1, fun k => ?_⟩
        cases k with
        | zero =>
          intro z
          have z : some (CS.s i) = some (CS.s j) := z
          cases z
          rw [q] at h1
          cases h1
        | succ k => simpa using h2 k
      · exact .inr ⟨k + 1, xs, by simpa using h1, by simpa using h2, h3⟩
    | some u =>
      have other : (e[j]? = some (some (.own ys)) ∧ ∀ k : Nat, l[k]? ≠ some (.s j)) ∨ (∃ (k : Nat) (xs : List D), l[k]? = some (.s j) ∧ os[k]? = some (some (.own ys)) ∧ e[j]? = some (some (.own xs))) → i ≠ j →
          (e[j]? = some (some (.own ys)) ∧ ∀ k : Nat, (CS.s i :: l)[k]? ≠ some (.s j)) ∨ ∃ (k : Nat) (xs : List D), (CS.s i :: l)[k]? = some (.s j) ∧ (o :: os)[k]? = some (some (.own ys)) ∧ e[j]? = some (some (.own xs)) := fun h hij => by
        rcases h with ⟨h1, h2⟩ | ⟨k, xs, h1, h2, h3⟩
        · refine .inl ⟨h1, fun k => ?_⟩
          cases k with
          | zero =>
            intro z
            have z : some (CS.s i) = some (CS.s j) := z
            cases z
            exact hij rfl
          | succ k => simpa using h2 k
        · exact .inr ⟨k + 1, xs, by simpa using h1, by simpa using h2, h3⟩
      cases u with
      | none =>
        rw [q] at h
        refine other h fun z => ?_
        subst z
        rcases h with ⟨h1, _⟩ | ⟨_, _, _, _, h1⟩ <;> (rw [q] at h1; cases h1)
      | some u =>
        cases u with
        | val d =>
          rw [q] at h
          refine other h fun z => ?_
          subst z
          rcases h with ⟨h1, _⟩ | ⟨_, _, _, _, h1⟩ <;> (rw [q] at h1; cases h1)
        | own zs =>
          rw [q] at h
          have hil : i < e.length := (List.getElem?_eq_some_iff.mp q).1
          by_cases hij : i = j
          · subst hij
            rcases h with ⟨h1, h2⟩ | ⟨k, xs, h1, h2, h3⟩
            · have h1 : (e.set i (keepO o))[i]? = some (some (.own ys)) := h1
              rw [List.getElem?_set_self hil] at h1
              have h1 : keepO o = some (.own ys) := Option.some.inj h1
              unfold keepO at h1
              split at h1
              · rename_i us
                cases h1
                exact .inr ⟨0, zs, rfl, rfl, q⟩
              · cases h1
            · exact .inr ⟨k + 1, zs, by simpa using h1, by simpa using h2, q⟩
          · refine other ?_ hij
            rcases h with ⟨h1, h2⟩ | ⟨k, xs, h1, h2, h3⟩
            · have h1 : (e.set i (keepO o))[j]? = some (some (.own ys)) := h1
              rw [List.getElem?_set_ne hij] at h1
              exact .inl ⟨h1, h2⟩
            · have h3 : (e.set i (keepO o))[j]? = some (some (.own xs)) := h3
              rw [List.getElem?_set_ne hij] at h3
              exact .inr ⟨k, xs, h1, h2, h3⟩
end

/-- the call, from the start of its arguments -/
def callEnd (n : Nat) (den : Den) (l l' : List CS) (e1 : En) : Res Rv := match fillC e1 l' with
  | some as => if (lent e1 l').Nodup ∧ l'.length = n then (match den as with
    | .ok s o => .ok s (upE l' o e1)
    | .exc x o => .exc x (upE l' o e1)
    | .bad => .bad) else .bad
  | none => .bad
def mCall (n : Nat) (den : Den) (c : List CA) (e : En) : Res Rv := (evC c e).bind fun l e1 => callEnd n den l l e1
def TCx (tx : Tx) (W : WX) (m : En → Res Rv) : TE := fun σ H Q => ∃ F e, Abs tx.K F H σ e ∧ RunAt tx W (m e) σ F H e fun s F' H' e' => ∀ v, RvR tx.K σ e H F' H' σ e' v s → Q v H'
section
variable {tx : Tx} {W : WX} {σ : Sg} {F F1 : Fz} {H H1 : Hp} {e e1 : En} {vs : List V} {l : List CS}
/-- behind the call -/
theorem call_abs {as : List Sl} {o : En} {F2 : Fz} {H2 : Hp} {K : PySem.W.Frag} (C : ArgC K F1 H1 σ e1 H e vs l) (s1 : Step σ e F H σ e1 F1 H1) (A1 : Abs K F1 H1 σ e1) (hf : fillC e1 l = some as)
    (s2 : Step (sgV vs) (enA as) F1 H1 (sgV vs) o F2 H2) (A2 : Abs K F2 H2 (sgV vs) o) : Abs K F2 H2 σ (upE l o e1) ∧ Step σ e F H σ (upE l o e1) F2 H2 := by
  have lo : l.length ≤ o.length := by
    have := A2.len
    rw [List.length_map, C.len] at this
    omega
  have kept : ∀ a u, H1 a = some u → (∀ (k i : Nat), l[k]? = some (.s i) → ∀ xs, e1[i]? = some (some (.own xs)) → σ[i]? = some (some (.ref a)) → False) → (OwnA σ e1 a ∨ ¬ (H a = none ∨ OwnA σ e a)) → H2 a = some u := fun a u h1 h2 h3 =>
    s2.kp a u h1 fun z => by
      rcases C.ownA hf z with ⟨k, i, xs, z1, z2, z3, _⟩ | ⟨z1, z2⟩
      · exact h2 k i z1 xs z2 z3
      · rcases h3 with h3 | h3
        · exact z1 h3
        · exact h3 z2
  have keptF : ∀ a u, F1 a → H1 a = some u → H2 a = some u := fun a u f h1 => s2.kp a u h1 fun z => by
    obtain ⟨k, xs, z1, z2⟩ := z
    rcases fillC_at hf (enA_at z1) with ⟨d, q1, q2⟩ | ⟨ys, q1, q2⟩ | ⟨i, q1, q2⟩
    · cases q2
    · obtain ⟨b, us, g1, _, _, g4, _⟩ := C.f k _ q1
      rw [sgV_at z2] at g1
      cases g1
      exact g4 f
    · obtain ⟨x, g1, g2⟩ := C.s k _ q1
      rw [sgV_at z2] at g1
      cases g1
      exact A1.noF ⟨i, _, q2, g2⟩ f
  have noNew : ∀ a, F2 a → OwnA σ e1 a → (∀ (k i : Nat), l[k]? = some (.s i) → ∀ xs, e1[i]? = some (some (.own xs)) → σ[i]? = some (some (.ref a)) → False) → False := fun a f o h => by
    rcases s2.nw a f with z | z | z
    · exact A1.noF o z
    · exact A1.ownT o z
    · rcases C.ownA hf z with ⟨k, i, xs, z1, z2, z3, _⟩ | ⟨z1, z2⟩
      · exact h k i z1 xs z2 z3
      · exact z1 o
  -- a list of one's own behind the call
  have own' : ∀ (j : Nat) ys, (upE l o e1)[j]? = some (some (.own ys)) → ∃ a us, σ[j]? = some (some (.ref a)) ∧ H2 a = some (.lst us) ∧ Rps K F2 H2 us ys ∧ ¬ F2 a := fun j ys h => by
    rcases upE_own lo h with ⟨h1, h2⟩ | ⟨k, xs, h1, h2, h3⟩
    · obtain ⟨a, us, g1, g2, g3, g4⟩ := A1.own j ys h1
      have oa : OwnA σ e1 a := ⟨j, ys, h1, g1⟩
      have nl : ∀ (k i : Nat), l[k]? = some (.s i) → ∀ xs, e1[i]? = some (some (.own xs)) → σ[i]? = some (some (.ref a)) → False := fun k i z1 xs z2 z3 => by
        have := A1.dis i j xs ys a z2 h1 z3 g1
        subst this
        exact h2 k z1
      exact ⟨a, us, g1, kept a _ g2 nl (.inl oa), g3.mono s2.fr keptF, fun z => noNew a z oa nl⟩
    · obtain ⟨a, us, g1, g2⟩ := A2.own k ys h2
      obtain ⟨x, g3, g4⟩ := C.s k _ h1
      rw [sgV_at g1] at g3
      cases g3
      exact ⟨a, us, g4, g2⟩
  have ownE1 : ∀ (j : Nat) ys, (upE l o e1)[j]? = some (some (.own ys)) → ∃ xs, e1[j]? = some (some (.own xs)) := fun j ys h => by
    rcases upE_own lo h with ⟨h1, _⟩ | ⟨_, xs, _, _, h3⟩
    · exact ⟨ys, h1⟩
    · exact ⟨xs, h3⟩
  refine ⟨⟨by rw [upE_len]; exact A1.len, fun j d h => ?_, own', fun j k xs ys a h1 h2 h3 h4 => ?_, A2.fok⟩, ⟨fun a f => s2.fr a (s1.fr a f), fun a u h n => ?_, fun a f => ?_, fun a z => ?_⟩⟩
  · obtain ⟨v, h1, h2⟩ := A1.val j d (upE_val h)
    exact ⟨v, h1, h2.mono s2.fr keptF⟩
  · obtain ⟨xs', g1⟩ := ownE1 j xs h1
    obtain ⟨ys', g2⟩ := ownE1 k ys h2
    exact A1.dis j k xs' ys' a g1 g2 h3 h4
  · have h1 := s1.kp a u h n
    refine kept a u h1 (fun k i z1 xs z2 z3 => ?_) (.inr fun z => ?_)
    · rcases s1.ow a ⟨i, xs, z2, z3⟩ with q | q
      · exact n q
      · rw [h] at q; cases q
    · rcases z with z | z
      · rw [h] at z; cases z
      · exact n z
  · rcases s2.nw a f with z | z | z
    · exact s1.nw a z
    · exact .inr (s1.back z)
    · rcases C.ownA hf z with ⟨k, i, xs, z1, z2, z3, _⟩ | ⟨z1, z2⟩
      · exact .inr ((s1.ow a ⟨i, xs, z2, z3⟩).symm)
      · exact .inr z2
  · obtain ⟨j, ys, h1, h2⟩ := z
    obtain ⟨xs, h3⟩ := ownE1 j ys h1
    exact s1.ow a ⟨j, xs, h3, h2⟩
/-- the callee's promise, from the caller's reading -/
theorem call_sp {n : Nat} {den : Den} {Q : VK} {l0 : List CS} (C : ArgC tx.K F1 H1 σ e1 H e vs l) (s1 : Step σ e F H σ e1 F1 H1) (A1 : Abs tx.K F1 H1 σ e1)
    (h : RunAt tx W (callEnd n den l0 l e1) σ F H e fun s F' H' e' => ∀ v, RvR tx.K σ e H F' H' σ e' v s → Q v H') : spD tx n den vs H1 Q (WE W σ) := by
  unfold callEnd at h
  cases hf : fillC e1 l with
  | none => rw [hf] at h; exact h.elim
  | some as =>
    rw [hf] at h
    have h : RunAt tx W (if (lent e1 l).Nodup ∧ l.length = n then _ else .bad) σ F H e _ := h
    split at h
    · rename_i hc
      refine ⟨F1, as, by rw [C.len, hc.2], C.abs A1 hf hc.1, ?_⟩
      cases r : den as with
      | ok s o =>
        rw [r] at h
        intro v F2 H2 s2 A2 q
        obtain ⟨A3, s3⟩ := call_abs C s1 A1 hf s2 A2
        refine h F2 H2 s3 A3 v ?_
        cases s with
        | val d => exact q
        | own xs =>
          obtain ⟨a, us, q1, q2, q3, q4, q5, q6⟩ := q
          refine ⟨a, us, q1, q2, q3, q4, fun z => ?_, ?_⟩
          · have lo : l.length ≤ o.length := by
              have := A2.len
              rw [List.length_map, C.len] at this
              omega
            obtain ⟨j, ys, z1, z2⟩ := z
            rcases upE_own lo z1 with ⟨h1, h2⟩ | ⟨k, xs', h1, h2, h3⟩
            · have oa : OwnA σ e1 a := ⟨j, ys, h1, z2⟩
              rcases q6 with q6 | q6
              · exact A1.ownT oa q6
              · rcases C.ownA hf q6 with ⟨k, i, xs', p1, p2, p3, _⟩ | ⟨p1, _⟩
                · have := A1.dis i j xs' ys a p2 h1 p3 z2
                  subst this
                  exact h2 k p1
                · exact p1 oa
            · obtain ⟨x, g3, g4⟩ := C.s k _ h1
              rw [z2] at g4
              cases g4
              exact q5 ⟨k, ys, h2, sgV_mk g3⟩
          · rcases q6 with q6 | q6
            · exact s1.back q6
            · rcases C.ownA hf q6 with ⟨k, i, xs', p1, p2, p3, _⟩ | ⟨_, p2⟩
              · exact (s1.ow a ⟨i, xs', p2, p3⟩).symm
              · exact p2
      | exc x o =>
        rw [r] at h
        intro cls dd F2 H2 s2 A2 q
        obtain ⟨A3, s3⟩ := call_abs C s1 A1 hf s2 A2
        exact h cls dd F2 H2 s3 A3 q
      | bad => rw [r] at h; exact h.elim
    · exact h.elim
theorem call_run {n : Nat} {den : Den} {c : List CA} {Q : VK} (h : TCx tx W (mCall n den c) σ H Q) : tLC tx W c σ H fun vs H1 => spD tx n den vs H1 Q (WE W σ) := by
  obtain ⟨F, e, Ab, h⟩ := h
  refine argsC_run c Ab ?_
  unfold mCall at h
  cases q : evC c e with
  | ok l e1 =>
    rw [q] at h
    exact fun F1 H1 s1 A1 vs C => call_sp (l0 := l) C s1 A1 h
  | exc x e1 => rw [q] at h; exact h
  | bad => rw [q] at h; exact h

/-! ### keywords -/
def pick {α : Type} (idx : List Nat) (l : List α) : List α := idx.filterMap (l[·]?)
theorem pick_get {α : Type} {l : List α} : ∀ {idx : List Nat} {k : Nat}, (∀ i ∈ idx, i < l.length) → (pick idx l)[k]? = idx[k]?.bind (l[·]?)
  | [], k, _ => by simp [pick]
  | i :: idx, k, h => by
    have hi := h i List.mem_cons_self
    have e : pick (i :: idx) l = l[i] :: pick idx l := by
      unfold pick
      rw [List.filterMap_cons, List.getElem?_eq_getElem hi]
    rw [e]
    cases k with
    | zero => simp [List.getElem?_eq_getElem hi]
    | succ k =>
      rw [List.getElem?_cons_succ, List.getElem?_cons_succ]
      exact pick_get fun j hj => h j (List.mem_cons_of_mem _ hj)
theorem pick_len {α : Type} {l : List α} : ∀ {idx : List Nat}, (∀ i ∈ idx, i < l.length) → (pick idx l).length = idx.length
  | [], _ => rfl
  | i :: idx, h => by
    have hi := h i List.mem_cons_self
    have e : pick (i :: idx) l = l[i] :: pick idx l := by
      unfold pick
      rw [List.filterMap_cons, List.getElem?_eq_getElem hi]
    rw [e, List.length_cons, List.length_cons, pick_len fun j hj => h j (List.mem_cons_of_mem _ hj)]
theorem vals_get : ∀ {vs : List V} {us : List Value} {i : Nat}, Vals vs us → (∃ v u, vs[i]? = some v ∧ us[i]? = some u ∧ RelV v u) ∨ (vs[i]? = none ∧ us[i]? = none)
  | _, _, _, .nil => .inr ⟨by simp, by simp⟩
  | _, _, 0, .cons h _ => .inl ⟨_, _, rfl, rfl, h⟩
  | _, _, i + 1, .cons _ r => by
    rcases vals_get (i := i) r with ⟨v, u, h1, h2, h3⟩ | ⟨h1, h2⟩
    · exact .inl ⟨v, u, by simpa using h1, by simpa using h2, h3⟩
    · exact .inr ⟨by simpa using h1, by simpa using h2⟩
theorem pick_vals {vs : List V} {us : List Value} (r : Vals vs us) : ∀ idx : List Nat, Vals (pick idx vs) (pick idx us)
  | [] => .nil
  | i :: idx => by
    have ih := pick_vals r idx
    unfold pick at ih ⊢
    rw [List.filterMap_cons, List.filterMap_cons]
    rcases vals_get (i := i) r with ⟨v, u, h1, h2, h3⟩ | ⟨h1, h2⟩
    · rw [h1, h2]; exact .cons h3 ih
    · rw [h1, h2]; exact ih
theorem nodup_at : ∀ {idx : List Nat} {j k i : Nat}, idx.Nodup → idx[j]? = some i → idx[k]? = some i → j = k
  | [], _, _, _, _, h, _ => by simp at h
  | x :: r, 0, 0, _, _, _, _ => rfl
  | x :: r, 0, k + 1, i, nd, h, h2 => by
    have h : some x = some i := h
    cases h
    exact absurd (List.mem_of_getElem? (show r[k]? = some x from h2)) (List.nodup_cons.mp nd).1
  | x :: r, j + 1, 0, i, nd, h, h2 => by
    have h2 : some x = some i := h2
    cases h2
    exact absurd (List.mem_of_getElem? (show r[j]? = some x from h)) (List.nodup_cons.mp nd).1
  | x :: r, j + 1, k + 1, i, nd, h, h2 => by rw [nodup_at (idx := r) (List.nodup_cons.mp nd).2 h h2]
theorem ArgC.pick {K : PySem.W.Frag} {idx : List Nat} (C : ArgC K F1 H1 σ e1 H e vs l) (hi : ∀ i ∈ idx, i < l.length) (nd : idx.Nodup) : ArgC K F1 H1 σ e1 H e (pick idx vs) (pick idx l) := by
  have hv : ∀ i ∈ idx, i < vs.length := fun i h => by rw [C.len]; exact hi i h
  have at_l : ∀ {k : Nat} {c : CS}, (Dn.pick idx l)[k]? = some c → ∃ i, idx[k]? = some i ∧ l[i]? = some c := fun {k c} h => by
    rw [pick_get hi] at h
    exact Option.bind_eq_some_iff.mp h
  have at_v : ∀ {k i : Nat} {x : V}, idx[k]? = some i → vs[i]? = some x → (Dn.pick idx vs)[k]? = some x := fun {k i x} h1 h2 => by
    rw [pick_get hv, h1]
    exact h2
  have at_v' : ∀ {k i : Nat} {x : V}, idx[k]? = some i → (Dn.pick idx vs)[k]? = some x → vs[i]? = some x := fun {k i x} h1 h2 => by
    rw [pick_get hv, h1] at h2
    exact h2
  refine ⟨by rw [pick_len hi, pick_len hv], fun k d h => ?_, fun k i h => ?_, fun k xs h => ?_, fun j k xs ys a h1 h2 h3 h4 => ?_⟩
  · obtain ⟨i, g1, g2⟩ := at_l h
    obtain ⟨x, g3, g4⟩ := C.v i d g2
    exact ⟨x, at_v g1 g3, g4⟩
  · obtain ⟨i', g1, g2⟩ := at_l h
    obtain ⟨x, g3, g4⟩ := C.s i' i g2
    exact ⟨x, at_v g1 g3, g4⟩
  · obtain ⟨i, g1, g2⟩ := at_l h
    obtain ⟨a, us, g3, g4⟩ := C.f i xs g2
    exact ⟨a, us, at_v g1 g3, g4⟩
  · obtain ⟨i, g1, g2⟩ := at_l h1
    obtain ⟨i', g1', g2'⟩ := at_l h2
    have := C.d i i' xs ys a g2 g2' (at_v' g1 h3) (at_v' g1' h4)
    subst this
    exact nodup_at nd g1 g1'
/-- c: the positional arguments, then the keywords'; idx: the parameters' order -/
def mCallK (n : Nat) (idx : List Nat) (den : Den) (c : List CA) (e : En) : Res Rv := (evC c e).bind fun l e1 => callEnd n den l (pick idx l) e1
theorem callK_run {n : Nat} {idx : List Nat} {den : Den} {c : List CA} {Q : VK} (hi : (idx.all (· < c.length)) = true) (nd : idx.Nodup) (h : TCx tx W (mCallK n idx den c) σ H Q) : tLC tx W c σ H fun vs H1 => vs.length = c.length → spD tx n den (pick idx vs) H1 Q (WE W σ) := by
  obtain ⟨F, e, Ab, h⟩ := h
  refine argsC_run c Ab ?_
  unfold mCallK at h
  cases q : evC c e with
  | ok l e1 =>
    rw [q] at h
    exact fun F1 H1 s1 A1 vs C hl => call_sp (l0 := l) (C.pick (fun i hm => by
      have := List.all_eq_true.mp hi i hm
      rw [← C.len, hl]
      exact of_decide_eq_true this) nd) s1 A1 h
  | exc x e1 => rw [q] at h; exact h
  | bad => rw [q] at h; exact h
theorem teC_mono {c : CA} {Q Q' : VK} (hq : ∀ x H', Q x H' → Q' x H') (h : teC tx W c σ H Q) : teC tx W c σ H Q' := by
  cases c with
  | op A =>
    cases A with
    | p m =>
      obtain ⟨F, e, Ab, h⟩ := h
      exact ⟨F, e, Ab, h.mono fun d F' H' e' s A' q v r => hq _ _ (q v r)⟩
    | o i =>
      obtain ⟨v, h1, h2⟩ := h
      exact ⟨v, h1, hq _ _ h2⟩
  | fr m =>
    obtain ⟨F, e, Ab, h⟩ := h
    exact ⟨F, e, Ab, h.mono fun d F' H' e' s A' q a vs h1 h2 h3 h4 h5 => hq _ _ (q a vs h1 h2 h3 h4 h5)⟩
theorem tLC_mono : ∀ {c : List CA} {H : Hp} {k k' : List V → Hp → Prop}, (∀ x H', k x H' → k' x H') → tLC tx W c σ H k → tLC tx W c σ H k'
  | [], _, _, _, hk, h => hk _ _ h
  | _ :: r, _, _, _, hk, h => teC_mono (fun _ _ h' => tLC_mono (c := r) (fun xs H' q => hk _ _ q) h') h
theorem tLC_len : ∀ {c : List CA} {H : Hp} {k : List V → Hp → Prop}, tLC tx W c σ H k → tLC tx W c σ H fun vs H' => vs.length = c.length ∧ k vs H'
  | [], _, _, h => ⟨rfl, h⟩
  | c :: r, _, _, h => teC_mono (fun x H1 h' => tLC_mono (c := r) (fun xs H' q => ⟨by rw [List.length_cons, List.length_cons, q.1], q.2⟩) (tLC_len (c := r) h')) h
theorem tLC_app : ∀ {c c' : List CA} {H : Hp} {k : List V → Hp → Prop}, tLC tx W (c ++ c') σ H k → tLC tx W c σ H fun vs H1 => tLC tx W c' σ H1 fun zs H2 => k (vs ++ zs) H2
  | [], _, _, _, h => h
  | _ :: r, c', _, _, h => teC_mono (fun _ _ h' => tLC_app (c := r) (c' := c') h') h
end
end Dn

/-! Dn, part I: the rules of calls -/
namespace Dn
open PySem PySem.Spec PyProof.Rows L2

/-- how a call with n positional values and keywords binds -/
structure KB (K : PySem.W.Frag) (fd : FuncData) (ps : List Str) (n : Nat) (ks : List Str) (idx : List Nat) : Prop where
  to : ∀ (s : Shared) (us ws : List Value), us.length = n → ws.length = ks.length → BindsTo s fd ⟨us, ks.zip ws⟩ (ps.zip (pick idx (us ++ ws)))
theorem kb_of {K : PySem.W.Frag} {x qual : Str} {st : Stmt} {f : Addr} {fd : FuncData} {ps ks : List Str} {n : Nat} {idx : List Nat} (F : Fun K x qual st f fd)
    (h : ∀ (kV doc pm : Value) (an : Option Addr) (cdv ct : Value) (us ws : List Value), us.length = n → ws.length = ks.length →
      bindArgs (PySem.W.fnOf x qual (defArgs st) (defBody st) (defScope st) .none kV doc pm an cdv ct) ⟨us, ks.zip ws⟩ = pure (ps.zip (pick idx (us ++ ws)))) : KB K fd ps n ks idx := by
  obtain ⟨oc, od, kV, doc, pm, an, cdv, ct, osl, rfl, lk, hcd⟩ := F.ex
  exact ⟨fun s us ws h1 h2 => .of_eq (h kV doc pm an cdv ct us ws h1 h2)⟩

section
variable {X : Cx} {k n : Nat} {f : Addr} {fd : FuncData} {ps ks : List Str} {sp : Sp} {E : L2.St → XK} {x : Str} {p pos : Pos} {e : Expr} {es : List Expr} {kws : List Keyword} {t tk : TA} {idx : List Nat}
theorem run_pos {pins : List (Addr × Obj)} {σ : L2.St} {H : Hp} {s : Shared} {Q : VK} {us : List Value} {vs : List V} (F : FnG X.prog X.w X.K X.mg X.base k f fd ps sp) (gd : X.A.guards = some []) (hr : Room k X.A) (hb : Binds X.K fd ps []) (hx : PassesAt (L2.CX X.prog X.w) X σ (E σ))
    (I : Inv X pins σ H s) (r : Vals vs us) (h : sp vs H Q (E σ)) : wpAny (model X.prog X.w) X.A (call (.ref f) us) (EP X pins σ Q) X.xe s := by
  have b := hb s us I.kIn (by rw [List.append_nil, ← r.length]; exact F.len _ _ _ _ h)
  rw [List.append_nil] at b
  exact wpAny_call (codeAny_mono (run_g F gd hr b hx I r h) fun r s' q => by
    cases r with
    | error e => exact q
    | ok fl => cases fl <;> exact q)
theorem run_kw {pins : List (Addr × Obj)} {σ : L2.St} {H : Hp} {s : Shared} {Q : VK} {us ws : List Value} {vs zs : List V} (F : FnG X.prog X.w X.K X.mg X.base k f fd ps sp) (gd : X.A.guards = some []) (hr : Room k X.A) (hb : KB X.K fd ps n ks idx) (hx : PassesAt (L2.CX X.prog X.w) X σ (E σ))
    (I : Inv X pins σ H s) (r : Vals vs us) (rz : Vals zs ws) (l1 : vs.length = n) (l2 : zs.length = ks.length) (h : sp (pick idx (vs ++ zs)) H Q (E σ)) : wpAny (model X.prog X.w) X.A (call (.ref f) us (ks.zip ws)) (EP X pins σ Q) X.xe s :=
  wpAny_call (codeAny_mono (run_g F gd hr (hb.to s us ws (r.length.symm.trans l1) (rz.length.symm.trans l2)) hx I (pick_vals (r.append rz) idx) h) fun r s' q => by
    cases r with
    | error e => exact q
    | ok fl => cases fl <;> exact q)
def tPos (sp : Sp) (E : L2.St → XK) (t : TA) : TE := fun σ H Q => t σ H fun vs H1 => sp vs H1 Q (E σ)
theorem pe_pos (F : FnG X.prog X.w X.K X.mg X.base k f fd ps sp) (gd : X.A.guards = some []) (hr : Room k X.A) (hg : Gl X x) (hm : X.mg x = some (.ref f)) (hk : PySem.W.keepIn X.K (.ref f) = true) (hb : Binds X.K fd ps []) (hx : ∀ σ, PassesAt (L2.CX X.prog X.w) X σ (E σ))
    (ha : PA X (e :: es) t) (hdb : (x == ("__debug__" : Str)) = false) (he : starEach (e :: es) X.env = (false, eval e X.env) :: starEach es X.env) (hpl : (backTo pos (starEach es X.env)).any (·.1) = false) :
    PE X (.Call (.Name x p) (e :: es) [] pos) (tPos sp E t) :=
  ⟨fun pins s σ H Q I h => wpAny_Call_Name_kw (ld_glob I hg hm (PySem.W.callWith_K (h₀ := X.base) I.ok.mod.kin hk (thn (ha.run pos pins s σ H _ I h) fun us s1 ⟨vs, H1, I1, r, q⟩ =>
    ⟨I1.kIn, run_pos F gd hr hb (hx σ) I1 r q⟩) he hpl) hdb)⟩
def tKw (n m : Nat) (idx : List Nat) (sp : Sp) (E : L2.St → XK) (t tk : TA) : TE := fun σ H Q => t σ H fun vs H1 => tk σ H1 fun zs H2 => vs.length = n ∧ zs.length = m ∧ sp (pick idx (vs ++ zs)) H2 Q (E σ)
theorem pe_kw (F : FnG X.prog X.w X.K X.mg X.base k f fd ps sp) (gd : X.A.guards = some []) (hr : Room k X.A) (hg : Gl X x) (hm : X.mg x = some (.ref f)) (hk : PySem.W.keepIn X.K (.ref f) = true) (hb : KB X.K fd ps n ks idx) (hx : ∀ σ, PassesAt (L2.CX X.prog X.w) X σ (E σ))
    (ha : PA X (e :: es) t) (hkw : PK X kws tk) (hall : (backToKw pos (keywordEach kws X.env)).all (·.1.isSome) = true) (hks : (backToKw pos (keywordEach kws X.env)).filterMap (·.1) = ks)
    (hdb : (x == ("__debug__" : Str)) = false) (he : starEach (e :: es) X.env = (false, eval e X.env) :: starEach es X.env)
    (hpl : ((backTo pos (starEach (e :: es) X.env)).any (·.1) || (backToKw pos (keywordEach kws X.env)).any (·.1.isNone)) = false) :
    PE X (.Call (.Name x p) (e :: es) kws pos) (tKw n ks.length idx sp E t tk) := by
  refine ⟨fun pins s σ H Q I h => wpAny_Call_Name_kw (ld_glob I hg hm (PySem.W.callWith_KW (h₀ := X.base) I.ok.mod.kin hk hall (thn (ha.run pos pins s σ H _ I h) fun us s1 ⟨vs, H1, I1, r, q⟩ => ?_) hpl he) hdb)⟩
  refine thn (hkw.run pos pins s1 σ H1 _ I1 q) fun ws s2 ⟨zs, H2, I2, rz, l1, l2, q2⟩ => ⟨I2.kIn, ?_⟩
  rw [hks]
  exact run_kw F gd hr hb (hx σ) I2 r rz l1 l2 q2
theorem pe_kw0 (F : FnG X.prog X.w X.K X.mg X.base k f fd ps sp) (gd : X.A.guards = some []) (hr : Room k X.A) (hg : Gl X x) (hm : X.mg x = some (.ref f)) (hk : PySem.W.keepIn X.K (.ref f) = true) (hb : KB X.K fd ps 0 ks idx) (hx : ∀ σ, PassesAt (L2.CX X.prog X.w) X σ (E σ))
    (hkw : PK X kws tk) (hall : (backToKw pos (keywordEach kws X.env)).all (·.1.isSome) = true) (hks : (backToKw pos (keywordEach kws X.env)).filterMap (·.1) = ks)
    (hdb : (x == ("__debug__" : Str)) = false)
    (hpl : ((backTo pos (starEach [] X.env)).any (·.1) || (backToKw pos (keywordEach kws X.env)).any (·.1.isNone)) = false) :
    PE X (.Call (.Name x p) [] kws pos) (tKw 0 ks.length idx sp E tNil tk) := by
  refine ⟨fun pins s σ H Q I h => wpAny_Call_Name_kw (ld_glob I hg hm (PySem.W.callWith_KW0 (h₀ := X.base) I.ok.mod.kin hk hall (thn (hkw.run pos pins s σ H _ I h) fun ws s2 ⟨zs, H2, I2, rz, l1, l2, q2⟩ => ⟨I2.kIn, ?_⟩) hpl) hdb)⟩
  rw [hks]
  exact run_kw (us := []) (vs := []) F gd hr hb (hx σ) I2 .nil rz rfl l2 q2
end
section
variable {tx : Tx} {X : Cx} {W : WX} {k n : Nat} {f : Addr} {fd : FuncData} {ps ks : List Str} {den : Den} {x : Str} {p pos kpos : Pos} {e : Expr} {es : List Expr} {kws : List Keyword} {c c' : List CA} {ca : CA} {A : Op} {idx : List Nat} {nm : Option Str} {m : En → Res Rv} {mf : En → Res (List D)}
theorem ac_nil : PA X [] (tLC tx W []) := pa_nil
theorem ac_cons (ha : PE X e (teC tx W ca)) (hr : PA X es (tLC tx W c)) (hs : starEach (e :: es) X.env = (false, eval e X.env) :: starEach es X.env := by rfl) : PA X (e :: es) (tLC tx W (ca :: c)) := pa_cons ha hr hs
theorem kc_nil : PK X [] (tLC tx W []) := pk_nil
theorem kc_cons (ha : PE X e (teC tx W ca)) (hr : PK X kws (tLC tx W c)) : PK X (⟨nm, e, kpos⟩ :: kws) (tLC tx W (ca :: c)) := pk_cons ha hr
theorem ca_op (h : PE X e (teO tx W A)) : PE X e (teC tx W (.op A)) := h
theorem ca_fr (h : PE X e (TFx tx W mf)) : PE X e (teC tx W (.fr mf)) := h
/-- f(e, ..) -/
theorem d_call (K : Ck tx X) (F : FnG X.prog X.w X.K X.mg X.base k f fd ps (spD tx n den)) (tk : Takes X W) (hr : Room k X.A) (hg : Gl X x) (hm : X.mg x = some (.ref f)) (hk : PySem.W.keepIn X.K (.ref f) = true) (hb : Binds X.K fd ps [])
    (ha : PA X (e :: es) (tLC tx W c)) (hdb : (x == ("__debug__" : Str)) = false := by decide) (he : starEach (e :: es) X.env = (false, eval e X.env) :: starEach es X.env := by rfl) (hpl : (backTo pos (starEach es X.env)).any (·.1) = false := by rfl) :
    PE X (.Call (.Name x p) (e :: es) [] pos) (TCx tx W (mCall n den c)) := pe_imp (pe_pos (E := WE W) F K.gd hr hg hm hk hb (passAt tk) ha hdb he hpl) fun σ H Q h => call_run h
/-- f() -/
theorem d_call0 (K : Ck tx X) (F : FnG X.prog X.w X.K X.mg X.base k f fd ps (spD tx n den)) (tk : Takes X W) (hr : Room k X.A) (hg : Gl X x) (hm : X.mg x = some (.ref f)) (hk : PySem.W.keepIn X.K (.ref f) = true) (hb : Binds X.K fd ps [])
    (hdb : (x == ("__debug__" : Str)) = false := by decide) : PE X (.Call (.Name x p) [] [] pos) (TCx tx W (mCall n den [])) := by
  refine ⟨fun pins s σ H Q I h => ?_⟩
  refine wpAny_Call_Name_kw (ld_glob I hg hm ?_ hdb)
  exact PySem.W.callWith_K0 I.kIn hk (run_pos (us := []) (E := WE W) F K.gd hr hb (passAt tk σ) I .nil (call_run h))
/-- f(e, .., k = v, ..), f(k = v, ..) -/
theorem d_callK (K : Ck tx X) (F : FnG X.prog X.w X.K X.mg X.base k f fd ps (spD tx n den)) (tk : Takes X W) (hr : Room k X.A) (hg : Gl X x) (hm : X.mg x = some (.ref f)) (hk : PySem.W.keepIn X.K (.ref f) = true) (hb : KB X.K fd ps c.length ks idx)
    (ha : PA X (e :: es) (tLC tx W c)) (hkw : PK X kws (tLC tx W c')) (hall : (backToKw pos (keywordEach kws X.env)).all (·.1.isSome) = true := by rfl) (hks : (backToKw pos (keywordEach kws X.env)).filterMap (·.1) = ks := by rfl)
    (hi : (idx.all (· < (c ++ c').length)) = true := by decide) (nd : idx.Nodup := by decide) (hl : ks.length = c'.length := by rfl) (hdb : (x == ("__debug__" : Str)) = false := by decide) (he : starEach (e :: es) X.env = (false, eval e X.env) :: starEach es X.env := by rfl)
    (hpl : ((backTo pos (starEach (e :: es) X.env)).any (·.1) || (backToKw pos (keywordEach kws X.env)).any (·.1.isNone)) = false := by rfl) : PE X (.Call (.Name x p) (e :: es) kws pos) (TCx tx W (mCallK n idx den (c ++ c'))) :=
  pe_imp (pe_kw (E := WE W) F K.gd hr hg hm hk hb (passAt tk) ha hkw hall hks hdb he hpl) fun σ H Q h => by
    refine tLC_mono (fun vs H1 q => ?_) (tLC_len (tLC_app (callK_run hi nd h)))
    refine tLC_mono (fun zs H2 q2 => ?_) (tLC_len q.2)
    exact ⟨q.1, by rw [hl]; exact q2.1, q2.2 (by rw [List.length_append, List.length_append, q.1, q2.1])⟩
theorem d_callK0 (K : Ck tx X) (F : FnG X.prog X.w X.K X.mg X.base k f fd ps (spD tx n den)) (tk : Takes X W) (hr : Room k X.A) (hg : Gl X x) (hm : X.mg x = some (.ref f)) (hk : PySem.W.keepIn X.K (.ref f) = true) (hb : KB X.K fd ps 0 ks idx)
    (hkw : PK X kws (tLC tx W c')) (hall : (backToKw pos (keywordEach kws X.env)).all (·.1.isSome) = true := by rfl) (hks : (backToKw pos (keywordEach kws X.env)).filterMap (·.1) = ks := by rfl)
    (hi : (idx.all (· < c'.length)) = true := by decide) (nd : idx.Nodup := by decide) (hl : ks.length = c'.length := by rfl) (hdb : (x == ("__debug__" : Str)) = false := by decide)
    (hpl : ((backTo pos (starEach [] X.env)).any (·.1) || (backToKw pos (keywordEach kws X.env)).any (·.1.isNone)) = false := by rfl) : PE X (.Call (.Name x p) [] kws pos) (TCx tx W (mCallK n idx den c')) :=
  pe_imp (pe_kw0 (E := WE W) F K.gd hr hg hm hk hb (passAt tk) hkw hall hks hdb hpl) fun σ H Q h => by
    refine tLC_mono (fun zs H2 q2 => ?_) (tLC_len (callK_run hi nd h))
    exact ⟨rfl, by rw [hl]; exact q2.1, q2.2 q2.1⟩
end
/-- the result: plain, or a list of one's own -/
def mV (m : En → Res Rv) (e : En) : Res D := (m e).bind fun s e' => match s with
  | .val d => .ok d e'
  | _ => .bad
def mF (m : En → Res Rv) (e : En) : Res (List D) := (m e).bind fun s e' => match s with
  | .own xs => .ok xs e'
  | _ => .bad
section
variable {tx : Tx} {X : Cx} {W : WX} {e : Expr} {m : En → Res Rv}
theorem d_cv (h : PE X e (TCx tx W m)) : PE X e (TEx tx W (mV m)) := pe_imp h fun σ H Q ⟨F, en, A, q⟩ => by
  refine ⟨F, en, A, ?_⟩
  unfold mV at q
  cases r : m en with
  | ok s e' =>
    rw [r] at q
    cases s with
    | val d => exact q
    | own xs => exact q.elim
  | exc x e' => rw [r] at q; exact q
  | bad => rw [r] at q; exact q
theorem d_cf (h : PE X e (TCx tx W m)) : PE X e (TFx tx W (mF m)) := pe_imp h fun σ H Q ⟨F, en, A, q⟩ => by
  refine ⟨F, en, A, ?_⟩
  unfold mF at q
  cases r : m en with
  | ok s e' =>
    rw [r] at q
    cases s with
    | val d => exact q.elim
    | own xs =>
      intro F' H' s' A' v ⟨a, vs, h1, h2, h3, h4, h5, h6⟩
      subst h1
      exact q F' H' s' A' a vs h2 h3 h4 h5 h6
  | exc x e' => rw [r] at q; exact q
  | bad => rw [r] at q; exact q
end
end Dn

/-! Dn, part J: list comprehensions -/
namespace Dn
open PySem PySem.Spec PyProof.Rows L2

/-- nothing is let out -/
abbrev W0 : WX := fun _ _ _ _ => False
/-- the block's own slots forgotten, and put back -/
def wE (e : En) : List Nat → En
  | [] => e
  | v :: vs => (wE e vs).set v none
def unw (e1 e2 : En) : List Nat → En
  | [] => e2
  | v :: vs => (unw e1 e2 vs).set v (e1[v]?.join)
def lcLoop (vs : List Nat) (g : GM) (c : En → Res Bool) (m : En → Res D) : List D → List D → En → Res (List D)
  | [], acc, e => .ok acc e
  | d :: r, acc, e => match g d e with
    | .nx e1 => (match c e1 with
      | .ok true e2 => (match m e2 with
        | .ok x e3 => if acc.length < sizeLine then lcLoop vs g c m r (acc ++ [x]) (wE e3 vs) else .bad
        | _ => .bad)
      | .ok false e2 => lcLoop vs g c m r acc (wE e2 vs)
      | _ => .bad)
    | _ => .bad
def mLc (mi : En → Res (List D)) (vs : List Nat) (g : GM) (c : En → Res Bool) (m : En → Res D) (e : En) : Res (List D) :=
  (mi e).bind fun ds e1 => match lcLoop vs g c m ds [] (wE e1 vs) with
    | .ok xs e2 => .ok xs (unw e1 e2 vs)
    | _ => .bad
theorem wE_len (e : En) : ∀ vs, (wE e vs).length = e.length
  | [] => rfl
  | v :: vs => by unfold wE; rw [List.length_set, wE_len e vs]
theorem unw_len (e1 e2 : En) : ∀ vs, (unw e1 e2 vs).length = e2.length
  | [] => rfl
  | v :: vs => by unfold unw; rw [List.length_set, unw_len e1 e2 vs]
theorem wE_some {e : En} {i : Nat} {x : Sl} : ∀ {vs : List Nat}, (wE e vs)[i]? = some (some x) → e[i]? = some (some x) ∧ i ∉ vs
  | [], h => ⟨h, by simp⟩
  | v :: vs, h => by
    unfold wE at h
    by_cases hi : v = i
    · subst hi
      by_cases hv : v < (wE e vs).length
      · rw [List.getElem?_set_self hv] at h; cases h
      · rw [List.getElem?_eq_none (by simpa using hv)] at h; cases h
    · rw [List.getElem?_set_ne hi] at h
      obtain ⟨h1, h2⟩ := wE_some h
      exact ⟨h1, by simp only [List.mem_cons, not_or]; exact ⟨fun q => hi q.symm, h2⟩⟩
theorem wE_mk {e : En} {i : Nat} {x : Sl} : ∀ {vs : List Nat}, i ∉ vs → e[i]? = some (some x) → (wE e vs)[i]? = some (some x)
  | [], _, h => h
  | v :: vs, hn, h => by
    unfold wE
    rw [List.getElem?_set_ne (fun q => hn (by rw [q]; exact List.mem_cons_self))]
    exact wE_mk (fun q => hn (List.mem_cons_of_mem _ q)) h
theorem wS_mk {σ : Sg} {i : Nat} {x : V} : ∀ {vs : List Nat}, i ∉ vs → σ[i]? = some (some x) → (wipe σ vs)[i]? = some (some x)
  | [], _, h => h
  | v :: vs, hn, h => by
    unfold wipe
    rw [List.getElem?_set_ne (fun q => hn (by rw [q]; exact List.mem_cons_self))]
    exact wS_mk (fun q => hn (List.mem_cons_of_mem _ q)) h
theorem unw_some {e1 e2 : En} {i : Nat} {x : Sl} : ∀ {vs : List Nat}, (unw e1 e2 vs)[i]? = some (some x) → (i ∈ vs ∧ e1[i]? = some (some x)) ∨ (i ∉ vs ∧ e2[i]? = some (some x))
  | [], h => .inr ⟨by simp, h⟩
  | v :: vs, h => by
    unfold unw at h
    by_cases hi : v = i
    · subst hi
      by_cases hv : v < (unw e1 e2 vs).length
      · rw [List.getElem?_set_self hv] at h
        have h : e1[v]?.join = some x := Option.some.inj h
        refine .inl ⟨List.mem_cons_self, ?_⟩
        cases q : e1[v]? with
        | none => rw [q] at h; cases h
        | some w => rw [q] at h; rw [show w = some x from h]
      · rw [List.getElem?_eq_none (by simpa using hv)] at h; cases h
    · rw [List.getElem?_set_ne hi] at h
      rcases unw_some h with ⟨h1, h2⟩ | ⟨h1, h2⟩
      · exact .inl ⟨List.mem_cons_of_mem _ h1, h2⟩
      · exact .inr ⟨by simp only [List.mem_cons, not_or]; exact ⟨fun q => hi q.symm, h1⟩, h2⟩
theorem wipe_eq {σ σ' : Sg} {vs : List Nat} (hl : σ'.length = σ.length) (h : ∀ i, i ∉ vs → σ'[i]? = σ[i]?) : wipe σ' vs = wipe σ vs := by
  have key : ∀ (ws : List Nat), (∀ i, i ∉ ws → σ'[i]? = σ[i]?) → ∀ i : Nat, (wipe σ' ws)[i]? = (wipe σ ws)[i]? := fun ws => by
    have lem : ∀ (us : List Nat) (i : Nat), (i ∈ us ∨ σ'[i]? = σ[i]?) → (wipe σ' us)[i]? = (wipe σ us)[i]? := fun us => by
      induction us with
      | nil =>
        intro i q
        rcases q with q | q
        · simp at q
        · exact q
      | cons u us ih =>
        intro i q
        unfold wipe
        by_cases hu : u = i
        · subst hu
          by_cases hlt : u < σ.length
          · rw [List.getElem?_set_self (by rw [wipe_length, hl]; exact hlt), List.getElem?_set_self (by rw [wipe_length]; exact hlt)]
          · rw [List.getElem?_eq_none (by rw [List.length_set, wipe_length, hl]; omega), List.getElem?_eq_none (by rw [List.length_set, wipe_length]; omega)]
        · rw [List.getElem?_set_ne hu, List.getElem?_set_ne hu]
          refine ih i ?_
          rcases q with q | q
          · rcases List.mem_cons.mp q with z | z
            · exact absurd z.symm hu
            · exact .inl z
          · exact .inr q
    intro h i
    by_cases hi : i ∈ ws
    · exact lem ws i (.inl hi)
    · exact lem ws i (.inr (h i hi))
  exact List.ext_getElem? (key vs h)
section
variable {K : PySem.W.Frag} {F F1 F2 : Fz} {H H1 H2 : Hp} {σ σ' : Sg} {e e' e1 e2 : En} {vs : List Nat}
theorem wown {a : Addr} (h : OwnA (wipe σ vs) (wE e vs) a) : OwnA σ e a := by
  obtain ⟨i, xs, h1, h2⟩ := h
  exact ⟨i, xs, (wE_some h1).1, (wipe_some h2).1⟩
theorem Abs.wipe (A : Abs K F H σ e) : Abs K F H (wipe σ vs) (wE e vs) where
  len := by rw [wipe_length, wE_len]; exact A.len
  val := fun i d h => by
    obtain ⟨h1, h2⟩ := wE_some h
    obtain ⟨v, h3, h4⟩ := A.val i d h1
    exact ⟨v, wS_mk h2 h3, h4⟩
  own := fun i xs h => by
    obtain ⟨h1, h2⟩ := wE_some h
    obtain ⟨a, us, h3, h4⟩ := A.own i xs h1
    exact ⟨a, us, wS_mk h2 h3, h4⟩
  dis := fun i j xs ys a h1 h2 h3 h4 => A.dis i j xs ys a (wE_some h1).1 (wE_some h2).1 (wipe_some h3).1 (wipe_some h4).1
  fok := A.fok
/-- the own slots put back behind the block -/
theorem unw_abs (A1 : Abs K F1 H1 σ e1) (s : Step (L2.wipe σ vs) (wE e1 vs) F1 H1 (L2.wipe σ vs) e2 F2 H2) (A2 : Abs K F2 H2 (L2.wipe σ vs) e2) : Abs K F2 H2 σ (unw e1 e2 vs) ∧ Step σ e1 F1 H1 σ (unw e1 e2 vs) F2 H2 := by
  have keptF : ∀ a o, F1 a → H1 a = some o → H2 a = some o := fun a o f h => s.kp a o h fun z => A1.noF (wown z) f
  have hid : ∀ {i : Nat} {xs : List D} {a : Addr}, i ∈ vs → e1[i]? = some (some (.own xs)) → σ[i]? = some (some (.ref a)) → ¬ OwnA (L2.wipe σ vs) (wE e1 vs) a := fun {i xs a} hi h1 h2 z => by
    obtain ⟨j, ys, z1, z2⟩ := z
    obtain ⟨z1, z3⟩ := wE_some z1
    have := A1.dis i j xs ys a h1 z1 h2 (wipe_some z2).1
    subst this
    exact z3 hi
  have back : ∀ {j : Nat} {ys : List D} {a : Addr}, e2[j]? = some (some (.own ys)) → j ∉ vs → σ[j]? = some (some (.ref a)) → OwnA (L2.wipe σ vs) e2 a := fun {j ys a} h1 h2 h3 => ⟨j, ys, h1, wS_mk h2 h3⟩
  refine ⟨⟨?_, fun i d h => ?_, fun i xs h => ?_, fun i j xs ys a h1 h2 h3 h4 => ?_, A2.fok⟩, ⟨s.fr, fun a o h n => s.kp a o h fun z => n (wown z), fun a f => (s.nw a f).imp id fun z => z.imp id wown, fun a z => ?_⟩⟩
  · rw [unw_len, ← A2.len, wipe_length]
  · rcases unw_some h with ⟨h1, h2⟩ | ⟨h1, h2⟩
    · obtain ⟨v, h3, h4⟩ := A1.val i d h2
      exact ⟨v, h3, h4.mono s.fr keptF⟩
    · obtain ⟨v, h3, h4⟩ := A2.val i d h2
      exact ⟨v, (wipe_some h3).1, h4⟩
  · rcases unw_some h with ⟨h1, h2⟩ | ⟨h1, h2⟩
    · obtain ⟨a, us, h3, h4, h5, h6⟩ := A1.own i xs h2
      have nz := hid h1 h2 h3
      refine ⟨a, us, h3, s.kp a _ h4 nz, h5.mono s.fr keptF, fun z => ?_⟩
      rcases s.nw a z with z | z | z
      · exact h6 z
      · rw [h4] at z; cases z
      · exact nz z
    · obtain ⟨a, us, h3, h4⟩ := A2.own i xs h2
      exact ⟨a, us, (wipe_some h3).1, h4⟩
  · have mixed : ∀ {i j : Nat} {xs ys : List D} {a : Addr}, i ∈ vs → e1[i]? = some (some (.own xs)) → σ[i]? = some (some (.ref a)) → j ∉ vs → e2[j]? = some (some (.own ys)) → σ[j]? = some (some (.ref a)) → False := fun {i j xs ys a} g1 g2 g3 g4 g5 g6 => by
      rcases s.ow a (back g5 g4 g6) with z | z
      · exact hid g1 g2 g3 z
      · exact A1.ownT ⟨i, xs, g2, g3⟩ z
    rcases unw_some h1 with ⟨g1, g2⟩ | ⟨g1, g2⟩
    · rcases unw_some h2 with ⟨g3, g4⟩ | ⟨g3, g4⟩
      · exact A1.dis i j xs ys a g2 g4 h3 h4
      · exact (mixed g1 g2 h3 g3 g4 h4).elim
    · rcases unw_some h2 with ⟨g3, g4⟩ | ⟨g3, g4⟩
      · exact (mixed g3 g4 h4 g1 g2 h3).elim
      · exact A2.dis i j xs ys a g2 g4 (wS_mk g1 h3) (wS_mk g3 h4)
  · obtain ⟨j, ys, z1, z2⟩ := z
    rcases unw_some z1 with ⟨g1, g2⟩ | ⟨g1, g2⟩
    · exact .inl ⟨j, ys, g2, z2⟩
    · exact (s.ow a (back g2 g1 z2)).imp wown id
/-- a thing of nobody's at p changes -/
theorem Abs.other {p : Addr} {o : HO} (A : Abs K F H σ e) (nF : ¬ F p) (nO : ¬ OwnA σ e p) : Abs K F (upd H p o) σ e where
  len := A.len
  val := fun i d h => by
    obtain ⟨v, h1, h2⟩ := A.val i d h
    exact ⟨v, h1, h2.mono (fun _ f => f) fun b u f q => by rw [upd_ne (fun z => nF (by rw [← z]; exact f))]; exact q⟩
  own := fun i xs h => by
    obtain ⟨a, us, h1, h2, h3, h4⟩ := A.own i xs h
    have na : a ≠ p := fun z => nO ⟨i, xs, h, by rw [← z]; exact h1⟩
    exact ⟨a, us, h1, by rw [upd_ne na]; exact h2, h3.mono (fun _ f => f) fun b u f q => by rw [upd_ne (fun z => nF (by rw [← z]; exact f))]; exact q, h4⟩
  dis := A.dis
  fok := fun b f => by
    rw [upd_ne (fun z => nF (by rw [← z]; exact f))]
    exact A.fok b f
theorem Step.other {p : Addr} {o : HO} (s : Step σ e F H σ' e' F1 H1) (n : H p = none) : Step σ e F H σ' e' F1 (upd H1 p o) :=
  ⟨s.fr, fun a u h z => by rw [upd_ne (fun q => by rw [q, n] at h; cases h)]; exact s.kp a u h z, s.nw, s.ow⟩
theorem Rps.other {p : Addr} {o : HO} {ws : List V} {ds : List D} (r : Rps K F H ws ds) (nF : ¬ F p) : Rps K F (upd H p o) ws ds :=
  r.mono (fun _ f => f) fun b u f q => by rw [upd_ne (fun z => nF (by rw [← z]; exact f))]; exact q
/-- dropping slots: the rest stays -/
theorem Abs.wipe2 (A : Abs K F H σ' e) (h : L2.wipe σ' vs = L2.wipe σ vs) : Abs K F H (L2.wipe σ vs) (wE e vs) := by
  rw [← h]
  exact A.wipe
end
/-- the slots that a block leaves alone -/
def offs (n : Nat) (vs : List Nat) : List Nat := (List.range n).filter (!vs.contains ·)
theorem mem_offs {n i : Nat} {vs : List Nat} (h : i < n) (hv : i ∉ vs) : i ∈ offs n vs := by
  unfold offs
  rw [List.mem_filter]
  exact ⟨List.mem_range.mpr h, by simpa using hv⟩
section
variable {tx : Tx} {W : WX} {σ : Sg} {H : Hp} {Q : VK} {n : Nat} {vs : List Nat} {mi : En → Res (List D)} {g : GM} {c : En → Res Bool} {m : En → Res D}
theorem t_lc (hn : σ.length = n) (h : TFx tx W (mLc mi vs g c m) σ H Q) : tLc (TIx tx W mi) (TGx tx W0 (offs n vs) g) (TTx tx W0 c) (TEx tx W0 m) vs σ H Q := by
  obtain ⟨F, e, A, h⟩ := h
  refine ⟨F, e, A, ?_⟩
  unfold mLc at h
  cases q : mi e with
  | exc x e' => rw [q] at h; exact h
  | bad => rw [q] at h; exact h
  | ok ds e1 =>
    rw [q] at h
    have h : RunAt tx W (match lcLoop vs g c m ds [] (wE e1 vs) with
      | .ok xs e2 => .ok xs (unw e1 e2 vs)
      | _ => .bad) σ F H e _ := h
    cases qr : lcLoop vs g c m ds [] (wE e1 vs) with
    | exc x e' => rw [qr] at h; exact h.elim
    | bad => rw [qr] at h; exact h.elim
    | ok xs e2 =>
      rw [qr] at h
      intro F1 H1 s1 A1 J wk D nD
      have nFD : ¬ F1 D := fun z => A1.fok D z nD
      have nOD : ¬ OwnA σ e1 D := fun z => A1.ownT z nD
      obtain ⟨A1', s1', _, _⟩ := A1.lay (ws := []) nD
      refine ⟨fun i k Hc => k = ds.length - i ∧ i ≤ ds.length ∧ ∃ Fc ec acc ws, Abs tx.K Fc Hc (L2.wipe σ vs) ec ∧ Step (L2.wipe σ vs) (wE e1 vs) F1 H1 (L2.wipe σ vs) ec Fc Hc ∧ Hc D = some (.lst ws) ∧ Rps tx.K Fc Hc ws acc ∧ ¬ Fc D ∧ ¬ OwnA (L2.wipe σ vs) ec D ∧
        lcLoop vs g c m (ds.drop i) acc ec = .ok xs e2, ⟨ds.length, rfl, Nat.zero_le _, F1, wE e1 vs, [], [], A1'.wipe, Step.refl.other nD, upd_same, .nil, nFD, fun z => nOD (wown z), qr⟩, ?_⟩
      rintro i k Hc ⟨rfl, hi, Fc, ec, acc, ws, Ac, sc, hD, rD, nF, nO, ql⟩
      have latc : Lat F1 H1 Fc Hc := ⟨sc.fr, fun a o f hh => sc.kp a o hh fun z => A1.noF (wown z) f⟩
      obtain ⟨w1, w2⟩ := wk Fc Hc latc Ac.fok
      by_cases hlt : i < ds.length
      · refine .inr ?_
        have hd : ds[i]? = some ds[i] := List.getElem?_eq_getElem hlt
        rw [List.drop_eq_getElem_cons hlt] at ql
        obtain ⟨go, y⟩ := w1 i _ hd
        refine ⟨go, fun H' => ∃ Fc ec acc ws, Abs tx.K Fc H' (L2.wipe σ vs) ec ∧ Step (L2.wipe σ vs) (wE e1 vs) F1 H1 (L2.wipe σ vs) ec Fc H' ∧ H' D = some (.lst ws) ∧ Rps tx.K Fc H' ws acc ∧ ¬ Fc D ∧ ¬ OwnA (L2.wipe σ vs) ec D ∧
          lcLoop vs g c m (ds.drop (i + 1)) acc ec = .ok xs e2, fun H' z => ⟨ds.length - (i + 1), by omega, rfl, hlt, z⟩, fun x Hx yx => ?_⟩
        obtain ⟨Fx, gr, rx⟩ := y x Hx yx
        have Ax := Ac.gro gr
        refine ⟨Fx, ec, _, Ax, rx, ?_⟩
        unfold lcLoop at ql
        -- what a state behind the turn's parts keeps of the new list
        have keep : ∀ {σ3 : Sg} {e3 : En} {F3 : Fz} {H3 : Hp}, Step (L2.wipe σ vs) ec Fx Hx σ3 e3 F3 H3 → Step (L2.wipe σ vs) ec Fc Hc σ3 e3 F3 H3 ∧ H3 D = some (.lst ws) ∧ Rps tx.K F3 H3 ws acc ∧ ¬ F3 D ∧ ¬ OwnA σ3 e3 D := fun {σ3 e3 F3 H3} s3 => by
          have s := gr.step.trans s3
          have hD3 := s.kp D _ hD nO
          refine ⟨s, hD3, Ac.rps s rD, fun z => ?_, fun z => ?_⟩
          · rcases s.nw D z with z | z | z
            · exact nF z
            · rw [hD] at z; cases z
            · exact nO z
          · rcases s.ow D z with z | z
            · exact nO z
            · rw [hD] at z; cases z
        -- the turn's end
        have wipeStep : ∀ {σ3 : Sg} {e3 : En} {F3 : Fz} {H3 : Hp}, L2.wipe σ3 vs = L2.wipe σ vs → Step (L2.wipe σ vs) ec Fc Hc σ3 e3 F3 H3 → Step (L2.wipe σ vs) (wE e1 vs) F1 H1 (L2.wipe σ vs) (wE e3 vs) F3 H3 := fun {σ3 e3 F3 H3} hw s => by
          have s := sc.trans s
          refine ⟨s.fr, s.kp, s.nw, fun a z => s.ow a ?_⟩
          rw [← hw] at z
          exact wown z
        cases rg : g ds[i] ec with
        | rt s e' => rw [rg] at ql; cases ql
        | bk e' => rw [rg] at ql; cases ql
        | ct e' => rw [rg] at ql; cases ql
        | exc x e' => rw [rg] at ql; cases ql
        | bad => rw [rg] at ql; cases ql
        | nx e3 =>
          rw [rg] at ql
          dsimp only at ql
          intro σ3 F3 H3 s3 A3
          have hw : L2.wipe σ3 vs = L2.wipe σ vs := by
            have z := wipe_eq (σ := L2.wipe σ vs) (σ' := σ3) (vs := vs) s3.len fun j hj => by
              by_cases hjn : j < n
              · exact s3.pin j (mem_offs hjn hj)
              · rw [List.getElem?_eq_none (by rw [s3.len, wipe_length, hn]; omega), List.getElem?_eq_none (by rw [wipe_length, hn]; omega)]
            rw [z]
            exact wipe_eq (wipe_length _ _) fun j hj => by
              have : ∀ (us : List Nat), j ∉ us → (L2.wipe σ us)[j]? = σ[j]? := fun us => by
                induction us with
                | nil => intro _; rfl
                | cons u us ih =>
                  intro hu
                  unfold L2.wipe
                  rw [List.getElem?_set_ne (fun q => hu (by rw [q]; exact List.mem_cons_self))]
                  exact ih fun q => hu (List.mem_cons_of_mem _ q)
              exact this vs hj
          refine ⟨hw, F3, e3, A3, ?_⟩
          cases rc : c e3 with
          | exc x e' => rw [rc] at ql; cases ql
          | bad => rw [rc] at ql; cases ql
          | ok b e4 =>
            rw [rc] at ql
            intro F4 H4 s4 A4
            cases b with
            | false =>
              dsimp only at ql
              refine iteF ?_
              obtain ⟨s, p1, p2, p3, p4⟩ := keep (s3.st.trans s4)
              exact ⟨F4, wE e4 vs, acc, ws, A4.wipe2 hw, wipeStep hw s, p1, p2, p3, fun z => p4 (wown (by rw [hw]; exact z)), ql⟩
            | true =>
              dsimp only at ql
              refine iteT ⟨F4, e4, A4, ?_⟩
              cases rm : m e4 with
              | exc x e' => rw [rm] at ql; cases ql
              | bad => rw [rm] at ql; cases ql
              | ok x5 e5 =>
                rw [rm] at ql
                dsimp only at ql
                intro F5 H5 s5 A5 v rv
                obtain ⟨s, p1, p2, p3, p4⟩ := keep ((s3.st.trans s4).trans s5)
                split at ql
                · rename_i hz
                  refine ⟨ws, p1, by rw [rD.len]; exact hz, F5, wE e5 vs, acc ++ [x5], ws ++ [v], (A5.other p3 p4).wipe2 hw, (wipeStep hw s).other nD, upd_same, (p2.app (.cons rv .nil)).other p3, p3, fun z => p4 (wown (by rw [hw]; exact z)), ql⟩
                · cases ql
      · have hi2 : i = ds.length := by omega
        subst hi2
        refine .inl ⟨w2 _ (Nat.le_refl _), ?_⟩
        rw [List.drop_length] at ql
        unfold lcLoop at ql
        cases ql
        obtain ⟨A5, s5⟩ := unw_abs A1 sc Ac
        have og : H D = none ∨ OwnA σ e D := s1.back nD
        refine h Fc Hc (s1.trans s5) A5 D ws hD rD nF (fun z => ?_) og
        obtain ⟨j, ys, z1, z2⟩ := z
        rcases unw_some z1 with ⟨g1, g2⟩ | ⟨g1, g2⟩
        · exact nOD ⟨j, ys, g2, z2⟩
        · exact nO ⟨j, ys, g2, wS_mk g1 z2⟩
end
theorem pe_impL {X : Cx} {e : Expr} {t t' : TE} (h : PE X e t) (hi : ∀ σ H Q, σ.length = X.N.length → t' σ H Q → t σ H Q) : PE X e t' := ⟨fun pins s σ H Q I q => h.run pins s σ H Q I (hi σ H Q I.len q)⟩
theorem ps_impL {X : Cx} {st : Stmt} {t t' : TS} (h : PS X st t) (hi : ∀ D σ H, σ.length = X.N.length → t' D σ H → t D σ H) : PS X st t' := ⟨fun pins s σ H D I q => h.run pins s σ H D I (hi D σ H I.len q)⟩
section
variable {tx : Tx} {X : Cx} {W : WX} {elt tg iter : Expr} {ifs : List Expr} {scope : Scope} {own : List (Str × Nat)} {pos : Pos} {mi : En → Res (List D)} {g : GM} {c : En → Res Bool} {m : En → Res D} {vs : List Nat} {n : Nat}
/-- the block's context -/
abbrev bX (X : Cx) (scope : Scope) (s : Shared) (H : Hp) (C : Addr) (cl : List (Str × Addr)) (fp : List Addr) : Cx := X.blk s H scope (compEnvC scope cl C X.env) fp
theorem Ck.blk (k : Ck tx X) {s : Shared} {H : Hp} {cenv : Env} {fp : List Addr} : Ck tx (X.blk s H scope cenv fp) := ⟨k.K, k.nd, k.units, k.gd⟩
theorem takesB {s : Shared} {H : Hp} {cenv : Env} {fp : List Addr} : Takes (X.blk s H scope cenv fp) W0 := takes0
theorem ts_nil : PTs X [] (TTx tx W0 fun e => .ok true e) := ⟨fun pins s σ H Q I ⟨F, e, A, h⟩ => pts_nil.run pins s σ H Q I (h F H .refl A)⟩
theorem ts_one {ce : Expr} (h : PT X ce (TTx tx W0 c)) : PTs X [ce] (TTx tx W0 c) := pts_one h
theorem d_lc (k : Ck tx X) (hc : X.calm = true) (hn : X.N.length = n) (hv : own.map (·.2) = vs) (hi : PI X tg iter (TIx tx W mi)) (ok : BlkOk X.N X.env.scope scope own)
    (hg : ∀ s H C cl fp, PG (bX X scope s H C cl fp) tg (TGx tx W0 (offs n vs) g)) (ht : ∀ s H C cl fp, PTs (bX X scope s H C cl fp) ifs (TTx tx W0 c))
    (he : ∀ s H C cl fp, PE (bX X scope s H C cl fp) elt (TEx tx W0 m)) (hs : ∀ x, foldedSetIterable iter X.env x = pure x := by intro _; rfl) :
    PE X (.ListComp elt [⟨tg, iter, ifs, 0⟩] scope pos) (TFx tx W (mLc mi vs g c m)) :=
  pe_impL (pe_lc hc k.nd hi ok hg ht he hs) fun σ H Q hl h => by
    rw [hv]
    exact t_lc (hl.trans hn) h
theorem s_setFin {i : Nat} {ps : List Nat} {mf : En → Res (List D)} {te : TE} {st : Stmt} (hps : PS X st (tAsg te (gName i))) (hp : i ∉ ps) (ht : ∀ σ H Q, σ.length = X.N.length → TFx tx W mf σ H Q → te σ H Q) : PS X st (TSx tx W ps (sSetF i mf)) :=
  ps_impL hps fun D σ H hl ⟨F, e, A, h⟩ => by
    refine ht σ H _ hl ⟨F, e, A, ?_⟩
    cases q : mf e with
    | ok xs e' =>
      unfold sSetF at h
      rw [q] at h
      intro F' H' s A' a vs ha r nF nO og
      refine h _ F' H' ⟨⟨s.fr, s.kp, s.nw, fun b z => ?_⟩, fun j hj => List.getElem?_set_ne fun z => hp (by rw [z]; exact hj), List.length_set⟩ (A'.setO ha r nF nO)
      rcases ownA_setO z with z | rfl
      · exact s.ow b z
      · exact og.symm
    | exc x e' =>
      unfold sSetF at h
      rw [q] at h
      exact fun cls dd F' H' s A q => h cls dd σ F' H' (.of s) A q
    | bad =>
      unfold sSetF at h
      rw [q] at h
      exact h
theorem s_setPl {i : Nat} {ps : List Nat} {mf : En → Res (List D)} {te : TE} {st : Stmt} (hps : PS X st (tAsg te (gName i))) (hp : i ∉ ps) (ht : ∀ σ H Q, σ.length = X.N.length → TFx tx W mf σ H Q → te σ H Q) : PS X st (TSx tx W ps (sSet i (mPl mf))) :=
  ps_impL hps fun D σ H hl ⟨F, e, A, h⟩ => ht σ H _ hl (plain_of ⟨F, e, A, h.part.mono fun d F' H' e' s A' q v r => q _ F' H' (.setV hp) (A'.setV r)⟩)
/-- x = [..], on one line -/
theorem p_lc {i : Nat} {y : Str} {py spos : Pos} (k : Ck tx X) (hc : X.calm = true) (hy : X.N[i]? = some y) (hyl : X.env.scope.names.lookup y = some .local)
    (hsw : swapsWith (.ListComp elt [⟨tg, iter, ifs, 0⟩] scope pos) (some (.Name y py)) spos.line X.env = pure true) (hi : PI X tg iter (TIx tx W mi)) (ok : BlkOk X.N X.env.scope scope own)
    (hg : ∀ s H C cl fp, PG (bX X scope s H C cl fp) tg (TGx tx W0 (offs n vs) g)) (ht : ∀ s H C cl fp, PTs (bX X scope s H C cl fp) ifs (TTx tx W0 c))
    (he : ∀ s H C cl fp, PE (bX X scope s H C cl fp) elt (TEx tx W0 m)) (hs : ∀ x, foldedSetIterable iter X.env x = pure x := by intro _; rfl) :
    PS X (.Assign [.Name y py] (.ListComp elt [⟨tg, iter, ifs, 0⟩] scope pos) spos) (tAsg (tLc (TIx tx W mi) (TGx tx W0 (offs n vs) g) (TTx tx W0 c) (TEx tx W0 m) (own.map (·.2))) (gName i)) := ps_setLc hc k.nd hy hyl hsw hi ok hg ht he hs
end
end Dn

/-! Dn, part K: slices, changes in place, several names at once, repr, isinstance -/
namespace Dn
open PySem PySem.Spec PyProof.Rows L2

/-! ### what is never reached -/
section
variable {tx : Tx} {X : Cx} {W : WX} {ps : List Nat}
theorem s_never (st : Stmt) : PS X st (TSx tx W ps fun _ => .bad) := ⟨fun _ _ _ _ _ _ ⟨_, _, _, h⟩ => h.elim⟩
theorem ss_never (st : List Stmt) : PSs X st (TSx tx W ps fun _ => .bad) := ⟨fun _ _ _ _ _ _ ⟨_, _, _, h⟩ => h.elim⟩
theorem d_never (e : Expr) : PE X e (TEx tx W fun _ => .bad) := ⟨fun _ _ _ _ _ _ ⟨_, _, _, h⟩ => h.elim⟩
end

/-! ### slices -/
def mPart : Option Op → En → Res (Option Int)
  | none, e => .ok none e
  | some A, e => (evL [A] e).bind fun ds e' => match ds with
    | [.int i] => .ok (some i) e'
    | _ => .bad
def toP (tx : Tx) (W : WX) : Option Op → TO
  | none => tNoPart
  | some A => tPart (teO tx W A)
def cutD (xs : List D) (lo hi : Option Int) : List D := (xs.drop (HT.sIx xs.length 0 lo)).take (HT.sIx xs.length xs.length hi - HT.sIx xs.length 0 lo)
def mSl (A : Op) (lo hi : Option Op) {α : Type} (f : D → Option Int → Option Int → Option α) (e : En) : Res α :=
  (evP [A] e).bind fun l e1 => (mPart lo e1).bind fun lo e2 => (mPart hi e2).bind fun hi e3 => (lift (fillL e3 l) e3).bind fun ds e3 => match ds with
    | [d] => lift (f d lo hi) e3
    | _ => .bad
def fSlL (d : D) (lo hi : Option Int) : Option (List D) := match d with
  | .list xs => some (cutD xs lo hi)
  | _ => none
section
variable {tx : Tx} {X : Cx} {W : WX} {σ : Sg} {H : Hp} {a b c : Expr} {pos p2 : Pos} {A B : Op} {lo hi : Option Op} {le he : Option Expr}
theorem po_n : PO X none (toP tx W none) := po_none
theorem po_s (h : PE X a (teO tx W A)) : PO X (some a) (toP tx W (some A)) := po_some h
theorem base_run {F : Fz} {e : En} {k : V → Hp → Prop} (Ab : Abs tx.K F H σ e) (h : RunAt tx W (evP [A] e) σ F H e fun l F' H' _ => ∀ v, ArgV tx.K F' H' σ [v] l → k v H') : teO tx W A σ H k := by
  cases A with
  | o j =>
    unfold evP at h
    cases q : e[j]? with
    | none => rw [q] at h; exact h.elim
    | some s =>
      cases s with
      | none => rw [q] at h; exact h.elim
      | some s =>
        rw [q] at h
        obtain ⟨v, hv⟩ := Ab.slot q
        have h : RunAt tx W (.ok ([.inr j] : List Slot) e) σ F H e _ := h
        exact ⟨v, hv, h F H .refl Ab v ⟨hv, True.intro⟩⟩
  | p m =>
    refine ⟨F, e, Ab, ?_⟩
    unfold evP at h
    cases q : m e with
    | ok d e1 =>
      rw [q] at h
      have h : RunAt tx W (.ok ([.inl d] : List Slot) e1) σ F H e _ := h
      exact fun F' H' s' A' v rv => h F' H' s' A' v ⟨rv, True.intro⟩
    | exc x e1 => rw [q] at h; exact h
    | bad => rw [q] at h; exact h
theorem part_run {F : Fz} {e : En} {L : Option Op} {k : Option Int → Hp → Prop} (Ab : Abs tx.K F H σ e) (h : RunAt tx W (mPart L e) σ F H e fun i F' H' _ => k i H') : toP tx W L σ H k := by
  cases L with
  | none => exact h F H .refl Ab
  | some A =>
    refine one_run Ab ((RunAt.seq h).mono fun ds F1 H1 e1 s1 A1 q w d hd pk => ?_)
    subst hd
    cases d with
    | int i => exact ⟨i, pk.int, q F1 H1 .refl A1⟩
    | _ => exact q.elim
/-- a rule of slices meets a plain function -/
theorem slice_run {α : Type} {f : D → Option Int → Option Int → Option α} {r : V → Option Int → Option Int → Hp → VK → Prop} {Q : VK} {F : Fz} {e : En} {k : α → Fz → Hp → En → Prop} (Ab : Abs tx.K F H σ e) (h : RunAt tx W (mSl A lo hi f e) σ F H e k)
    (hr : ∀ F1 H1 e1 v d l u x, Step σ e F H σ e1 F1 H1 → Abs tx.K F1 H1 σ e1 → Pk tx.K F1 H1 v d → f d l u = some x → RunAt tx W (.ok x e1) σ F1 H1 e1 k → r v l u H1 Q) : tSl r (teO tx W A) (toP tx W lo) (toP tx W hi) σ H Q := by
  refine base_run Ab ((RunAt.seq h).mono fun l F1 H1 e1 s1 A1 q v ha => ?_)
  refine part_run A1 ((RunAt.seq q).mono fun lo F2 H2 e2 s2 A2 q => ?_)
  refine part_run A2 ((RunAt.seq q).mono fun hi F3 H3 e3 s3 A3 q => ?_)
  obtain ⟨ds, hds, q⟩ := RunAt.now (RunAt.seq q)
  have q := q F3 H3 .refl A3
  have ha3 : ArgV tx.K F3 H3 σ [v] l := by
    match l, ha with
    | [.inl d], ha => exact ⟨A2.rp s3 (A1.rp s2 ha.1), True.intro⟩
    | [.inr j], ha => exact ha
    | .inl _ :: c :: _, ha => cases c <;> exact ha.2.elim
    | .inr _ :: c :: _, ha => cases c <;> exact ha.2.elim
  have pks := fill_pk A3 ha3 hds
  match ds, pks, q with
  | [d], pks, q =>
    have q : RunAt tx W (lift (f d lo hi) e3) σ F3 H3 e3 k := q
    cases hx : f d lo hi with
    | none => rw [hx] at q; exact q.elim
    | some x =>
      rw [hx] at q
      exact hr F3 H3 e3 v d lo hi x ((s1.trans s2).trans s3) A3 pks.1 hx q
  | [], _, q => exact q.elim
  | _ :: _ :: _, _, q => exact q.elim
theorem Rps.cut {K : PySem.W.Frag} {F : Fz} {vs : List V} {ds : List D} (r : Rps K F H vs ds) (l u : Option Int) : Rps K F H (cutV vs l u) (cutD ds l u) := by
  unfold cutV cutD
  rw [r.len]
  exact (r.drop _).take _
theorem d_slL (k : Ck tx X) (ha : PE X a (teO tx W A)) (hl : PO X le (toP tx W lo)) (hh : PO X he (toP tx W hi)) : PE X (.Subscript a (.Slice le he none p2) pos) (TFx tx W (mSl A lo hi fSlL)) :=
  pe_imp (pe_slice sl_list ha hl hh) fun σ H Q ⟨F, e, Ab, h⟩ => slice_run Ab h fun F1 H1 e1 v d l u x s1 A1 pk hx q => by
    cases d with
    | list xs =>
      cases hx
      obtain ⟨p, vs, rfl, hs, rs⟩ := pk.lst
      refine ⟨p, vs, rfl, by rw [k.K]; exact hs, fun n nn => ?_⟩
      obtain ⟨A2, s2, nF, nO⟩ := A1.lay (ws := cutV vs l u) nn
      exact q F1 _ s2 A2 n _ upd_same ((rs.cut l u).other nF) nF nO (s1.back nn)
    | _ => cases hx
end

/-! ### x op= e -/
def fAddI : List D → Option D
  | [.int i, .int j] => some (.int (i + j))
  | [.str a, .str b] => if a.length + b.length ≤ sizeLine then some (.str (a ++ b)) else none
  | _ => none
/-- a plain name, changed -/
def sAugN (i : Nat) (A : Op) (f : List D → Option D) : SM := fun e => (lift (rdV e i) e).toS fun d e => (evL [A] e).toS fun ds e1 => match ds with
  | [d2] => (lift (f [d, d2]) e1).toS fun r e1 => .nx (e1.set i (some (.val r)))
  | _ => .bad
section
variable {tx : Tx} {X : Cx} {W : WX} {ps : List Nat} {A B : Op} {ex bx : Expr} {pos p2 xp : Pos}
abbrev rIAdd : R2 := fun x y H Q => rI0 (fun i j => .int (i + j)) x y H Q ∨ ∃ i j, x = .str i ∧ y = .str j ∧ i.length + j.length ≤ sizeLine ∧ Q (.str (i ++ j)) H
theorem op_iadd : OpR X (inplaceOp .Add) rIAdd := iop_add.or iop_add_str
theorem vl_iadd : VL tx (r2L rIAdd) fAddI := by
  intro F H vs ds d Q hk h e q
  unfold fAddI at e
  split at e
  · cases e
    rw [h.int2]
    exact .inl ⟨_, _, rfl, rfl, q _ F H (Gro.refl hk) (.int _)⟩
  · split at e
    · cases e
      obtain ⟨x, y, rfl, h1, h2⟩ := h.two
      rw [h1.str, h2.str]
      exact .inr ⟨_, _, rfl, rfl, by assumption, q _ F H (Gro.refl hk) (.str _)⟩
    · cases e
  · cases e
theorem s_aug (k : Ck tx X) (i : Nat) {x : Str} {op : Operator} {r : R2} {f : List D → Option D} (ho : OpR X (inplaceOp op) r) (hv : VL tx (r2L r) f) (he : PE X ex (teO tx W A)) (hp : i ∉ ps := by decide) (hi : X.N[i]? = some x := by rfl) (hx : Loc X.env.scope x := by first | exact Or.inl rfl | exact Or.inr rfl)
    (hf : X.fn x = true ∨ X.env.scope.names.lookup x = some .local := by first | exact .inl rfl | exact .inr rfl | assumption) : PS X (.AugAssign (.Name x p2) op ex pos) (TSx tx W ps (sAugN i A f)) :=
  ps_imp (ps_aug k.nd hi hx he (ti := r) ho hf) fun D σ H ⟨F, e, Ab, h⟩ => by
    obtain ⟨d, hd, h⟩ := RunAt.now h.part
    have h := h F H .refl Ab
    have hrd : e[i]? = some (some (.val d)) := by
      unfold rdV at hd
      split at hd
      · cases hd; assumption
      · cases hd
    obtain ⟨v, h1, h2⟩ := Ab.val i d hrd
    refine ⟨v, h1, one_run Ab ((SAt.part h).mono fun ds F1 H1 e1 s1 A1 q w d2 hd2 pk => ?_)⟩
    subst hd2
    obtain ⟨z, hz, q⟩ := RunAt.now (SAt.part (show SAt tx W ps ((lift (f [d, d2]) e1).toS _) D σ F1 H1 e1 from q))
    have q := q F1 H1 .refl A1
    exact hv F1 H1 [v, w] [d, d2] z _ A1.fok ⟨.inl (Ab.rp s1 h2), pk, True.intro⟩ hz fun u F2 H2 g ru => q _ F2 H2 ((StepS.of g.step).trans (.setV hp)) ((A1.gro g).setV ru)
/-- x[B] op= A, ints, x a list of one's own -/
theorem s_augS (i : Nat) {x : Str} {op : Operator} {f : Int → Int → Int} (ho : PIp X op (ipI f)) (hb : PE X bx (teO tx W B)) (he : PE X ex (teO tx W A)) (hK : X.K = tx.K) (hN : X.N[i]? = some x := by rfl) (hv : Vis X.env.scope x := by first | exact Or.inl rfl | exact Or.inr (Or.inl rfl) | exact Or.inr (Or.inr rfl)) (hd : (x == ("__debug__" : Str)) = false := by decide)
    (hcd : (x == ("__classdict__" : Str)) = false := by decide) (ha : ∀ ov iv new, augStore bx ov iv new = (do holding [new, ov, iv] (setItem ov iv new); release [new, ov, iv] []; pure .next) := by intros; rfl) : PS X (.AugAssign (.Subscript (.Name x xp) bx p2) op ex pos) (TSx tx W ps (sAug i B A f)) :=
  ps_imp (ps_augS (pe_var hN hv hd hcd) hb get_list he ho set_list ha) fun D σ H ⟨F, e, Ab, h⟩ => by
    obtain ⟨xs, hx, h⟩ := RunAt.now h.part
    have h := h F H .refl Ab
    obtain ⟨a, vs, h1, h2, h3⟩ := Ab.own i xs (rdOwn_at hx)
    refine ⟨.ref a, h1, one_run Ab ((SAt.part h).mono fun ds F1 H1 e1 s1 A1 q w d2 hd2 pk => ?_)⟩
    subst hd2
    cases d2 with
    | int n =>
      have q : SAt tx W ps ((lift (rdOwn e1 i) e1).toS fun xs e1 => (lift (atI xs n) e1).toS fun x e1 => match x with
        | .int x => (evL [A] e1).toS fun ys e2 => match ys with
          | [.int y] => (lift (rdOwn e2 i) e2).toS fun xs2 e2 => (lift (setD xs2 n (.int (f x y))) e2).toS fun zs e2 => .nx (e2.set i (some (.own zs)))
          | _ => .bad
        | _ => .bad) D σ F1 H1 e1 := q
      obtain ⟨xs1, hx1, q⟩ := RunAt.now (SAt.part q)
      have q := q F1 H1 .refl A1
      obtain ⟨d1, hd1, q⟩ := RunAt.now (SAt.part q)
      have q := q F1 H1 .refl A1
      obtain ⟨a', us1, g1, g2, g3, g4⟩ := A1.own i xs1 (rdOwn_at hx1)
      rw [h1] at g1
      cases g1
      cases d1 with
      | int m =>
        have q : SAt tx W ps ((evL [A] e1).toS fun ys e2 => match ys with
          | [.int y] => (lift (rdOwn e2 i) e2).toS fun xs2 e2 => (lift (setD xs2 n (.int (f m y))) e2).toS fun zs e2 => .nx (e2.set i (some (.own zs)))
          | _ => .bad) D σ F1 H1 e1 := q
        obtain ⟨u, hu, ru⟩ := atI_rel g3 hd1
        have hum : u = .int m := by cases ru; rfl
        subst hum
        rw [pk.int]
        refine ⟨a, us1, n, .int m, rfl, rfl, by rw [hK]; exact .inl (.inl g2), hu, one_run A1 ((SAt.part q).mono fun ds F2 H2 e2 s2 A2 q w2 d3 hd3 pk2 => ?_)⟩
        subst hd3
        cases d3 with
        | int y =>
          have q : SAt tx W ps ((lift (rdOwn e2 i) e2).toS fun xs2 e2 => (lift (setD xs2 n (.int (f m y))) e2).toS fun zs e2 => .nx (e2.set i (some (.own zs)))) D σ F2 H2 e2 := q
          obtain ⟨xs2, hx2, q⟩ := RunAt.now (SAt.part q)
          have q := q F2 H2 .refl A2
          obtain ⟨zs, hz, q⟩ := RunAt.now (SAt.part q)
          have q := q F2 H2 .refl A2
          obtain ⟨a', us2, p1, p2, p3, p4⟩ := A2.own i xs2 (rdOwn_at hx2)
          rw [h1] at p1
          cases p1
          obtain ⟨j, hj, rfl⟩ := Option.map_eq_some_iff.mp hz
          obtain ⟨A3, s3⟩ := A2.mut (rdOwn_at hx2) h1 p4 (p3.set (.int (f m y)) j)
          rw [pk2.int]
          exact ⟨m, y, rfl, rfl, a, us2, n, j, rfl, rfl, p2, by rw [p3.len]; exact hj, q σ F2 _ (.of s3) A3⟩
        | _ => exact q.elim
      | _ => exact q.elim
    | _ => exact q.elim
end

/-! ### several names at once -/
def slC (e : En) : CS → Option Sl
  | .v d => some (.val d)
  | .f xs => some (.own xs)
  | .s i => (rdV e i).map .val
def slsC (e : En) : List CS → Option (List Sl)
  | [] => some []
  | c :: r => (slC e c).bind fun s => (slsC e r).map (s :: ·)
def setsE : List Nat → List Sl → En → En
  | i :: is, s :: ss, e => setsE is ss (e.set i (some s))
  | _, _, e => e
def setsS : List Nat → List V → Sg → Sg
  | i :: is, v :: vs, σ => setsS is vs (σ.set i (some v))
  | _, _, σ => σ
def sPar (is : List Nat) (c : List CA) : SM := fun e => (evC c e).toS fun l e1 => (lift (slsC e1 l) e1).toS fun ss e1 => if ss.length = is.length then .nx (setsE is ss e1) else .bad
section
variable {K : PySem.W.Frag} {F : Fz} {H H0 : Hp} {σ : Sg} {e e0 : En}
/-- how a value to be stored lies -/
inductive SlV (K : PySem.W.Frag) (F : Fz) (H : Hp) (σ : Sg) (e : En) (H0 : Hp) (e0 : En) : V → Sl → Prop
  | val {v : V} {d : D} : Rp K F H v d → SlV K F H σ e H0 e0 v (.val d)
  | own {a : Addr} {us : List V} {xs : List D} : H a = some (.lst us) → Rps K F H us xs → ¬ F a → ¬ OwnA σ e a → (H0 a = none ∨ OwnA σ e0 a) → SlV K F H σ e H0 e0 (.ref a) (.own xs)
end
section
variable {tx : Tx} {W : WX} {ps : List Nat} {F F1 : Fz} {H H1 H0 : Hp} {σ σ0 : Sg} {e e1 e0 : En} {K : PySem.W.Frag}
/-- values stored one behind another -/
theorem sets_ok : ∀ {is : List Nat} {vs : List V} {ss : List Sl} {σ : Sg} {e : En}, ss.length = is.length → vs.length = is.length → (∀ i ∈ is, i ∉ ps) → Abs K F1 H1 σ e → StepS ps σ0 e0 F H0 σ e F1 H1 →
    (∀ (k : Nat) v s, vs[k]? = some v → ss[k]? = some s → ∀ (xs : List D), s = .own xs → ∃ a us, v = .ref a ∧ H1 a = some (.lst us) ∧ Rps K F1 H1 us xs ∧ ¬ F1 a ∧ ¬ OwnA σ e a ∧ (H0 a = none ∨ OwnA σ0 e0 a)) →
    (∀ (k : Nat) v s, vs[k]? = some v → ss[k]? = some s → ∀ d, s = .val d → Rp K F1 H1 v d) →
    (∀ (j k : Nat) xs ys a, ss[j]? = some (.own xs) → ss[k]? = some (.own ys) → vs[j]? = some (.ref a) → vs[k]? = some (.ref a) → j = k) →
    Abs K F1 H1 (setsS is vs σ) (setsE is ss e) ∧ StepS ps σ0 e0 F H0 (setsS is vs σ) (setsE is ss e) F1 H1
  | [], vs, ss, σ, e, h1, h2, _, A, s, _, _, _ => by
    unfold setsS setsE
    exact ⟨A, s⟩
  | i :: is, [], ss, σ, e, h1, h2, _, A, s, _, _, _ => by simp at h2
  | i :: is, v :: vs, [], σ, e, h1, h2, _, A, s, _, _, _ => by simp at h1
  | i :: is, v :: vs, x :: ss, σ, e, h1, h2, hp, A, s, ho, hv, hd => by
    have hpi := hp i List.mem_cons_self
    have hps : ∀ j ∈ is, j ∉ ps := fun j hj => hp j (List.mem_cons_of_mem _ hj)
    have l1 : ss.length = is.length := by simpa using h1
    have l2 : vs.length = is.length := by simpa using h2
    unfold setsS setsE
    cases x with
    | val d =>
      have r := hv 0 v (.val d) rfl rfl d rfl
      refine sets_ok l1 l2 hps (A.setV r) (s.trans (.setV hpi)) (fun k v' s' g1 g2 xs g3 => ?_) (fun k v' s' g1 g2 => hv (k + 1) v' s' (by simpa using g1) (by simpa using g2)) (fun j k xs ys a g1 g2 g3 g4 => by
        have := hd (j + 1) (k + 1) xs ys a (by simpa using g1) (by simpa using g2) (by simpa using g3) (by simpa using g4)
        omega)
      obtain ⟨a, us, q1, q2, q3, q4, q5, q6⟩ := ho (k + 1) v' s' (by simpa using g1) (by simpa using g2) xs g3
      exact ⟨a, us, q1, q2, q3, q4, fun z => q5 (ownA_setV z), q6⟩
    | own ys =>
      obtain ⟨a, us, rfl, p2, p3, p4, p5, p6⟩ := ho 0 v (.own ys) rfl rfl ys rfl
      refine sets_ok l1 l2 hps (A.setO p2 p3 p4 p5) ⟨⟨s.st.fr, s.st.kp, s.st.nw, fun b z => ?_⟩, fun j hj => ?_, by rw [List.length_set]; exact s.len⟩ (fun k v' s' g1 g2 xs g3 => ?_) (fun k v' s' g1 g2 => hv (k + 1) v' s' (by simpa using g1) (by simpa using g2)) (fun j k xs ys a g1 g2 g3 g4 => by
        have := hd (j + 1) (k + 1) xs ys a (by simpa using g1) (by simpa using g2) (by simpa using g3) (by simpa using g4)
        omega)
      · rcases ownA_setO z with z | rfl
        · exact s.st.ow b z
        · exact p6.symm
      · rw [List.getElem?_set_ne (fun z => hpi (by rw [z]; exact hj))]
        exact s.pin j hj
      · obtain ⟨b, us', q1, q2, q3, q4, q5, q6⟩ := ho (k + 1) v' s' (by simpa using g1) (by simpa using g2) xs g3
        refine ⟨b, us', q1, q2, q3, q4, fun z => ?_, q6⟩
        rcases ownA_setO z with z | rfl
        · exact q5 z
        · subst g3
          have := hd 0 (k + 1) ys xs b rfl (by simpa using g2) rfl (by rw [List.getElem?_cons_succ, g1, q1])
          omega
theorem slsC_at : ∀ {l : List CS} {ss : List Sl} {k : Nat} {s : Sl}, slsC e l = some ss → ss[k]? = some s → ∃ c, l[k]? = some c ∧ slC e c = some s
  | [], ss, k, s, h, h2 => by cases h; simp at h2
  | c :: r, ss, k, s, h, h2 => by
    obtain ⟨s0, h3, h4⟩ := Option.bind_eq_some_iff.mp (show ((slC e c).bind fun s => (slsC e r).map (s :: ·)) = some ss from h)
    obtain ⟨ss', h5, rfl⟩ := Option.map_eq_some_iff.mp h4
    cases k with
    | zero =>
      have h2 : some s0 = some s := h2
      cases h2
      exact ⟨c, rfl, h3⟩
    | succ k => exact slsC_at (l := r) h5 (show ss'[k]? = some s from h2)
theorem par_run {is : List Nat} {c : List CA} {D : Ends} {F : Fz} {e : En} (hp : ∀ i ∈ is, i ∉ ps) (Ab : Abs tx.K F H σ e) (h : SAt tx W ps (sPar is c e) D σ F H e) : tLC tx W c σ H fun vs H1 => vs.length = is.length ∧ D.nx (setsS is vs σ) H1 := by
  refine argsC_run c Ab ?_
  unfold sPar at h
  cases q : evC c e with
  | exc x e' => rw [q] at h; exact fun cls dd F' H' s A q => h cls dd σ F' H' (.of s) A q
  | bad => rw [q] at h; exact h
  | ok l e1 =>
    rw [q] at h
    have h : SAt tx W ps ((lift (slsC e1 l) e1).toS fun ss e1 => if ss.length = is.length then .nx (setsE is ss e1) else .bad) D σ F H e := h
    intro F1 H1 s1 A1 vs C
    cases hs : slsC e1 l with
    | none => rw [hs] at h; exact h.elim
    | some ss =>
      rw [hs] at h
      have h : SAt tx W ps (if ss.length = is.length then .nx (setsE is ss e1) else .bad) D σ F H e := h
      split at h
      · rename_i hl
        have ll : ∀ {l : List CS} {ss : List Sl}, slsC e1 l = some ss → ss.length = l.length := fun {l} => by
          induction l with
          | nil => intro ss h; cases h; rfl
          | cons c r ih =>
            intro ss h
            obtain ⟨s0, h3, h4⟩ := Option.bind_eq_some_iff.mp (show ((slC e1 c).bind fun s => (slsC e1 r).map (s :: ·)) = some ss from h)
            obtain ⟨ss', h5, rfl⟩ := Option.map_eq_some_iff.mp h4
            rw [List.length_cons, List.length_cons, ih h5]
        have hvl : vs.length = is.length := by rw [C.len, ← ll hs, hl]
        have ownC : ∀ (k : Nat) xs, ss[k]? = some (.own xs) → l[k]? = some (.f xs) := fun k xs g => by
          obtain ⟨c, g1, g2⟩ := slsC_at hs g
          cases c with
          | v d => cases g2
          | f ys => cases g2; exact g1
          | s i =>
            obtain ⟨_, _, z⟩ := Option.map_eq_some_iff.mp (show (rdV e1 i).map Sl.val = some (.own xs) from g2)
            cases z
        obtain ⟨A2, s2⟩ := sets_ok (ps := ps) (σ0 := σ) (e0 := e) (F := F) (H0 := H) hl hvl hp A1 (.of s1) (fun k v s g1 g2 xs g3 => by
            subst g3
            obtain ⟨a, us, q1, q2⟩ := C.f k xs (ownC k xs g2)
            rw [g1] at q1
            cases q1
            exact ⟨a, us, rfl, q2⟩)
          (fun k v s g1 g2 d g3 => by
            subst g3
            obtain ⟨c, g4, g5⟩ := slsC_at hs g2
            cases c with
            | v d' =>
              cases g5
              obtain ⟨x, q1, q2⟩ := C.v k d g4
              rw [g1] at q1
              cases q1
              exact q2
            | f ys => cases g5
            | s i =>
              obtain ⟨d', g6, g7⟩ := Option.map_eq_some_iff.mp (show (rdV e1 i).map Sl.val = some (.val d) from g5)
              cases g7
              obtain ⟨x, q1, q2⟩ := C.s k i g4
              rw [g1] at q1
              cases q1
              exact rdV_rp A1 g6 q2)
          (fun j k xs ys a g1 g2 g3 g4 => C.d j k xs ys a (ownC j xs g1) (ownC k ys g2) g3 g4)
        exact ⟨hvl, h _ F1 H1 s2 A2⟩
      · exact h.elim
end
section
variable {tx : Tx} {X : Cx} {W : WX} {ps : List Nat} {c : List CA} {x y z : Str} {a b d : Expr} {px py pz pt pt2 pos : Pos} {kt k2 : Nat}
theorem s_par2 (k : Ck tx X) (hc : X.calm = true) (i j : Nat) (ha : PA X [a, b] (tLC tx W c)) (hp : ∀ l ∈ [i, j], l ∉ ps := by decide) (hi : X.N[i]? = some x := by rfl) (hj : X.N[j]? = some y := by rfl) (hij : i ≠ j := by decide)
    (hx : X.env.scope.names.lookup x = some .local := by rfl) (hy : X.env.scope.names.lookup y = some .local := by rfl)
    (hw : swappedStores [.Tuple [.Name x px, .Name y py] kt pt] (.Tuple [a, b] k2 pt2) X.env = pure (some [x, y]) := by rfl)
    (hs : swapsWithSole [.Tuple [.Name x px, .Name y py] kt pt] (.Tuple [a, b] k2 pt2) pos.line X.env = pure false := by rfl) :
    PS X (.Assign [.Tuple [.Name x px, .Name y py] kt pt] (.Tuple [a, b] k2 pt2) pos) (TSx tx W ps (sPar [i, j] c)) :=
  ps_imp (ps_par hc k.nd hi hj hij hx hy ha hw hs) fun D σ H ⟨F, e, Ab, h⟩ => tLC_mono (fun vs H1 q => by
    match vs, q with
    | [v, w], q => exact ⟨v, w, rfl, q.2⟩) (par_run hp Ab h)
theorem s_par3 (k : Ck tx X) (hc : X.calm = true) (i j l : Nat) (ha : PA X [a, b, d] (tLC tx W c)) (hp : ∀ m ∈ [i, j, l], m ∉ ps := by decide) (hi : X.N[i]? = some x := by rfl) (hj : X.N[j]? = some y := by rfl) (hl : X.N[l]? = some z := by rfl) (hij : i ≠ j := by decide) (hil : i ≠ l := by decide) (hjl : j ≠ l := by decide)
    (hx : X.env.scope.names.lookup x = some .local := by rfl) (hy : X.env.scope.names.lookup y = some .local := by rfl) (hz : X.env.scope.names.lookup z = some .local := by rfl)
    (hw : swappedStores [.Tuple [.Name x px, .Name y py, .Name z pz] kt pt] (.Tuple [a, b, d] k2 pt2) X.env = pure (some [x, y, z]) := by rfl)
    (hs : swapsWithSole [.Tuple [.Name x px, .Name y py, .Name z pz] kt pt] (.Tuple [a, b, d] k2 pt2) pos.line X.env = pure false := by rfl) :
    PS X (.Assign [.Tuple [.Name x px, .Name y py, .Name z pz] kt pt] (.Tuple [a, b, d] k2 pt2) pos) (TSx tx W ps (sPar [i, j, l] c)) :=
  ps_imp (ps_par3 hc k.nd hi hj hl hij hil hjl hx hy hz ha hw hs) fun D σ H ⟨F, e, Ab, h⟩ => tLC_mono (fun vs H1 q => by
    match vs, q with
    | [u, v, w], q => exact ⟨u, v, w, rfl, q.2⟩) (par_run hp Ab h)
end
end Dn

/-! Dn, part L: repr, isinstance, count, lists times ints; the law's own call -/
namespace Dn
open PySem PySem.Spec PyProof.Rows L2

/-! ### repr -/
def seqD : D → Bool
  | .list _ => true
  | .tuple _ => true
  | _ => false
def reprOk (d : D) : Bool := seqD d && d.showable && !d.hasDict && decide (d.depth ≤ 60) && decide (d.shown.length ≤ sizeLine)
def fRepr : List D → Option D
  | [d] => if reprOk d = true then some (.str d.shown) else none
  | _ => none
section
variable {tx : Tx} {X : Cx}
def rRepr (K : PySem.W.Frag) : List V → Hp → VK → Prop := fun xs H Q => ∃ x d, xs = [x] ∧ Dp K H x d ∧ reprOk d = true ∧ Q (.str d.shown) H
theorem cr_repr (k : Ck tx X) : CallR X (.builtin "repr") (rRepr X.K) := by
  intro pins s σ H xs us Q I r h
  obtain ⟨x, d, rfl, hd, ok, q⟩ := h
  obtain ⟨u, rfl, ru⟩ := vals1 r
  obtain ⟨as, rd⟩ := Dp.reads I d x u hd ru
  unfold reprOk at ok
  simp only [Bool.and_eq_true, decide_eq_true_eq, Bool.not_eq_true'] at ok
  obtain ⟨⟨⟨⟨o1, o2⟩, o3⟩, o4⟩, o5⟩ := ok
  have hu := k.units
  have fin : ∀ a, u = .ref a → wpAny (model X.prog X.w) X.A (call (.builtin "repr") [u]) (EP X pins σ Q) X.xe s := fun a e => by
    subst e
    exact repr_of_reads' rd o2 (fun z => by rw [o3] at z; cases z) k.gd (by omega) (fun b o z => z) (fun h' t tk kp => ⟨.str d.shown, H, I.kept (h' := h') (t' := tk) kp, ⟨t, rfl⟩, q⟩) o5
  cases d with
  | list ds =>
    cases hd
    exact fin _ ru
  | tuple ds =>
    cases hd
    exact fin _ ru
  | _ => cases o1
theorem vl_repr (hK : X.K = tx.K) : VL tx (rRepr X.K) fRepr := by
  intro F H vs ds d Q hk h e q
  unfold fRepr at e
  split at e
  · split at e
    · cases e
      obtain ⟨x, rfl, h1⟩ := h.one
      exact ⟨x, _, rfl, by rw [hK]; exact h1.dp, by assumption, q _ F H (Gro.refl hk) (.str _)⟩
    · cases e
  · cases e
end

/-! ### isinstance(x, T), T a built-in type -/
def tyD : D → Option String
  | .none => some "NoneType"
  | .bool _ => some "bool"
  | .int _ => some "int"
  | .str _ => some "str"
  | .list _ => some "list"
  | .tuple _ => some "tuple"
  | .dict _ => none
def fIsi (T : String) : List D → Option Bool
  | [d] => (tyD d).bind fun t => kitB t T
  | _ => none
theorem sq_ty {K : PySem.W.Frag} {H : Hp} {a : Addr} {vs : List V} (h : SqL K H a vs) : TyX K H (.ref a) (.type "list") := by
  rcases h with (h | ⟨o, h⟩) | h
  · exact .base (.lst h)
  · exact .base (.frz h)
  · obtain ⟨o, its, n, h1, h2, _⟩ := h
    exact .kList h1 h2
theorem sqT_ty {K : PySem.W.Frag} {H : Hp} {a : Addr} {vs : List V} (h : SqT K H a vs) : TyX K H (.ref a) (.type "tuple") := by
  rcases h with (h | ⟨o, h⟩) | h
  · exact .base (.tup h)
  · exact .fTuple h
  · obtain ⟨o, its, n, h1, h2, _⟩ := h
    exact .kTuple h1 h2
theorem Pk.tyx {K : PySem.W.Frag} {F : Fz} {H : Hp} {v : V} {d : D} {t : String} (h : Pk K F H v d) (e : tyD d = some t) : TyX K H v (.type t) := by
  cases d with
  | none => cases e; rw [h.non]; exact .base .non
  | bool b => cases e; rw [h.bl]; exact .base (.bl b)
  | int b => cases e; rw [h.int]; exact .base (.int b)
  | str b => cases e; rw [h.str]; exact .base (.str b)
  | list ds =>
    cases e
    obtain ⟨a, vs, rfl, hs, _⟩ := h.lst
    exact sq_ty hs
  | tuple ds =>
    cases e
    obtain ⟨a, vs, rfl, hs, _⟩ := h.tup
    exact sqT_ty hs.sq
  | dict _ => cases e
section
variable {tx : Tx} {X : Cx} {W : WX} {a : Expr} {A : Op} {p p2 pos : Pos} {T : Str} {tn : String}
def rIsB1 (K : PySem.W.Frag) (tn : String) : List V → Hp → VK → Prop := r1L fun x H Q => rIsi K [x, .ty tn] H Q
theorem vb_isi (hK : X.K = tx.K) : VB tx (rIsB1 X.K tn) (fIsi tn) := by
  intro F H vs ds b Q hk h e q
  unfold fIsi at e
  split at e
  · obtain ⟨t, h1, h2⟩ := Option.bind_eq_some_iff.mp e
    obtain ⟨x, rfl, h3⟩ := h.one
    exact ⟨x, .ty tn, .type t, .type tn, b, rfl, .ty tn, by rw [hK]; exact h3.tyx h1, kit_ty h2, q H (Gro.refl hk)⟩
  · cases e
theorem d_isi (k : Ck tx X) (ha : PE X a (teO tx W A)) (hg : Gl X "isinstance") (hm : X.mg "isinstance" = none) (hg2 : Gl X T) (hm2 : X.mg T = none) (hb2 : bootBuiltins T = some (.type tn)) (hn2 : T ≠ "__name__" := by decide) (hd2 : (T == ("__debug__" : Str)) = false := by decide)
    (hs : starEach [a, .Name T p2] X.env = (false, eval a X.env) :: starEach [.Name T p2] X.env := by rfl) (hs2 : starEach [.Name T p2] X.env = (false, eval (.Name T p2) X.env) :: starEach [] X.env := by rfl) (hpl : (backTo pos (starEach [.Name T p2] X.env)).any (·.1) = false := by rfl) :
    PE X (.Call (.Name "isinstance" p) [a, .Name T p2] [] pos) (TEx tx W (mOp (bV (fIsi tn)) [A])) :=
  pe_imp (pe_callB call_isi hg hm PyProof.Rows.boot_isinstance (pa_cons ha (pa_cons (pe_bltn (v := .ty tn) hg2 hm2 hb2 rfl hn2 hd2) pa_nil hs2) hs) (by decide) (by decide) hs hpl) fun σ H Q h => ops_run (vb_isi k.K).vl h
end

/-! ### l.count(x) -/
def fCount : List D → Option D
  | [.list ds, d] => if SeqAt.shaped (.list ds) = true ∧ SeqAt.shaped d = true then some (.int (ds.countP (PyData.eqv · d) : Nat)) else none
  | _ => none
def rCntD (K : PySem.W.Frag) : V → List V → Hp → VK → Prop := fun x xs H Q => ∃ (p : Addr) (y : V) (ds : List D) (d : D), x = .ref p ∧ xs = [y] ∧ Dp K H (.ref p) (.list ds) ∧ Dp K H y d ∧ SeqAt.shaped (.list ds) = true ∧ SeqAt.shaped d = true ∧ Q (.int (ds.countP (PyData.eqv · d) : Nat)) H
theorem mt_countD {X : Cx} (hu : X.A.units + 65 < cLine) : MtR X "list.count" (rCntD X.K) := by
  intro pins s σ H x xs v us Q I rx rxs h
  obtain ⟨p, y, ds, d, rfl, rfl, hl, hy, sl, sd, q⟩ := h
  cases rx
  cases rxs with
  | cons ry rt =>
    cases rt
    rename_i u
    obtain ⟨bs, r1⟩ := Dp.reads I d y _ hy ry
    obtain ⟨as, r2⟩ := Dp.reads I (.list ds) (.ref p) (.ref p) hl rfl
    have room := room_in_shaped (xs := ds) sd hu
    cases r2 with
    | list h1 h2 h3 h4 =>
      rename_i o its n as'
      obtain ⟨cls, dd, data, slots⟩ := o
      simp only at h2 h3
      subst h2 h3
      have lay : PyData.canLayAll0 ds = true := SeqAt.canLay_of_shaped sl
      refine call_meets PySem.F.slot_list_count ⟨_, h1, rfl⟩ PySem.F.entry_list_count (PySem.F.args_list_count_2 _ _) (SeqAt.list_countAt p its n dd slots u (fun z => PyData.eqv (SeqAt.readOf s.heap z) d)) ⟨h1, SeqAt.items_eqAt h4 r1 lay (SeqAt.canLay_of_shaped sd) room, ?_⟩
      refine ⟨.int (ds.countP (PyData.eqv · d) : Nat), H, I.tok _, ⟨s.toks, ?_⟩, q⟩
      have e : its.toList.countP (fun z => PyData.eqv (SeqAt.readOf s.heap z) d) = ds.countP (PyData.eqv · d) := by
        rw [← SeqAt.readsAll_map ds _ _ lay h4, List.countP_map]
        rfl
      show Value.int ((its.toList.countP (fun z => PyData.eqv (SeqAt.readOf s.heap z) d) : Nat) : Int) s.toks = _
      rw [e]
def hdL (r : V → List V → Hp → VK → Prop) : List V → Hp → VK → Prop := fun vs H Q => match vs with
  | x :: xs => r x xs H Q
  | [] => False
/-- A.name(..): the thing's kind is looked at ahead of the arguments -/
def mMt (ty : D → Bool) (f : List D → Option D) (A : Op) (c : List Op) (e : En) : Res D :=
  (evP [A] e).bind fun l e1 => (lift ((fillL e1 l).filter fun ds => ds.all ty) e1).bind fun _ e1 => (evP c e1).bind fun l2 e2 => (lift (fillL e2 (l ++ l2)) e2).bind fun ds e2 => lift (f ds) e2
/-- .. with a new list for an answer -/
def mMtL (ty : D → Bool) (f : List D → Option (List D)) (A : Op) (c : List Op) (e : En) : Res (List D) :=
  (evP [A] e).bind fun l e1 => (lift ((fillL e1 l).filter fun ds => ds.all ty) e1).bind fun _ e1 => (evP c e1).bind fun l2 e2 => (lift (fillL e2 (l ++ l2)) e2).bind fun ds e2 => lift (f ds) e2
def isL : D → Bool
  | .list _ => true
  | _ => false
def isS : D → Bool
  | .str _ => true
  | _ => false
def TyOk (tx : Tx) (T : String) (ty : D → Bool) : Prop := ∀ F H v d, Pk tx.K F H v d → ty d = true → tyV tx.K T v H
section
variable {tx : Tx} {X : Cx} {W : WX} {σ : Sg} {H : Hp} {a b e0 : Expr} {es : List Expr} {A B : Op} {c : List Op} {ap pos : Pos} {T id : String} {name : Str} {ty : D → Bool} {f : List D → Option D} {r : V → List V → Hp → VK → Prop}
theorem tyok_l : TyOk tx "list" isL := fun F H v d h e => by
  cases d with
  | list ds =>
    obtain ⟨p, us, rfl, hs, _⟩ := h.lst
    exact .inl ⟨rfl, us, hs⟩
  | _ => cases e
theorem tyok_s : TyOk tx "str" isS := fun F H v d h e => by
  cases d with
  | str x => rw [h.str]; exact rfl
  | _ => cases e
theorem argV_app {K : PySem.W.Frag} {F : Fz} {v : V} {l l2 : List Slot} {vs : List V} (h1 : ArgV K F H σ [v] l) (h2 : ArgV K F H σ vs l2) : ArgV K F H σ (v :: vs) (l ++ l2) := by
  match l, h1 with
  | [.inl d], h1 => exact ⟨h1.1, h2⟩
  | [.inr j], h1 => exact ⟨h1.1, h2⟩
  | .inl _ :: c :: _, h1 => cases c <;> exact h1.2.elim
  | .inr _ :: c :: _, h1 => cases c <;> exact h1.2.elim
theorem argV_mono {K : PySem.W.Frag} {F F1 : Fz} {H1 : Hp} {v : V} {l : List Slot} {e e1 : En} (A : Abs K F H σ e) (s : Step σ e F H σ e1 F1 H1) (h1 : ArgV K F H σ [v] l) : ArgV K F1 H1 σ [v] l := by
  match l, h1 with
  | [.inl d], h1 => exact ⟨A.rp s h1.1, True.intro⟩
  | [.inr j], h1 => exact ⟨h1.1, True.intro⟩
  | .inl _ :: c :: _, h1 => cases c <;> exact h1.2.elim
  | .inr _ :: c :: _, h1 => cases c <;> exact h1.2.elim
theorem meth_run {K : PySem.W.Frag} {Q : VK} (hK : K = tx.K) (ht : TyOk tx T ty) (hv : VL tx (hdL r) f) (h : TEx tx W (mMt ty f A c) σ H Q) : tBM K T r (teO tx W A) (tL tx W c) σ H Q := by
  obtain ⟨F, e, Ab, h⟩ := h
  refine base_run Ab ((RunAt.seq h).mono fun l F1 H1 e1 s1 A1 q v ha => ?_)
  obtain ⟨ds, hds, q⟩ := RunAt.now (RunAt.seq q)
  have q := q F1 H1 .refl A1
  obtain ⟨hds, hty⟩ := Option.filter_eq_some_iff.mp hds
  have pk := fill_pk A1 ha hds
  refine ⟨?_, args_run c A1 ((RunAt.seq q).mono fun l2 F2 H2 e2 s2 A2 q vs hvs => ?_)⟩
  · rw [hK]
    match ds, pk, hty with
    | [d], pk, hty => exact ht F1 H1 v d pk.1 (by simpa using hty)
    | [], pk, _ => exact pk.elim
    | _ :: _ :: _, pk, _ => exact pk.2.elim
  · obtain ⟨ds2, hds2, q⟩ := RunAt.now (RunAt.seq q)
    have q := q F2 H2 .refl A2
    obtain ⟨d, hd, q⟩ := RunAt.now q
    exact hv F2 H2 (v :: vs) ds2 d Q A2.fok (fill_pk A2 (argV_app (argV_mono A1 s2 ha) hvs) hds2) hd fun u F3 H3 g ru => q F3 H3 g.step (A2.gro g) u ru
theorem d_meth (k : Ck tx X) (ht : TyOk tx T ty) (hv : VL tx (hdL r) f) (pa : PlainAttrs T) (slot : PySem.Slot T name id) (hty : typeOf (.builtin id) = pure (.type "method_descriptor")) (hm : MtR X id r) (ho : PE X a (teO tx W A)) (ha : PA X (e0 :: es) (tL tx W c))
    (hbase : attributeBase a name X.env (eval a X.env) = eval a X.env := by rfl)
    (hfew : ((backTo pos (starEach (e0 :: es) X.env)).all (fun x => !x.1) && (backToKw pos (keywordEach [] X.env)).all (fun x => x.1.isSome)
      && decide ((e0 :: es).length + ([] : List Keyword).length + (if ([] : List Keyword).isEmpty then 0 else 1) < 30)) = true := by rfl)
    (hline : (ap.endLine == pos.line) = true := by rfl) (hs : starEach (e0 :: es) X.env = (false, eval e0 X.env) :: starEach es X.env := by rfl) (hpl : (backTo pos (starEach es X.env)).any (·.1) = false := by rfl) :
    PE X (.Call (.Attribute a name ap) (e0 :: es) [] pos) (TEx tx W (mMt ty f A c)) :=
  pe_imp (pe_bm pa slot hty hm ho ha hbase hfew hline hs hpl) fun σ H Q h => meth_run k.K ht hv h
theorem vl_count (hK : X.K = tx.K) : VL tx (hdL (rCntD X.K)) fCount := by
  intro F H vs ds d Q hk h e q
  unfold fCount at e
  split at e
  · split at e
    · rename_i hc
      cases e
      obtain ⟨x, y, rfl, h1, h2⟩ := h.two
      have dx := h1.dp
      obtain ⟨p, us, rfl, hs, rs⟩ := h1.lst
      rw [hK]
      exact ⟨p, y, _, _, rfl, rfl, dx, h2.dp, hc.1, hc.2, q _ F H (Gro.refl hk) (.int _)⟩
    · cases e
  · cases e
theorem ty_count : typeOf (.builtin "list.count") = pure (.type "method_descriptor") := by
  show builtinType _ = _
  rw [builtinType_eq_fast]
  kernel_rfl
theorem d_count (k : Ck tx X) (ho : PE X a (teO tx W A)) (ha : PE X b (teO tx W B)) (hbase : attributeBase a "count" X.env (eval a X.env) = eval a X.env := by rfl)
    (hfew : ((backTo pos (starEach [b] X.env)).all (fun x => !x.1) && (backToKw pos (keywordEach [] X.env)).all (fun x => x.1.isSome)
      && decide ([b].length + ([] : List Keyword).length + (if ([] : List Keyword).isEmpty then 0 else 1) < 30)) = true := by rfl)
    (hline : (ap.endLine == pos.line) = true := by rfl) (hs : starEach [b] X.env = (false, eval b X.env) :: starEach [] X.env := by rfl) (hpl : (backTo pos (starEach [] X.env)).any (·.1) = false := by rfl) :
    PE X (.Call (.Attribute a "count" ap) [b] [] pos) (TEx tx W (mMt isL fCount A [B])) :=
  d_meth k tyok_l (vl_count k.K) PySem.F.plainAttrs_list PySem.F.slot_list_count ty_count (mt_countD (by have := k.units; omega)) ho (a_cons ha a_nil hs) hbase hfew hline hs hpl
end

/-! ### a new list times an int -/
def rep62 (xs : List D) (k : Int) : Option (List D) := if (-(2 ^ 63) ≤ k ∧ k < 2 ^ 63) ∧ xs.length * k.toNat ≤ sizeLine then some (List.replicate k.toNat xs).flatten else none
def mRep (m : En → Res (List D)) (B : Op) (e : En) : Res (List D) := (m e).bind fun xs e1 => (evL [B] e1).bind fun ds e2 => match ds with
  | [.int k] => lift (rep62 xs k) e2
  | _ => .bad
section
variable {tx : Tx} {X : Cx} {W : WX} {a b : Expr} {B : Op} {pos : Pos} {m : En → Res (List D)}
theorem d_rep (ha : PE X a (TFx tx W m)) (hb : PE X b (teO tx W B)) : PE X (.BinOp a .Mult b pos) (TFx tx W (mRep m B)) :=
  pe_imp (pe_op op_rep ha hb) fun σ H Q ⟨F, e, Ab, h⟩ => by
    refine ⟨F, e, Ab, (RunAt.seq h).mono fun xs F1 H1 e1 s1 A1 q a vs ha rs nF nO og => ?_⟩
    refine one_run A1 ((RunAt.seq q).mono fun ds F2 H2 e2 s2 A2 q w d hd pk => ?_)
    subst hd
    cases d with
    | int k =>
      have q : RunAt tx W (lift (rep62 xs k) e2) σ F2 H2 e2 _ := q
      obtain ⟨zs, hz, q⟩ := RunAt.now q
      have q := fun F' H' s A' => q F' H' s A'
      unfold rep62 at hz
      split at hz
      · rename_i hc
        cases hz
        rw [pk.int]
        refine ⟨a, k, vs, rfl, rfl, s2.kp a _ ha nO, hc.1.1, hc.1.2, by rw [rs.len]; exact hc.2, fun p np => ?_⟩
        obtain ⟨A3, s3, nF3, nO3⟩ := A2.lay (ws := (List.replicate k.toNat vs).flatten) np
        exact q F2 _ s3 A3 p _ upd_same (((A1.rps s2 rs).rep _).other nF3) nF3 nO3 ((s1.trans s2).back np)
      · cases hz
    | _ => exact q.elim
end

/-! ### the law's own call -/
theorem callerG : callerA.guards = some [] := rfl
section
variable {P : Program} {w : World} {K : PySem.W.Frag} {mg mb : Str → Option Value} {k : Nat} {fa a : Addr} {fd : FuncData} {x : Str} {sp : Sp} {s1 : Shared} {vs : List Value} {ns : List Int}
/-- from one abstract heap -/
theorem lawG_at (inK : K.In s1.heap) (hns : s1.heap.Ns mainGlobals mg) (hb : s1.heap.Ns builtinsNs mb) (hbb : ∀ x : Str, x ≠ "__name__" → mb x = bootBuiltins x) (hlim : s1.heap.NoLimit) (hg : s1.gens = #[])
    (ha : s1.heap.get? a = some { cls := .type "list", data := .seq vs.toArray }) (room : Room k callerA) (F : ∀ base : Heap, K.In base → base.Ns mainGlobals mg → FnG P w K mg base k fa fd [x] sp) (hbind : ∀ (s : Shared) (u : Value), BindsTo s fd ⟨[u], []⟩ [(x, u)])
    (H : Hp) (only : Only H) (hq : sp [.ref a] H (fun v _ => v = .bl true) fun _ _ _ => False) (hok : HOk P w H s1.heap) (hA : ∀ b, H b ≠ none → b = a) (hK : H a ≠ none → K.lookup a = none) :
    codeAny (model P w) callerA (.call (.ref fa) ⟨[.ref a], []⟩) (fun r s' => r = .ok (.ret (.bool true)) ∧ OldK s1.heap s'.heap ∧ s'.os = s1.os ∧ AllBare s'.gens) s1 := by
  have free : ∀ {b : Addr} {o : Obj}, s1.heap.get? b = some o → (b ≠ a ∨ ∀ es ep, o.data = .dict es ep → False) → (b = a → ∃ es ep, o.data = .dict es ep) → H b = none := fun {b o} e _ hd => by
    cases q : H b with
    | none => rfl
    | some u =>
      have z := hA b (by rw [q]; simp)
      obtain ⟨es, ep, d⟩ := hd z
      rw [z, ha] at e
      cases e
      cases d
  have dictFree : ∀ {b : Addr} {o : Obj} {es : Array DictEntry} {ep : Nat}, s1.heap.get? b = some o → o.data = .dict es ep → H b = none := fun {b o es ep} e d => by
    by_cases z : b = a
    · exact free e (.inr fun _ _ _ => by rw [z, ha] at e; cases e; cases d) fun _ => ⟨es, ep, d⟩
    · cases q : H b with
      | none => rfl
      | some u => exact absurd (hA b (by rw [q]; simp)) z
  have ns' : ∀ {b : Addr} {m : Str → Option Value}, s1.heap.Ns b m → (hidT s1.heap H).Ns b m := fun {b m} ⟨o, es, ep, e, d, z⟩ => ⟨o, es, ep, hidT_get e (dictFree e d), d, z⟩
  have inB : K.In (hidT s1.heap H) := fun b o e => hidT_get (inK b o e) (by
    cases q : H b with
    | none => rfl
    | some u =>
      have z := hA b (by rw [q]; simp)
      subst z
      rw [hK (by rw [q]; simp)] at e
      cases e)
  have modB : Mod K mg (hidT s1.heap H) := ⟨inB, ns' hns, ⟨mb, ns' hb, hbb⟩, let ⟨mc, l1, l2⟩ := hlim; ⟨mc, ns' l1, l2⟩⟩
  have start : Env0 P w K mg (hidT s1.heap H) callerA [] s1 H := ⟨rfl, modB, fun b o e => of_hidT e, Nat.le_of_eq (hidT_size _ _), trivial, fun b z => (List.not_mem_nil z).elim, hok, .of_eq hg⟩
  refine codeAny_mono ((F _ inB (ns' hns)).go callerA callerG room [] s1 H start ⟨[.ref a], []⟩ [.ref a] (hbind s1 (.ref a)) [.ref a] _ _ (.cons rfl .nil) hq) fun r s' h => ?_
  cases r with
  | error e =>
    obtain ⟨_, _, _, _, _, _, _, _, _, _, _, _, z⟩ := h
    exact z.elim
  | ok fl =>
    cases fl with
    | ret u =>
      obtain ⟨v, H', os, bare, un, hok', rv, q⟩ := h
      cases (show v = .bl true from q)
      cases (show u = Value.bool true from rv)
      refine ⟨rfl, OldK.of_keep fun b o e => ?_, os, bare⟩
      cases q : H b with
      | none => exact un.keep b o e q (fun z => (List.not_mem_nil z).elim) (List.not_mem_nil)
      | some u =>
        rcases only b with z | ⟨ob, xs, z⟩
        · rw [q] at z
          cases z
        · obtain ⟨g1, _⟩ := hok b _ z
          obtain ⟨g2, _⟩ := hok' b _ (un.frzs b ob _ z)
          rw [e] at g1
          cases g1
          exact g2
    | next => exact h.elim
    | brk => exact h.elim
    | cont => exact h.elim
theorem lawG (inK : K.In s1.heap) (hns : s1.heap.Ns mainGlobals mg) (hb : s1.heap.Ns builtinsNs mb) (hbb : ∀ x : Str, x ≠ "__name__" → mb x = bootBuiltins x) (hlim : s1.heap.NoLimit) (hg : s1.gens = #[])
    (ha : s1.heap.get? a = some { cls := .type "list", data := .seq vs.toArray }) (hi : IntsAre vs ns) (hl : ns.length ≤ sizeLine) (room : Room k callerA) (F : ∀ base : Heap, K.In base → base.Ns mainGlobals mg → FnG P w K mg base k fa fd [x] sp)
    (hbind : ∀ (s : Shared) (u : Value), BindsTo s fd ⟨[u], []⟩ [(x, u)]) (hsp : ∀ H : Hp, Only H → SqL K H a (ns.map V.int) → sp [.ref a] H (fun v _ => v = .bl true) fun _ _ _ => False) :
    codeAny (model P w) callerA (.call (.ref fa) ⟨[.ref a], []⟩) (fun r s' => r = .ok (.ret (.bool true)) ∧ OldK s1.heap s'.heap ∧ s'.os = s1.os ∧ AllBare s'.gens) s1 := by
  have rv := vals_ints hi
  have hlen := hi.length
  cases hk : K.lookup a with
  | some o =>
    have e := inK a o hk
    rw [ha] at e
    cases e
    have only : Only fun _ => none := fun _ => .inl rfl
    exact lawG_at inK hns hb hbb hlim hg ha room F hbind _ only (hsp _ only (.inr ⟨_, vs.toArray, _, hk, rfl, rfl, rfl, by rw [List.size_toArray, hlen]; exact hl, by simpa using rv⟩)) (fun b u z => nomatch z) (fun b z => absurd rfl z) fun z => absurd rfl z
  | none =>
    have at_a : ∀ {b : Addr} {u : HO}, (if b = a then some (HO.frz { cls := .type "list", data := .seq vs.toArray } (.lst (ns.map V.int))) else none) = some u → b = a ∧ u = .frz { cls := .type "list", data := .seq vs.toArray } (.lst (ns.map V.int)) := fun {b u} z => by
      split at z
      · cases z; exact ⟨by assumption, rfl⟩
      · cases z
    have only : Only fun b => if b = a then some (HO.frz { cls := .type "list", data := .seq vs.toArray } (.lst (ns.map V.int))) else none := fun b => by
      dsimp only
      split
      · exact .inr ⟨_, _, rfl⟩
      · exact .inl rfl
    refine lawG_at inK hns hb hbb hlim hg ha room F hbind _ only (hsp _ only (.inl (.inr ⟨{ cls := .type "list", data := .seq vs.toArray }, if_pos rfl⟩))) (fun b u z => ?_) (fun b z => ?_) fun _ => hk
    · obtain ⟨rfl, rfl⟩ := at_a z
      exact ⟨ha, by rw [List.length_map]; exact hl, vs, _, rv, ha⟩
    · cases q : (if b = a then some (HO.frz { cls := .type "list", data := .seq vs.toArray } (.lst (ns.map V.int))) else none) with
      | none => exact absurd q z
      | some u => exact (at_a q).1
end
/-- the head's goal, from the law's promise -/
theorem walkG {l : PySem.W.OpenLaw} {n k : Nat} {q : Program} {loose : List Str} {XP : (Str → Option Value) → Heap → Prop} {YP : World → Heap → Prop} {d : DefRec} {K : Params → PySem.W.Frag} {sp : World → Sp} {x : Str}
    (hn : l.most = some n) (hn2 : n ≤ sizeLine) (hdf : d.params.defaults = []) (room : Room k callerA) (hY : ∀ (w : World) (h : Heap), YP w h → (K w.params).In h)
    (F : ∀ (w : World) (mg : Str → Option Value) (fa : Addr) (h : Heap), (K w.params).In h → h.Ns mainGlobals mg → mg d.name = some (.ref fa) →
      ∃ fd : FuncData, (∀ (s : Shared) (u : Value), BindsTo s fd ⟨[u], []⟩ [(x, u)]) ∧ ∀ base : Heap, (K w.params).In base → base.Ns mainGlobals mg → FnG l.prog w (K w.params) mg base k fa fd [x] (sp w))
    (hsp : ∀ (w : World) (H : Hp) (a : Addr) (ns : List Int), ns.length ≤ n → Only H → SqL (K w.params) H a (ns.map V.int) → sp w [.ref a] H (fun v _ => v = .bl true) fun _ _ _ => False) :
    PySem.W.WalkO q loose XP YP l.row.toRowW d [] (fun f vs => PySem.call f vs) := by
  refine Att.attach_call hn hdf fun w s0 s1 mg mb fa o pm cd doc a vs ns G Y ho hd hcd hmg hobj hints hlen hg => ?_
  have inK := hY w _ Y
  obtain ⟨fd, hb, hF⟩ := F w mg fa _ inK G.T.g hmg
  exact lawG inK G.T.g G.T.b G.T.builtins G.T.nolimit hg hobj hints (Nat.le_trans hlen hn2) room hF hb fun H only hS => hsp w H a ns hlen only hS
/-- the law's promise from its meaning -/
theorem law_sp {tx : Tx} {den : Den} {H : Hp} {a : Addr} {ns : List Int} (only : Only H) (hS : SqL tx.K H a (ns.map V.int)) (h : ∃ o, den [.val (.list (ns.map PyData.int))] = .ok (.val (.bool true)) o) : spD tx 1 den [.ref a] H (fun v _ => v = .bl true) fun _ _ _ => False := by
  obtain ⟨o, h⟩ := h
  have fl : FL tx.K (fun b => H b ≠ none) H a (ns.map V.int) := by
    rcases hS with hS | hS
    · refine .inl ⟨?_, hS⟩
      rcases hS with z | ⟨o, z⟩
      · show H a ≠ none
        rw [z]; simp
      · show H a ≠ none
        rw [z]; simp
    · exact .inr hS
  refine ⟨fun b => H b ≠ none, [.val (.list (ns.map PyData.int))], rfl, ⟨rfl, fun i d e => ?_, fun i xs e => ?_, fun i j xs ys a e => ?_, fun b z => z⟩, ?_⟩
  · cases i with
    | zero => cases e; exact ⟨.ref a, rfl, .lst fl (Rps.ints ns)⟩
    | succ i => simp at e
  · cases i with
    | zero => cases e
    | succ i => simp at e
  · cases i with
    | zero => cases e
    | succ i => simp at e
  · rw [h]
    intro v F' H' s A' r
    cases (show Rp tx.K F' H' v (.bool true) from r)
    rfl
end Dn

/-! Dn, part M: defs of a text, in short -/
namespace Dn
open PySem PySem.Spec PyProof.Rows L2

/-- how the def st of the name x binds positional values -/
def BindC (x : Str) (st : Stmt) (ps : List Str) : Prop := ∀ (kV doc pm : Value) (an : Option Addr) (cdv ct : Value) (us : List Value), us.length = ps.length →
  bindArgs (PySem.W.fnOf x x (defArgs st) (defBody st) (defScope st) .none kV doc pm an cdv ct) ⟨us, []⟩ = pure (ps.zip us)
def KBc (x : Str) (st : Stmt) (ps : List Str) (n : Nat) (ks : List Str) (idx : List Nat) : Prop := ∀ (kV doc pm : Value) (an : Option Addr) (cdv ct : Value) (us ws : List Value), us.length = n → ws.length = ks.length →
  bindArgs (PySem.W.fnOf x x (defArgs st) (defBody st) (defScope st) .none kV doc pm an cdv ct) ⟨us, ks.zip ws⟩ = pure (ps.zip (pick idx (us ++ ws)))
/-- a def of the text, callable by its name -/
structure Cal (P : Program) (w : World) (tx : Tx) (mg : Str → Option Value) (base : Heap) (k : Nat) (x : Str) (st : Stmt) (ps : List Str) (den : Den) : Prop where
  ex : ∃ f fd, Fun tx.K x x st f fd ∧ FnG P w tx.K mg base k f fd ps (spD tx ps.length den) ∧ mg x = some (.ref f)
  bd : BindC x st ps
/-- a def as the top has left it -/
def Has (K : PySem.W.Frag) (mg : Str → Option Value) (x : Str) (st : Stmt) : Prop := ∃ f fd, Fun K x x st f fd ∧ mg x = some (.ref f)
section
variable {P : Program} {w : World} {tx : Tx} {mg : Str → Option Value} {base : Heap} {k : Nat} {x : Str} {st : Stmt} {N ps : List Str} {b : SM} {ow : List Nat}
theorem cal_of (h : Has tx.K mg x st) (bd : BindC x st ps) (S : FnScope N ps (defScope st)) (ow : List Nat)
    (hbody : ∀ (f : Addr) (cdv : Value) (A : Around) (outer : List Env) (s : Shared) (H : Hp) (E : XK), A.guards = some [] → Room k (A.deeper (envOfC x (defScope st) s.heap.objs.size f cdv)) →
      PSs (cxOf (L2.CX P w) P w tx.K mg base N x (defScope st) f cdv A outer s H E) (defBody st) (TSx tx (fun cls dd _ H' => E cls dd H') ow b)) :
    Cal P w tx mg base (k + 1) x st ps (denOf (N.length - ps.length) ow ps.length b) := by
  obtain ⟨f, fd, F, hm⟩ := h
  exact ⟨⟨f, fd, F, fn_den tx ow F S (hbody f), hm⟩, bd⟩
end
section
variable {tx : Tx} {X : Cx} {W : WX} {k : Nat} {x : Str} {st : Stmt} {ps ks : List Str} {den : Den} {p pos : Pos} {e : Expr} {es : List Expr} {kws : List Keyword} {c c' : List CA} {idx : List Nat}
theorem c_call (kk : Ck tx X) (C : Cal X.prog X.w tx X.mg X.base k x st ps den) (tk : Takes X W) (hr : Room k X.A) (hg : Gl X x) (ha : PA X (e :: es) (tLC tx W c)) (hdb : (x == ("__debug__" : Str)) = false := by decide)
    (he : starEach (e :: es) X.env = (false, eval e X.env) :: starEach es X.env := by rfl) (hpl : (backTo pos (starEach es X.env)).any (·.1) = false := by rfl) : PE X (.Call (.Name x p) (e :: es) [] pos) (TCx tx W (mCall ps.length den c)) := by
  obtain ⟨f, fd, F, G, hm⟩ := C.ex
  rw [← kk.K] at F G
  exact d_call kk G tk hr hg hm F.kp (F.binds C.bd) ha hdb he hpl
theorem c_call0 (kk : Ck tx X) (C : Cal X.prog X.w tx X.mg X.base k x st ps den) (tk : Takes X W) (hr : Room k X.A) (hg : Gl X x) (hdb : (x == ("__debug__" : Str)) = false := by decide) : PE X (.Call (.Name x p) [] [] pos) (TCx tx W (mCall ps.length den [])) := by
  obtain ⟨f, fd, F, G, hm⟩ := C.ex
  rw [← kk.K] at F G
  exact d_call0 kk G tk hr hg hm F.kp (F.binds C.bd) hdb
theorem c_callK (kk : Ck tx X) (C : Cal X.prog X.w tx X.mg X.base k x st ps den) (tk : Takes X W) (hr : Room k X.A) (hg : Gl X x) (idx : List Nat) (hb : KBc x st ps c.length ks idx) (ha : PA X (e :: es) (tLC tx W c)) (hkw : PK X kws (tLC tx W c'))
    (hall : (backToKw pos (keywordEach kws X.env)).all (·.1.isSome) = true := by rfl) (hks : (backToKw pos (keywordEach kws X.env)).filterMap (·.1) = ks := by rfl)
    (hi : (idx.all (· < (c ++ c').length)) = true := by rfl) (nd : idx.Nodup := by decide) (hl : ks.length = c'.length := by rfl) (hdb : (x == ("__debug__" : Str)) = false := by decide) (he : starEach (e :: es) X.env = (false, eval e X.env) :: starEach es X.env := by rfl)
    (hpl : ((backTo pos (starEach (e :: es) X.env)).any (·.1) || (backToKw pos (keywordEach kws X.env)).any (·.1.isNone)) = false := by rfl) : PE X (.Call (.Name x p) (e :: es) kws pos) (TCx tx W (mCallK ps.length idx den (c ++ c'))) := by
  obtain ⟨f, fd, F, G, hm⟩ := C.ex
  rw [← kk.K] at F G
  exact d_callK kk G tk hr hg hm F.kp (kb_of F hb) ha hkw hall hks hi nd hl hdb he hpl
theorem c_callK0 (kk : Ck tx X) (C : Cal X.prog X.w tx X.mg X.base k x st ps den) (tk : Takes X W) (hr : Room k X.A) (hg : Gl X x) (idx : List Nat) (hb : KBc x st ps 0 ks idx) (hkw : PK X kws (tLC tx W c'))
    (hall : (backToKw pos (keywordEach kws X.env)).all (·.1.isSome) = true := by rfl) (hks : (backToKw pos (keywordEach kws X.env)).filterMap (·.1) = ks := by rfl)
    (hi : (idx.all (· < c'.length)) = true := by rfl) (nd : idx.Nodup := by decide) (hl : ks.length = c'.length := by rfl) (hdb : (x == ("__debug__" : Str)) = false := by decide)
    (hpl : ((backTo pos (starEach [] X.env)).any (·.1) || (backToKw pos (keywordEach kws X.env)).any (·.1.isNone)) = false := by rfl) : PE X (.Call (.Name x p) [] kws pos) (TCx tx W (mCallK ps.length idx den c')) := by
  obtain ⟨f, fd, F, G, hm⟩ := C.ex
  rw [← kk.K] at F G
  exact d_callK0 kk G tk hr hg hm F.kp (kb_of F hb) hkw hall hks hi nd hl hdb hpl
end

/-! ### a walk over a list, a tuple, a text -/
def chrD (x : Str) : List D := x.cps.toList.map fun c => .str ⟨#[c]⟩
def mIt (m : En → Res D) (e : En) : Res (List D) := (m e).bind fun d e' => match d with
  | .list ds => .ok ds e'
  | .tuple ds => .ok ds e'
  | .str x => .ok (chrD x) e'
  | _ => .bad
def iAny (K : PySem.W.Frag) (tl : TE) : TI := fun σ H R => tl σ H fun x H1 => (∃ a, x = .ref a ∧ (∃ xs, SqL K H1 a xs) ∧ R (Itl K a) H1) ∨ (∃ a, x = .ref a ∧ (∃ xs, SqT K H1 a xs) ∧ R (Itt K a) H1) ∨ ∃ z, x = .str z ∧ R (Its z) H1
/-- a walk that looks at its value alone -/
theorem pi_by {X : Cx} {tg l : Expr} {tl : TE} {r : V → Hp → (It → Hp → Prop) → Prop} (hl : PE X l tl)
    (hr : ∀ (pins : List (Addr × Obj)) (s : Shared) (σ : Sg) (H : Hp) (x : V) (v : Value) (R : It → Hp → Prop), Inv X pins σ H s → RelV x v → r x H R → wpAny (model X.prog X.w) X.A (pyIter v) (PIE X pins σ tg R) X.xe s) :
    PI X tg l (fun σ H R => tl σ H fun x H1 => r x H1 R) :=
  ⟨fun pins s σ H R I h => thn (hl.run pins s σ H _ I h) fun v s1 ⟨x, H1, I1, r1, q1⟩ => hr pins s1 σ H1 x v R I1 r1 q1⟩
theorem byL {X : Cx} {tg : Expr} {pins : List (Addr × Obj)} {s : Shared} {σ : Sg} {H : Hp} {v : Value} {R : It → Hp → Prop} {a : Addr} (I : Inv X pins σ H s) (hv : RelV (.ref a) v) (hq : ∃ xs, SqL X.K H a xs) (h : R (Itl X.K a) H) :
    wpAny (model X.prog X.w) X.A (pyIter v) (PIE X pins σ tg R) X.xe s := by
  cases hv
  obtain ⟨xs, hq⟩ := hq
  obtain ⟨its, _, p, _⟩ := I.list hq
  have nw : ∀ b ∈ [s.heap.objs.size], FpOk X pins H b := fun b hb => by
    rw [List.mem_singleton.mp hb]
    exact I.fpOk (Nat.le_refl _) (I.hok.fresh (Nat.le_refl _))
  exact wpAny_pyIter_list p.isList ⟨s.heap.objs.size, [s.heap.objs.size], _, _, H, rfl, I.kept (t' := s.toks) fun b o e => Heap.get?_push_of_some _ e, turn_list a _, ⟨_, Heap.get?_push_size _ rfl, rfl, rfl⟩, nw, h⟩
theorem byT {X : Cx} {tg : Expr} {pins : List (Addr × Obj)} {s : Shared} {σ : Sg} {H : Hp} {v : Value} {R : It → Hp → Prop} {a : Addr} (I : Inv X pins σ H s) (hv : RelV (.ref a) v) (hq : ∃ xs, SqT X.K H a xs) (h : R (Itt X.K a) H) :
    wpAny (model X.prog X.w) X.A (pyIter v) (PIE X pins σ tg R) X.xe s := by
  cases hv
  obtain ⟨xs, hq⟩ := hq
  obtain ⟨its, _, p, _⟩ := I.tuple hq
  have nw : ∀ b ∈ [s.heap.objs.size], FpOk X pins H b := fun b hb => by
    rw [List.mem_singleton.mp hb]
    exact I.fpOk (Nat.le_refl _) (I.hok.fresh (Nat.le_refl _))
  exact wpAny_pyIter_tuple (show s.heap.IsTuple a its.toArray from p) ⟨s.heap.objs.size, [s.heap.objs.size], _, _, H, rfl, I.kept (t' := s.toks) fun b o e => Heap.get?_push_of_some _ e, turn_tuple a _, ⟨_, Heap.get?_push_size _ rfl, rfl, rfl⟩, nw, h⟩
theorem wk_str {K : PySem.W.Frag} {F : Fz} {H : Hp} {x : Str} : Wk K F H (chrD x) (Its x) := fun F1 H1 l ok => by
  have hlen : (chrD x).length = x.cps.size := by unfold chrD; rw [List.length_map, Array.length_toList]
  refine ⟨fun i d e => ?_, fun i hi => by rw [hlen] at hi; exact hi⟩
  have hi : i < x.cps.size := by rw [← hlen]; exact (List.getElem?_eq_some_iff.mp e).1
  refine ⟨hi, fun v H' ⟨e1, c, e2, e3⟩ => ?_⟩
  subst e1 e3
  unfold chrD at e
  rw [List.getElem?_map, Array.getElem?_toList, e2] at e
  cases e
  exact ⟨F1, Gro.refl ok, .str _⟩
section
variable {tx : Tx} {X : Cx} {W : WX} {tg it a : Expr} {m : En → Res D} {A : Op}
theorem i_any (k : Ck tx X) (h : PE X it (TEx tx W m)) : PI X tg it (TIx tx W (mIt m)) :=
  pi_imp (pi_by (r := fun x H R => (∃ a, x = .ref a ∧ (∃ xs, SqL X.K H a xs) ∧ R (Itl X.K a) H) ∨ (∃ a, x = .ref a ∧ (∃ xs, SqT X.K H a xs) ∧ R (Itt X.K a) H) ∨ ∃ z, x = .str z ∧ R (Its z) H) h fun pins s σ H x v R I rv q => by
    rcases q with ⟨a, rfl, hq, q⟩ | ⟨a, rfl, hq, q⟩ | ⟨z, rfl, q⟩
    · exact byL I rv hq q
    · exact byT I rv hq q
    · obtain ⟨t, rfl⟩ := rv
      cases ha : z.cps.all (· < 128)
      · exact wpAny_pyIter_wide ha (pi_one (tk := s.toks) I _ (turn_str _ z t "str_iterator" (.inr rfl)) ⟨_, Heap.get?_push_size _ rfl, rfl, rfl⟩ q)
      · exact wpAny_pyIter_ascii ha (pi_one (tk := s.toks) I _ (turn_str _ z t "str_ascii_iterator" (.inl rfl)) ⟨_, Heap.get?_push_size _ rfl, rfl, rfl⟩ q)) fun σ H R ⟨F, e, Ab, q⟩ => by
    refine ⟨F, e, Ab, (RunAt.seq q).mono fun d F1 H1 e1 s1 A1 q v rv => ?_⟩
    cases rv with
    | lst h r => exact .inl ⟨_, rfl, ⟨_, by rw [k.K]; exact h.sq⟩, q F1 H1 .refl A1 _ (by rw [k.K]; exact wk_list h r)⟩
    | tup h r => exact .inr (.inl ⟨_, rfl, ⟨_, by rw [k.K]; exact h.sq⟩, q F1 H1 .refl A1 _ (by rw [k.K]; exact wk_tup h r)⟩)
    | str z => exact .inr (.inr ⟨z, rfl, q F1 H1 .refl A1 _ wk_str⟩)
    | _ => exact q.elim
end
end Dn

namespace K63
open PySem PySem.Spec PyProof.Rows L2 Dn
def topS (i : Nat) : Stmt := PySem.Challenge.pw_railturns_k63_whole_ways_by_lot.main.body.getD i (.Pass ⟨0, 0, 0, 0⟩)
/-! _law_rows -/
abbrev st_l_rows : Stmt := topS 27
theorem sc_l_rows : FnScope ["many", "found", "k", "longer", "left", "meets"] ["many"] (defScope st_l_rows) := ⟨rfl, rfl, rfl, by decide +kernel, rfl, by decide +kernel, by decide +kernel⟩
theorem bd_l_rows : BindC "_law_rows" st_l_rows ["many"] := fun _ _ _ _ _ _ us hl => match us, hl with | [_], _ => rfl
def lp0_l_rows : SM :=
  (sSet 3 (mOp fAdd [.o 3, .p (mPl (mLst [.p (mTup [.p (mOp fAdd [.o 4, .p (mC (.int 1))]), .p (mOp fSub [.p (mOp fAdd [.o 5, .o 2]), .o 4])]), .p (mTup [.o 4, .o 5])]))]))
def lp1_l_rows : SM :=
  (sSeq (sSet 3 (mPl (mLst [])))
  (sSeq (sFor (mIt (mVar 1)) (gTn 2 [(gN 4), (gN 5)]) lp0_l_rows)
  (sSet 1 (mVar 3))))
def b_l_rows : SM :=
  (sSeq (sSet 1 (mPl (mLst [.p (mTup [.p (mC (.int 0)), .p (mC (.int 0))])])))
  (sSeq (sFor (mRng1 (.o 0)) (gN 2) lp1_l_rows)
  (sRet (mVar 1))))
def den_l_rows : Den := denOf 5 [] 1 b_l_rows
/-! _law_take -/
abbrev st_l_take : Stmt := topS 25
theorem sc_l_take : FnScope ["urn", "many", "figure", "stir"] ["urn", "many"] (defScope st_l_take) := ⟨rfl, rfl, rfl, by decide +kernel, rfl, by decide +kernel, by decide +kernel⟩
theorem bd_l_take : BindC "_law_take" st_l_take ["urn", "many"] := fun _ _ _ _ _ _ us hl => match us, hl with | [_, _], _ => rfl
def b_l_take : SM :=
  (sSeq (sIf (mOpB fGt [.p (mOp fIx [.o 0, .p (mC (.int 0))]), .p (mC (.int 0))]) (sSeq (sAsg (gTn 2 [(gSt 0 (.p (mC (.int 0)))), (gN 2)]) (mOp fDivmod [.p (mOp fIx [.o 0, .p (mC (.int 0))]), .o 1]))
  (sRet (mVar 2)))
  sPass)
  (sSeq (sAsg (gSt 0 (.p (mC (.int 2)))) (mOp fAdd [.p (mOp fIx [.o 0, .p (mC (.int 2))]), .p (mC (.int 1))]))
  (sSeq (sSet 3 (mOp fMod [.p (mOp fInt [.p (mOp fAdd [.p (mOp fMul [.p (mOp fIx [.o 0, .p (mC (.int 1))]), .p (mC (.int 40009))]), .p (mOp fMul [.p (mC (.int 15013)), .p (mOp fIx [.o 0, .p (mC (.int 2))])])])]), .p (mC (.int 2147483629))]))
  (sSeq (sAsg (gSt 0 (.p (mC (.int 1)))) (mOp fMod [.p (mOp fInt [.p (mOp fAdd [.p (mOp fMul [.o 3, .p (mOp fAdd [.p (mOp fMod [.p (mOp fInt [.o 3]), .p (mC (.int 5003))]), .p (mC (.int 30011))])]), .p (mOp fMul [.p (mC (.int 3)), .p (mOp fIx [.o 0, .p (mC (.int 2))])])])]), .p (mC (.int 2147483629))]))
  (sRet (mOp fMod [.p (mOp fInt [.p (mOp fFDiv [.p (mOp fIx [.o 0, .p (mC (.int 1))]), .p (mC (.int 907))])]), .o 1]))))))
def den_l_take : Den := denOf 2 [0] 2 b_l_take
/-! _law_lowest -/
abbrev st_l_lowest : Stmt := topS 26
theorem sc_l_lowest : FnScope ["number", "scale", "one", "two", "turn"] ["number", "scale"] (defScope st_l_lowest) := ⟨rfl, rfl, rfl, by decide +kernel, rfl, by decide +kernel, by decide +kernel⟩
theorem bd_l_lowest : BindC "_law_lowest" st_l_lowest ["number", "scale"] := fun _ _ _ _ _ _ us hl => match us, hl with | [_, _], _ => rfl
def lp0_l_lowest : SM :=
  (sAsg (gTn 2 [(gN 2), (gN 3)]) (mIf (mOpB fGt [.o 3, .p (mC (.int 0))]) (mTup [.o 3, .p (mOp fMod [.p (mOp fInt [.o 2]), .o 3])]) (mTup [.o 2, .o 3])))
def b_l_lowest : SM :=
  (sSeq (sPar [2, 3] [.op (.p (mOp fAbs [.o 0])), .op (.o 1)])
  (sSeq (sFor (mRng1 (.p (mC (.int 60)))) (gN 4) lp0_l_lowest)
  (sRet (mTup [.p (mOp fFDiv [.o 0, .o 2]), .p (mOp fFDiv [.o 1, .o 2])]))))
def den_l_lowest : Den := denOf 3 [] 2 b_l_lowest
/-! is_whole -/
abbrev st_is_whole : Stmt := topS 6
theorem sc_is_whole : FnScope ["value"] ["value"] (defScope st_is_whole) := ⟨rfl, rfl, rfl, by decide +kernel, rfl, by decide +kernel, by decide +kernel⟩
theorem bd_is_whole : BindC "is_whole" st_is_whole ["value"] := fun _ _ _ _ _ _ us hl => match us, hl with | [_], _ => rfl
def b_is_whole : SM :=
  (sRet (mAndV (mOp (bV (fIsi "int")) [.o 0]) (mOp fNotV [.p (mOp (bV (fIsi "bool")) [.o 0])])))
def den_is_whole : Den := denOf 0 [] 1 b_is_whole
/-! is_number -/
abbrev st_is_number : Stmt := topS 7
theorem sc_is_number : FnScope ["value", "low", "high"] ["value", "low", "high"] (defScope st_is_number) := ⟨rfl, rfl, rfl, by decide +kernel, rfl, by decide +kernel, by decide +kernel⟩
theorem bd_is_number : BindC "is_number" st_is_number ["value", "low", "high"] := fun _ _ _ _ _ _ us hl => match us, hl with | [_, _, _], _ => rfl
def b_is_number : SM :=
  (sSeq (sIf (mOrB (mNotB (mTru (.p (mV (mCall 1 den_is_whole [.op (.o 0)]))))) (mAndB (mOpB fNotN [.o 1]) (mOpB fLt [.o 0, .o 1]))) (sRet (mC (.bool false)))
  sPass)
  (sRet (mOrV (mOp (bV fIsN) [.o 2]) (mOp (bV fLe) [.o 0, .o 2]))))
def den_is_number : Den := denOf 0 [] 3 b_is_number
/-! check_number -/
abbrev st_check_number : Stmt := topS 10
theorem sc_check_number : FnScope ["value", "low", "high"] ["value", "low", "high"] (defScope st_check_number) := ⟨rfl, rfl, rfl, by decide +kernel, rfl, by decide +kernel, by decide +kernel⟩
theorem bd_check_number : BindC "check_number" st_check_number ["value", "low", "high"] := fun _ _ _ _ _ _ us hl => match us, hl with | [_, _, _], _ => rfl
def b_check_number : SM :=
  (sIf (mNotB (mTru (.p (mV (mCall 3 den_is_number [.op (.o 0), .op (.o 1), .op (.o 2)]))))) (fun _ => .bad)
  sPass)
def den_check_number : Den := denOf 0 [] 3 b_check_number
/-! check_many -/
abbrev st_check_many : Stmt := topS 14
theorem sc_check_many : FnScope ["value"] ["value"] (defScope st_check_many) := ⟨rfl, rfl, rfl, by decide +kernel, rfl, by decide +kernel, by decide +kernel⟩
theorem bd_check_many : BindC "check_many" st_check_many ["value"] := fun _ _ _ _ _ _ us hl => match us, hl with | [_], _ => rfl
def b_check_many : SM :=
  (sExp (mV (mCall 3 den_check_number [.op (.o 0), .op (.p (mC (.int 1))), .op (.p (mC (.int 8)))])))
def den_check_many : Den := denOf 0 [] 1 b_check_many
/-! lowest -/
abbrev st_lowest : Stmt := topS 8
theorem sc_lowest : FnScope ["number", "scale", "shared"] ["number", "scale"] (defScope st_lowest) := ⟨rfl, rfl, rfl, by decide +kernel, rfl, by decide +kernel, by decide +kernel⟩
theorem bd_lowest : BindC "lowest" st_lowest ["number", "scale"] := fun _ _ _ _ _ _ us hl => match us, hl with | [_, _], _ => rfl
def b_lowest : SM :=
  (sSeq (sSet 2 (mOp fGcd [.o 0, .o 1]))
  (sRet (mTup [.p (mOp fFDiv [.o 0, .o 2]), .p (mOp fFDiv [.o 1, .o 2])])))
def den_lowest : Den := denOf 1 [] 2 b_lowest
/-! mean_meetings -/
abbrev st_mean_meetings : Stmt := topS 21
theorem sc_mean_meetings : FnScope ["many"] ["many"] (defScope st_mean_meetings) := ⟨rfl, rfl, rfl, by decide +kernel, rfl, by decide +kernel, by decide +kernel⟩
theorem bd_mean_meetings : BindC "mean_meetings" st_mean_meetings ["many"] := fun _ _ _ _ _ _ us hl => match us, hl with | [_], _ => rfl
def b_mean_meetings : SM :=
  (sSeq (sExp (mV (mCall 1 den_check_many [.op (.o 0)])))
  (sRet (mV (mCall 2 den_lowest [.op (.p (mOp fMul [.o 0, .p (mOp fSub [.o 0, .p (mC (.int 1))])])), .op (.p (mC (.int 8)))]))))
def den_mean_meetings : Den := denOf 0 [] 1 b_mean_meetings
/-! quotient_of -/
abbrev st_quotient_of : Stmt := topS 16
theorem sc_quotient_of : FnScope ["one", "two", "left", "found", "at", "to", "number"] ["one", "two"] (defScope st_quotient_of) := ⟨rfl, rfl, rfl, by decide +kernel, rfl, by decide +kernel, by decide +kernel⟩
theorem bd_quotient_of : BindC "quotient_of" st_quotient_of ["one", "two"] := fun _ _ _ _ _ _ us hl => match us, hl with | [_, _], _ => rfl
def lp0_quotient_of : SM :=
  (sAug 2 (.p (mOp fAdd [.o 4, .o 5])) (.p (mOp fMul [.p (mOp fIx [.o 3, .o 4]), .o 6])) (fun i j => i - j))
def lp1_quotient_of : SM :=
  (sSeq (sExp (mAppend 3 (.p (mOp fIx [.o 2, .o 4]))))
  (sFor (mEnumL (.o 1)) (gTn 2 [(gN 5), (gN 6)]) lp0_quotient_of))
def b_quotient_of : SM :=
  (sSeq (sPar [2, 3] [.fr (mOpL fListF [.o 0]), .fr (mLst [])])
  (sSeq (sFor (mRng1 (.p (mOp fAdd [.p (mOp fSub [.p (mOp fLen [.o 0]), .p (mOp fLen [.o 1])]), .p (mC (.int 1))]))) (gN 4) lp1_quotient_of)
  (sRetF (mMove 3))))
def den_quotient_of : Den := denOf 5 [] 2 b_quotient_of
/-! product_of -/
abbrev st_product_of : Stmt := topS 15
theorem sc_product_of : FnScope ["one", "two", "found", "at", "first", "to", "second"] ["one", "two"] (defScope st_product_of) := ⟨rfl, rfl, rfl, by decide +kernel, rfl, by decide +kernel, by decide +kernel⟩
theorem bd_product_of : BindC "product_of" st_product_of ["one", "two"] := fun _ _ _ _ _ _ us hl => match us, hl with | [_, _], _ => rfl
def lp0_product_of : SM :=
  (sAug 2 (.p (mOp fAdd [.o 3, .o 5])) (.p (mOp fMul [.o 4, .o 6])) (fun i j => i + j))
def lp1_product_of : SM :=
  (sFor (mEnumL (.o 1)) (gTn 2 [(gN 5), (gN 6)]) lp0_product_of)
def b_product_of : SM :=
  (sSeq (sSetF 2 (mRep (mLst [.p (mC (.int 0))]) (.p (mOp fSub [.p (mOp fAdd [.p (mOp fLen [.o 0]), .p (mOp fLen [.o 1])]), .p (mC (.int 1))]))))
  (sSeq (sFor (mEnumL (.o 0)) (gTn 2 [(gN 3), (gN 4)]) lp1_product_of)
  (sRetF (mMove 2))))
def den_product_of : Den := denOf 5 [] 2 b_product_of
/-! tops_of -/
abbrev st_tops_of : Stmt := topS 17
theorem sc_tops_of : FnScope ["number"] ["number"] (defScope st_tops_of) := ⟨rfl, rfl, rfl, by decide +kernel, rfl, by decide +kernel, by decide +kernel⟩
theorem bd_tops_of : BindC "tops_of" st_tops_of ["number"] := fun _ _ _ _ _ _ us hl => match us, hl with | [_], _ => rfl
def b_tops_of : SM :=
  (sRet (mOp fAdd [.p (mOp fAdd [.p (mPl (mLst [.p (mC (.int 1))])), .p (mPl (mRep (mLst [.p (mC (.int 0))]) (.p (mOp fSub [.o 0, .p (mC (.int 1))]))))]), .p (mPl (mLst [.p (mOp fNeg [.p (mC (.int 1))])]))]))
def den_tops_of : Den := denOf 0 [] 1 b_tops_of
/-! tally_for -/
abbrev st_tally_for : Stmt := topS 18
theorem sc_tally_for : FnScope ["many", "lefts", "found", "at"] ["many", "lefts"] (defScope st_tally_for) := ⟨rfl, rfl, rfl, by decide +kernel, rfl, by decide +kernel, by decide +kernel⟩
theorem bd_tally_for : BindC "tally_for" st_tally_for ["many", "lefts"] := fun _ _ _ _ _ _ us hl => match us, hl with | [_, _], _ => rfl
def lp0_tally_for : SM :=
  (sSet 2 (mPl (mF (mCall 2 den_quotient_of [.op (.p (mPl (mF (mCall 2 den_product_of [.op (.o 2), .op (.p (mV (mCall 1 den_tops_of [.op (.p (mOp fAdd [.p (mOp fSub [.o 0, .o 1]), .o 3]))])))])))), .op (.p (mV (mCall 1 den_tops_of [.op (.o 3)])))]))))
def b_tally_for : SM :=
  (sSeq (sSet 2 (mPl (mLst [.p (mC (.int 1))])))
  (sSeq (sFor (mRng2 (.p (mC (.int 1))) (.p (mOp fAdd [.o 1, .p (mC (.int 1))]))) (gN 3) lp0_tally_for)
  (sRet (mVar 2))))
def den_tally_for : Den := denOf 2 [] 2 b_tally_for
/-! tally_of -/
abbrev st_tally_of : Stmt := topS 19
theorem sc_tally_of : FnScope ["many", "found", "lefts", "meetings", "number"] ["many"] (defScope st_tally_of) := ⟨rfl, rfl, rfl, by decide +kernel, rfl, by decide +kernel, by decide +kernel⟩
theorem bd_tally_of : BindC "tally_of" st_tally_of ["many"] := fun _ _ _ _ _ _ us hl => match us, hl with | [_], _ => rfl
def lp0_tally_of : SM :=
  (sAug 1 (.o 3) (.o 4) (fun i j => i + j))
def lp1_tally_of : SM :=
  (sFor (mEnumL (.p (mV (mCall 2 den_tally_for [.op (.o 0), .op (.o 2)])))) (gTn 2 [(gN 3), (gN 4)]) lp0_tally_of)
def b_tally_of : SM :=
  (sSeq (sSetF 1 (mRep (mLst [.p (mC (.int 0))]) (.p (mOp fAdd [.p (mOp fFDiv [.p (mOp fMul [.o 0, .o 0]), .p (mC (.int 4))]), .p (mC (.int 1))]))))
  (sSeq (sFor (mRng1 (.p (mOp fAdd [.o 0, .p (mC (.int 1))]))) (gN 2) lp1_tally_of)
  (sRetF (mMove 1))))
def den_tally_of : Den := denOf 4 [] 1 b_tally_of
/-! meeting_tally -/
abbrev st_meeting_tally : Stmt := topS 22
theorem sc_meeting_tally : FnScope ["many"] ["many"] (defScope st_meeting_tally) := ⟨rfl, rfl, rfl, by decide +kernel, rfl, by decide +kernel, by decide +kernel⟩
theorem bd_meeting_tally : BindC "meeting_tally" st_meeting_tally ["many"] := fun _ _ _ _ _ _ us hl => match us, hl with | [_], _ => rfl
def b_meeting_tally : SM :=
  (sSeq (sExp (mV (mCall 1 den_check_many [.op (.o 0)])))
  (sRet (mOp fTuple [.p (mPl (mF (mCall 1 den_tally_of [.op (.o 0)])))])))
def den_meeting_tally : Den := denOf 0 [] 1 b_meeting_tally
/-! check_index -/
abbrev st_check_index : Stmt := topS 11
theorem sc_check_index : FnScope ["value", "many"] ["value", "many"] (defScope st_check_index) := ⟨rfl, rfl, rfl, by decide +kernel, rfl, by decide +kernel, by decide +kernel⟩
theorem bd_check_index : BindC "check_index" st_check_index ["value", "many"] := fun _ _ _ _ _ _ us hl => match us, hl with | [_, _], _ => rfl
def b_check_index : SM :=
  (sSeq (sExp (mV (mCall 3 den_check_number [.op (.o 0), .op (.p (mC (.int 0))), .op (.p (mC .none))])))
  (sIf (mOpB fGe [.o 0, .o 1]) (fun _ => .bad)
  sPass))
def den_check_index : Den := denOf 0 [] 2 b_check_index
/-! left_chance -/
abbrev st_left_chance : Stmt := topS 20
theorem sc_left_chance : FnScope ["many", "index", "ways", "lefts"] ["many", "index"] (defScope st_left_chance) := ⟨rfl, rfl, rfl, by decide +kernel, rfl, by decide +kernel, by decide +kernel⟩
theorem bd_left_chance : BindC "left_chance" st_left_chance ["many", "index"] := fun _ _ _ _ _ _ us hl => match us, hl with | [_, _], _ => rfl
def cm0_left_chance : En → Res D := (mOp fComb [.o 0, .o 3])
def b_left_chance : SM :=
  (sSeq (sExp (mV (mCall 1 den_check_many [.op (.o 0)])))
  (sSeq (sExp (mV (mCall 2 den_check_index [.op (.o 1), .op (.o 0)])))
  (sSeq (sSet 2 (mPl (mLc (mRng1 (.p (mOp fAdd [.o 0, .p (mC (.int 1))]))) [3] (gN 3) (fun e => .ok true e) cm0_left_chance)))
  (sRet (mV (mCall 2 den_lowest [.op (.p (mOp fSum [.p (mPl (mSl (.o 2) (some (.p (mOp fAdd [.o 1, .p (mC (.int 1))]))) none fSlL))])), .op (.p (mOp fSum [.o 2]))]))))))
def den_left_chance : Den := denOf 2 [] 2 b_left_chance
/-! _law_right -/
abbrev st_l_right : Stmt := topS 28
theorem sc_l_right : FnScope ["urn", "many", "rows", "meets", "mean", "tally", "told", "k", "due", "row"] ["urn"] (defScope st_l_right) := ⟨rfl, rfl, rfl, by decide +kernel, rfl, by decide +kernel, by decide +kernel⟩
theorem bd_l_right : BindC "_law_right" st_l_right ["urn"] := fun _ _ _ _ _ _ us hl => match us, hl with | [_], _ => rfl
def cm0_l_right : En → Res D := (mVar 9)
def lp1_l_right : SM :=
  (sSeq (sSet 8 (mV (mCall 2 den_l_lowest [.op (.p (mOp fLen [.p (mPl (mLc (mIt (mVar 2)) [9] (gN 9) (mOpB fGt [.p (mOp fIx [.o 9, .p (mC (.int 0))]), .o 7]) cm0_l_right))])), .op (.p (mOp fLen [.o 2]))])))
  (sIf (mOpB fNe [.p (mOp fRepr [.p (mPl (mLst [.p (mV (mCall 2 den_left_chance [.op (.o 1), .op (.o 7)])), .p (mV (mCallK 2 [1, 0] den_left_chance [.op (.o 7), .op (.o 1)]))]))]), .p (mOp fRepr [.p (mPl (mLst [.o 8, .o 8]))])]) (sRet (mC (.bool false)))
  sPass))
def cm2_l_right : En → Res D := (mMt isL fCount (.o 3) [.o 7])
def cm3_l_right : En → Res D := (mOp fIx [.o 9, .p (mC (.int 1))])
def lp4_l_right : SM :=
  (sSeq (sSet 2 (mV (mCall 1 den_l_rows [.op (.o 1)])))
  (sSeq (sSet 3 (mPl (mLc (mIt (mVar 2)) [9] (gN 9) (fun e => .ok true e) cm3_l_right)))
  (sSeq (sPar [4, 5] [.op (.p (mV (mCall 2 den_l_lowest [.op (.p (mOp fSum [.o 3])), .op (.p (mOp fLen [.o 2]))]))), .op (.p (mOp fTuple [.p (mPl (mLc (mRng1 (.p (mOp fAdd [.p (mOp fMax [.o 3]), .p (mC (.int 1))]))) [7] (gN 7) (fun e => .ok true e) cm2_l_right))]))])
  (sSeq (sSet 6 (mPl (mLst [.p (mV (mCall 1 den_mean_meetings [.op (.o 1)])), .p (mV (mCallK 1 [0] den_mean_meetings [.op (.o 1)])), .p (mV (mCall 1 den_meeting_tally [.op (.o 1)])), .p (mV (mCallK 1 [0] den_meeting_tally [.op (.o 1)]))])))
  (sSeq (sIf (mOrB (mOpB fNe [.p (mOp fRepr [.o 6]), .p (mOp fRepr [.p (mPl (mLst [.o 4, .o 4, .o 5, .o 5]))])]) (mOpB fNe [.o 4, .p (mV (mCall 2 den_l_lowest [.op (.p (mOp fMul [.o 1, .p (mOp fSub [.o 1, .p (mC (.int 1))])])), .op (.p (mC (.int 8)))]))])) (sRet (mC (.bool false)))
  sPass)
  (sFor (mRng1 (.o 1)) (gN 7) lp1_l_right))))))
def b_l_right : SM :=
  (sSeq (sFor (mIt (mTup [.p (mC (.int 1)), .p (mC (.int 8)), .p (mOp fAdd [.p (mC (.int 1)), .p (mV (mCall 2 den_l_take [.op (.o 0), .op (.p (mC (.int 8)))]))])])) (gN 1) lp4_l_right)
  (sRet (mC (.bool true))))
def den_l_right : Den := denOf 9 [0] 1 b_l_right
/-! _law_urn -/
abbrev st_l_urn : Stmt := topS 24
theorem sc_l_urn : FnScope ["script", "lap", "mixed", "cell", "own"] ["script", "lap"] (defScope st_l_urn) := ⟨rfl, rfl, rfl, by decide +kernel, rfl, by decide +kernel, by decide +kernel⟩
theorem bd_l_urn : BindC "_law_urn" st_l_urn ["script", "lap"] := fun _ _ _ _ _ _ us hl => match us, hl with | [_, _], _ => rfl
def lp0_l_urn : SM :=
  (sSet 2 (mOp fMod [.p (mOp fInt [.p (mOp fAdd [.p (mOp fAdd [.p (mOp fMul [.o 2, .p (mC (.int 50021))]), .p (mOp fMul [.p (mOp fMod [.p (mOp fInt [.o 3]), .p (mC (.int 2147483477))]), .p (mC (.int 13))])]), .p (mC (.int 41))])]), .p (mC (.int 2147483629))]))
def b_l_urn : SM :=
  (sSeq (sSet 2 (mOp fAdd [.p (mC (.int 637029)), .p (mOp fMul [.p (mC (.int 8111)), .o 1])]))
  (sSeq (sFor (mIt (mPl (mSl (.o 0) none (some (.p (mC (.int 9)))) fSlL))) (gN 3) lp0_l_urn)
  (sSeq (sSet 4 (mIf (mOpB fLt [.o 1, .p (mOp fLen [.o 0])]) (mOp fInt [.p (mOp fIx [.o 0, .o 1])]) (mC (.int 0))))
  (sSeq (sSet 2 (mOp fMod [.p (mOp fInt [.p (mOp fAdd [.p (mOp fAdd [.p (mOp fMul [.o 2, .p (mC (.int 59))]), .p (mOp fMul [.p (mOp fMod [.p (mOp fInt [.o 4]), .p (mC (.int 2147483477))]), .p (mC (.int 30029))])]), .p (mC (.int 5))])]), .p (mC (.int 2147483629))]))
  (sRetF (mLst [.p (mIf (mOrB (mOpB fLt [.o 4, .p (mC (.int 0))]) (mOpB fGe [.o 4, .p (mOp fPow [.p (mC (.int 10)), .p (mC (.int 15))])])) (mOp fAbs [.o 4]) (mC (.int 0))), .o 2, .p (mC (.int 0))]))))))
def den_l_urn : Den := denOf 3 [] 2 b_l_urn
/-! law -/
abbrev st_law : Stmt := topS 29
theorem sc_law : FnScope ["script", "lap"] ["script"] (defScope st_law) := ⟨rfl, rfl, rfl, by decide +kernel, rfl, by decide +kernel, by decide +kernel⟩
theorem bd_law : BindC "law" st_law ["script"] := fun _ _ _ _ _ _ us hl => match us, hl with | [_], _ => rfl
def cm0_law : En → Res D := (mV (mCall 1 den_l_right [.fr (mF (mCall 2 den_l_urn [.op (.o 0), .op (.o 1)]))]))
def b_law : SM :=
  (sRet (mOp (bV fAll) [.p (mPl (mLc (mRng1 (.p (mOp fMax [.p (mC (.int 1)), .p (mOp fMin [.p (mOp fLen [.o 0]), .p (mC (.int 3))])]))) [1] (gN 1) (fun e => .ok true e) cm0_law))]))
def den_law : Den := denOf 1 [] 1 b_law
section
variable {P : Program} {w : World} {tx : Tx} {mg : Str → Option Value} {base : Heap}
theorem ok_l_rows (h : Has tx.K mg "_law_rows" st_l_rows) (z_range : mg "range" = none) : Cal P w tx mg base 1 "_law_rows" st_l_rows ["many"] den_l_rows :=
  cal_of (b := b_l_rows) h bd_l_rows sc_l_rows [] fun f cdv A outer s H E gd hr => by
    have k : Ck tx (cxOf (L2.CX P w) P w tx.K mg base ["many", "found", "k", "longer", "left", "meets"] "_law_rows" (defScope st_l_rows) f cdv A outer s H E) := ⟨rfl, sc_l_rows.nd, by have := hr.un; show (A.deeper _).units + 66 < cLine; omega, gd⟩
    have tk : Takes (cxOf (L2.CX P w) P w tx.K mg base ["many", "found", "k", "longer", "left", "meets"] "_law_rows" (defScope st_l_rows) f cdv A outer s H E) (fun cls dd _ H' => E cls dd H') := takes_of rfl rfl rfl rfl
    exact (s_cons (s_set k 1 (d_pl (d_lst (a_cons (d_p (d_tup (a_cons (d_p d_int) (a_cons (d_p d_int) a_nil)))) a_nil))))
      (s_cons (s_for (passes_of rfl) rfl (i_rng1 k (by rfl) z_range (a_cons (d_o 0) a_nil)) (g_name k 2) gq_name (b := lp1_l_rows)
      (s_cons (s_set k 3 (d_pl (d_lst a_nil)))
      (s_cons (s_for (passes_of rfl) rfl (i_any k (d_var 1)) (g_tup (n := 2) k rfl (g_cons (g_name k 4) (g_cons (g_name k 5) g_nil))) (gq_tup (gq_cons gq_name (gq_cons gq_name gq_nil))) (b := lp0_l_rows)
      (s_one (s_set k 3 (d_add k (d_o 3) (d_p (d_pl (d_lst (a_cons (d_p (d_tup (a_cons (d_p (d_add k (d_o 4) (d_p d_int))) (a_cons (d_p (d_sub (d_p (d_add k (d_o 5) (d_o 2))) (d_o 4))) a_nil)))) (a_cons (d_p (d_tup (a_cons (d_o 4) (a_cons (d_o 5) a_nil)))) a_nil)))))))))
      (s_one (s_set k 1 (d_var 3))))))
      (s_one (s_ret (d_var 1)))))
theorem ok_l_take (h : Has tx.K mg "_law_take" st_l_take) (z_int : mg "int" = none) (z_divmod : mg "divmod" = none) : Cal P w tx mg base 1 "_law_take" st_l_take ["urn", "many"] den_l_take :=
  cal_of (b := b_l_take) h bd_l_take sc_l_take [0] fun f cdv A outer s H E gd hr => by
    have k : Ck tx (cxOf (L2.CX P w) P w tx.K mg base ["urn", "many", "figure", "stir"] "_law_take" (defScope st_l_take) f cdv A outer s H E) := ⟨rfl, sc_l_take.nd, by have := hr.un; show (A.deeper _).units + 66 < cLine; omega, gd⟩
    have tk : Takes (cxOf (L2.CX P w) P w tx.K mg base ["urn", "many", "figure", "stir"] "_law_take" (defScope st_l_take) f cdv A outer s H E) (fun cls dd _ H' => E cls dd H') := takes_of rfl rfl rfl rfl
    exact (s_cons (s_if (d_tc (c_gt k) (d_p (d_ix k (d_o 0) (d_p d_int))) (d_p d_int)) (s_cons (s_asg (d_callB call_divmod (vl_divmod) (by rfl) z_divmod PyProof.Rows.boot_divmod (a_cons (d_p (d_ix k (d_o 0) (d_p d_int))) (a_cons (d_o 1) a_nil))) (g_tup (n := 2) k rfl (g_cons (g_store 0 (d_p d_int)) (g_cons (g_name k 2) g_nil))) (gq_tup (gq_cons gq_st (gq_cons gq_name gq_nil))))
      (s_one (s_ret (d_var 2))))
      s_nil)
      (s_cons (s_asg (d_add k (d_p (d_ix k (d_o 0) (d_p d_int))) (d_p d_int)) (g_store 0 (d_p d_int)) gq_st)
      (s_cons (s_set k 3 (d_mod (d_p (d_callT call_int1 (vl_int) (by rfl) z_int PyProof.Rows.boot_int (a_cons (d_p (d_add k (d_p (d_mul (d_p (d_ix k (d_o 0) (d_p d_int))) (d_p d_int))) (d_p (d_mul (d_p d_int) (d_p (d_ix k (d_o 0) (d_p d_int))))))) a_nil))) (d_p d_int)))
      (s_cons (s_asg (d_mod (d_p (d_callT call_int1 (vl_int) (by rfl) z_int PyProof.Rows.boot_int (a_cons (d_p (d_add k (d_p (d_mul (d_o 3) (d_p (d_add k (d_p (d_mod (d_p (d_callT call_int1 (vl_int) (by rfl) z_int PyProof.Rows.boot_int (a_cons (d_o 3) a_nil))) (d_p d_int))) (d_p d_int))))) (d_p (d_mul (d_p d_int) (d_p (d_ix k (d_o 0) (d_p d_int))))))) a_nil))) (d_p d_int)) (g_store 0 (d_p d_int)) gq_st)
      (s_one (s_ret (d_mod (d_p (d_callT call_int1 (vl_int) (by rfl) z_int PyProof.Rows.boot_int (a_cons (d_p (d_fdiv (d_p (d_ix k (d_o 0) (d_p d_int))) (d_p d_int))) a_nil))) (d_o 1))))))))
theorem ok_l_lowest (h : Has tx.K mg "_law_lowest" st_l_lowest) (z_range : mg "range" = none) (z_int : mg "int" = none) (z_abs : mg "abs" = none) : Cal P w tx mg base 1 "_law_lowest" st_l_lowest ["number", "scale"] den_l_lowest :=
  cal_of (b := b_l_lowest) h bd_l_lowest sc_l_lowest [] fun f cdv A outer s H E gd hr => by
    have k : Ck tx (cxOf (L2.CX P w) P w tx.K mg base ["number", "scale", "one", "two", "turn"] "_law_lowest" (defScope st_l_lowest) f cdv A outer s H E) := ⟨rfl, sc_l_lowest.nd, by have := hr.un; show (A.deeper _).units + 66 < cLine; omega, gd⟩
    have tk : Takes (cxOf (L2.CX P w) P w tx.K mg base ["number", "scale", "one", "two", "turn"] "_law_lowest" (defScope st_l_lowest) f cdv A outer s H E) (fun cls dd _ H' => E cls dd H') := takes_of rfl rfl rfl rfl
    exact (s_cons (s_par2 k rfl 2 3 (ac_cons (ca_op (d_p (d_callB call_abs (vl_abs) (by rfl) z_abs PyProof.Rows.boot_abs (a_cons (d_o 0) a_nil)))) (ac_cons (ca_op (d_o 1)) ac_nil)))
      (s_cons (s_for (passes_of rfl) rfl (i_rng1 k (by rfl) z_range (a_cons (d_p d_int) a_nil)) (g_name k 4) gq_name (b := lp0_l_lowest)
      (s_one (s_asg (d_ifx (d_tc (c_gt k) (d_o 3) (d_p d_int)) (d_tup (a_cons (d_o 3) (a_cons (d_p (d_mod (d_p (d_callT call_int1 (vl_int) (by rfl) z_int PyProof.Rows.boot_int (a_cons (d_o 2) a_nil))) (d_o 3))) a_nil))) (d_tup (a_cons (d_o 2) (a_cons (d_o 3) a_nil)))) (g_tup (n := 2) k rfl (g_cons (g_name k 2) (g_cons (g_name k 3) g_nil))) (gq_tup (gq_cons gq_name (gq_cons gq_name gq_nil))))))
      (s_one (s_ret (d_tup (a_cons (d_p (d_fdiv (d_o 0) (d_o 2))) (a_cons (d_p (d_fdiv (d_o 1) (d_o 2))) a_nil)))))))
theorem ok_is_whole (h : Has tx.K mg "is_whole" st_is_whole) (z_isinstance : mg "isinstance" = none) (z_bool : mg "bool" = none) (z_int : mg "int" = none) : Cal P w tx mg base 1 "is_whole" st_is_whole ["value"] den_is_whole :=
  cal_of (b := b_is_whole) h bd_is_whole sc_is_whole [] fun f cdv A outer s H E gd hr => by
    have k : Ck tx (cxOf (L2.CX P w) P w tx.K mg base ["value"] "is_whole" (defScope st_is_whole) f cdv A outer s H E) := ⟨rfl, sc_is_whole.nd, by have := hr.un; show (A.deeper _).units + 66 < cLine; omega, gd⟩
    have tk : Takes (cxOf (L2.CX P w) P w tx.K mg base ["value"] "is_whole" (defScope st_is_whole) f cdv A outer s H E) (fun cls dd _ H' => E cls dd H') := takes_of rfl rfl rfl rfl
    exact (s_one (s_ret (d_and (d_isi k (d_o 0) (by rfl) z_isinstance (by rfl) z_int PyProof.Rows.boot_int) (d_one (d_not k (d_p (d_isi k (d_o 0) (by rfl) z_isinstance (by rfl) z_bool PyProof.Rows.boot_bool)))))))
theorem ok_is_number (h : Has tx.K mg "is_number" st_is_number) (C_is_whole : Cal P w tx mg base 1 "is_whole" st_is_whole ["value"] den_is_whole) : Cal P w tx mg base 2 "is_number" st_is_number ["value", "low", "high"] den_is_number :=
  cal_of (b := b_is_number) h bd_is_number sc_is_number [] fun f cdv A outer s H E gd hr => by
    have k : Ck tx (cxOf (L2.CX P w) P w tx.K mg base ["value", "low", "high"] "is_number" (defScope st_is_number) f cdv A outer s H E) := ⟨rfl, sc_is_number.nd, by have := hr.un; show (A.deeper _).units + 66 < cLine; omega, gd⟩
    have tk : Takes (cxOf (L2.CX P w) P w tx.K mg base ["value", "low", "high"] "is_number" (defScope st_is_number) f cdv A outer s H E) (fun cls dd _ H' => E cls dd H') := takes_of rfl rfl rfl rfl
    exact (s_cons (s_if (PW.pt (d_tor (d_tnot (d_tru k (d_p (d_cv (c_call k C_is_whole tk (hr.mono (by decide)) (by rfl) (ac_cons (ca_op (d_o 0)) ac_nil)))))) (d_tor1 (PW.pt (d_tand (d_tnotN (d_o 1)) (d_tand1 (d_tc (c_lt k) (d_o 0) (d_o 1)))))))) (s_one (s_ret d_bl))
      s_nil)
      (s_one (s_ret (d_or (d_isN (d_o 2)) (d_one (d_vcmp (c_le k) (d_o 0) (d_o 2)))))))
theorem ok_check_number (h : Has tx.K mg "check_number" st_check_number) (C_is_number : Cal P w tx mg base 2 "is_number" st_is_number ["value", "low", "high"] den_is_number) : Cal P w tx mg base 3 "check_number" st_check_number ["value", "low", "high"] den_check_number :=
  cal_of (b := b_check_number) h bd_check_number sc_check_number [] fun f cdv A outer s H E gd hr => by
    have k : Ck tx (cxOf (L2.CX P w) P w tx.K mg base ["value", "low", "high"] "check_number" (defScope st_check_number) f cdv A outer s H E) := ⟨rfl, sc_check_number.nd, by have := hr.un; show (A.deeper _).units + 66 < cLine; omega, gd⟩
    have tk : Takes (cxOf (L2.CX P w) P w tx.K mg base ["value", "low", "high"] "check_number" (defScope st_check_number) f cdv A outer s H E) (fun cls dd _ H' => E cls dd H') := takes_of rfl rfl rfl rfl
    exact (s_one (s_if (d_tnot (d_tru k (d_p (d_cv (c_call k C_is_number tk (hr.mono (by decide)) (by rfl) (ac_cons (ca_op (d_o 0)) (ac_cons (ca_op (d_o 1)) (ac_cons (ca_op (d_o 2)) ac_nil)))))))) (s_one (s_never _))
      s_nil))
theorem ok_check_many (h : Has tx.K mg "check_many" st_check_many) (C_check_number : Cal P w tx mg base 3 "check_number" st_check_number ["value", "low", "high"] den_check_number) {t_MOST_MANY : Tok} (c_MOST_MANY : mg "MOST_MANY" = some (.int 8 t_MOST_MANY)) : Cal P w tx mg base 4 "check_many" st_check_many ["value"] den_check_many :=
  cal_of (b := b_check_many) h bd_check_many sc_check_many [] fun f cdv A outer s H E gd hr => by
    have k : Ck tx (cxOf (L2.CX P w) P w tx.K mg base ["value"] "check_many" (defScope st_check_many) f cdv A outer s H E) := ⟨rfl, sc_check_many.nd, by have := hr.un; show (A.deeper _).units + 66 < cLine; omega, gd⟩
    have tk : Takes (cxOf (L2.CX P w) P w tx.K mg base ["value"] "check_many" (defScope st_check_many) f cdv A outer s H E) (fun cls dd _ H' => E cls dd H') := takes_of rfl rfl rfl rfl
    exact (s_one (s_exp (d_cv (c_call k C_check_number tk (hr.mono (by decide)) (by rfl) (ac_cons (ca_op (d_o 0)) (ac_cons (ca_op (d_p d_int)) (ac_cons (ca_op (d_p (d_gint (by rfl) c_MOST_MANY ⟨_, rfl⟩))) ac_nil)))))))
theorem ok_lowest (h : Has tx.K mg "lowest" st_lowest) (c_gcd : mg "gcd" = some (.builtin "math.gcd")) : Cal P w tx mg base 1 "lowest" st_lowest ["number", "scale"] den_lowest :=
  cal_of (b := b_lowest) h bd_lowest sc_lowest [] fun f cdv A outer s H E gd hr => by
    have k : Ck tx (cxOf (L2.CX P w) P w tx.K mg base ["number", "scale", "shared"] "lowest" (defScope st_lowest) f cdv A outer s H E) := ⟨rfl, sc_lowest.nd, by have := hr.un; show (A.deeper _).units + 66 < cLine; omega, gd⟩
    have tk : Takes (cxOf (L2.CX P w) P w tx.K mg base ["number", "scale", "shared"] "lowest" (defScope st_lowest) f cdv A outer s H E) (fun cls dd _ H' => E cls dd H') := takes_of rfl rfl rfl rfl
    exact (s_cons (s_set k 2 (d_callM cr_gcd vl_gcd (by rfl) c_gcd (a_cons (d_o 0) (a_cons (d_o 1) a_nil))))
      (s_one (s_ret (d_tup (a_cons (d_p (d_fdiv (d_o 0) (d_o 2))) (a_cons (d_p (d_fdiv (d_o 1) (d_o 2))) a_nil))))))
theorem ok_mean_meetings (h : Has tx.K mg "mean_meetings" st_mean_meetings) (C_lowest : Cal P w tx mg base 1 "lowest" st_lowest ["number", "scale"] den_lowest) (C_check_many : Cal P w tx mg base 4 "check_many" st_check_many ["value"] den_check_many) : Cal P w tx mg base 5 "mean_meetings" st_mean_meetings ["many"] den_mean_meetings :=
  cal_of (b := b_mean_meetings) h bd_mean_meetings sc_mean_meetings [] fun f cdv A outer s H E gd hr => by
    have k : Ck tx (cxOf (L2.CX P w) P w tx.K mg base ["many"] "mean_meetings" (defScope st_mean_meetings) f cdv A outer s H E) := ⟨rfl, sc_mean_meetings.nd, by have := hr.un; show (A.deeper _).units + 66 < cLine; omega, gd⟩
    have tk : Takes (cxOf (L2.CX P w) P w tx.K mg base ["many"] "mean_meetings" (defScope st_mean_meetings) f cdv A outer s H E) (fun cls dd _ H' => E cls dd H') := takes_of rfl rfl rfl rfl
    exact (s_cons (s_exp (d_cv (c_call k C_check_many tk (hr.mono (by decide)) (by rfl) (ac_cons (ca_op (d_o 0)) ac_nil))))
      (s_one (s_ret (d_cv (c_call k C_lowest tk (hr.mono (by decide)) (by rfl) (ac_cons (ca_op (d_p (d_mul (d_o 0) (d_p (d_sub (d_o 0) (d_p d_int)))))) (ac_cons (ca_op (d_p d_int)) ac_nil)))))))
theorem ok_quotient_of (h : Has tx.K mg "quotient_of" st_quotient_of) (z_range : mg "range" = none) (z_len : mg "len" = none) (z_enumerate : mg "enumerate" = none) (z_list : mg "list" = none) : Cal P w tx mg base 1 "quotient_of" st_quotient_of ["one", "two"] den_quotient_of :=
  cal_of (b := b_quotient_of) h bd_quotient_of sc_quotient_of [] fun f cdv A outer s H E gd hr => by
    have k : Ck tx (cxOf (L2.CX P w) P w tx.K mg base ["one", "two", "left", "found", "at", "to", "number"] "quotient_of" (defScope st_quotient_of) f cdv A outer s H E) := ⟨rfl, sc_quotient_of.nd, by have := hr.un; show (A.deeper _).units + 66 < cLine; omega, gd⟩
    have tk : Takes (cxOf (L2.CX P w) P w tx.K mg base ["one", "two", "left", "found", "at", "to", "number"] "quotient_of" (defScope st_quotient_of) f cdv A outer s H E) (fun cls dd _ H' => E cls dd H') := takes_of rfl rfl rfl rfl
    exact (s_cons (s_par2 k rfl 2 3 (ac_cons (ca_fr (d_callTF call_list_of (vf_list k.K) (by rfl) z_list PyProof.Rows.boot_list (a_cons (d_o 0) a_nil))) (ac_cons (ca_fr (d_lst a_nil)) ac_nil)))
      (s_cons (s_for (passes_of rfl) rfl (i_rng1 k (by rfl) z_range (a_cons (d_p (d_add k (d_p (d_sub (d_p (d_callB call_len (vl_len k.K) (by rfl) z_len PySem.boot_len (a_cons (d_o 0) a_nil))) (d_p (d_callB call_len (vl_len k.K) (by rfl) z_len PySem.boot_len (a_cons (d_o 1) a_nil))))) (d_p d_int))) a_nil)) (g_name k 4) gq_name (b := lp1_quotient_of)
      (s_cons (s_exp (d_append k 3 (d_p (d_ix k (d_o 2) (d_o 4)))))
      (s_one (s_for (passes_of rfl) rfl (i_enumL k (by rfl) z_enumerate (a_cons (d_o 1) a_nil)) (g_tup (n := 2) k rfl (g_cons (g_name k 5) (g_cons (g_name k 6) g_nil))) (gq_tup (gq_cons gq_name (gq_cons gq_name gq_nil))) (b := lp0_quotient_of)
      (s_one (s_augS 2 ip_sub (d_p (d_add k (d_o 4) (d_o 5))) (d_p (d_mul (d_p (d_ix k (d_o 3) (d_o 4))) (d_o 6))) k.K))))))
      (s_one (s_retF (d_move 3)))))
theorem ok_product_of (h : Has tx.K mg "product_of" st_product_of) (z_enumerate : mg "enumerate" = none) (z_len : mg "len" = none) : Cal P w tx mg base 1 "product_of" st_product_of ["one", "two"] den_product_of :=
  cal_of (b := b_product_of) h bd_product_of sc_product_of [] fun f cdv A outer s H E gd hr => by
    have k : Ck tx (cxOf (L2.CX P w) P w tx.K mg base ["one", "two", "found", "at", "first", "to", "second"] "product_of" (defScope st_product_of) f cdv A outer s H E) := ⟨rfl, sc_product_of.nd, by have := hr.un; show (A.deeper _).units + 66 < cLine; omega, gd⟩
    have tk : Takes (cxOf (L2.CX P w) P w tx.K mg base ["one", "two", "found", "at", "first", "to", "second"] "product_of" (defScope st_product_of) f cdv A outer s H E) (fun cls dd _ H' => E cls dd H') := takes_of rfl rfl rfl rfl
    exact (s_cons (s_setF k 2 (d_rep (d_lst (a_cons (d_p d_int) a_nil)) (d_p (d_sub (d_p (d_add k (d_p (d_callB call_len (vl_len k.K) (by rfl) z_len PySem.boot_len (a_cons (d_o 0) a_nil))) (d_p (d_callB call_len (vl_len k.K) (by rfl) z_len PySem.boot_len (a_cons (d_o 1) a_nil))))) (d_p d_int)))))
      (s_cons (s_for (passes_of rfl) rfl (i_enumL k (by rfl) z_enumerate (a_cons (d_o 0) a_nil)) (g_tup (n := 2) k rfl (g_cons (g_name k 3) (g_cons (g_name k 4) g_nil))) (gq_tup (gq_cons gq_name (gq_cons gq_name gq_nil))) (b := lp1_product_of)
      (s_one (s_for (passes_of rfl) rfl (i_enumL k (by rfl) z_enumerate (a_cons (d_o 1) a_nil)) (g_tup (n := 2) k rfl (g_cons (g_name k 5) (g_cons (g_name k 6) g_nil))) (gq_tup (gq_cons gq_name (gq_cons gq_name gq_nil))) (b := lp0_product_of)
      (s_one (s_augS 2 ip_add (d_p (d_add k (d_o 3) (d_o 5))) (d_p (d_mul (d_o 4) (d_o 6))) k.K)))))
      (s_one (s_retF (d_move 2)))))
theorem ok_tops_of (h : Has tx.K mg "tops_of" st_tops_of)  : Cal P w tx mg base 1 "tops_of" st_tops_of ["number"] den_tops_of :=
  cal_of (b := b_tops_of) h bd_tops_of sc_tops_of [] fun f cdv A outer s H E gd hr => by
    have k : Ck tx (cxOf (L2.CX P w) P w tx.K mg base ["number"] "tops_of" (defScope st_tops_of) f cdv A outer s H E) := ⟨rfl, sc_tops_of.nd, by have := hr.un; show (A.deeper _).units + 66 < cLine; omega, gd⟩
    have tk : Takes (cxOf (L2.CX P w) P w tx.K mg base ["number"] "tops_of" (defScope st_tops_of) f cdv A outer s H E) (fun cls dd _ H' => E cls dd H') := takes_of rfl rfl rfl rfl
    exact (s_one (s_ret (d_add k (d_p (d_add k (d_p (d_pl (d_lst (a_cons (d_p d_int) a_nil)))) (d_p (d_pl (d_rep (d_lst (a_cons (d_p d_int) a_nil)) (d_p (d_sub (d_o 0) (d_p d_int)))))))) (d_p (d_pl (d_lst (a_cons (d_p (d_neg (d_p d_int))) a_nil)))))))
theorem ok_tally_for (h : Has tx.K mg "tally_for" st_tally_for) (C_quotient_of : Cal P w tx mg base 1 "quotient_of" st_quotient_of ["one", "two"] den_quotient_of) (C_product_of : Cal P w tx mg base 1 "product_of" st_product_of ["one", "two"] den_product_of) (C_tops_of : Cal P w tx mg base 1 "tops_of" st_tops_of ["number"] den_tops_of) (z_range : mg "range" = none) : Cal P w tx mg base 2 "tally_for" st_tally_for ["many", "lefts"] den_tally_for :=
  cal_of (b := b_tally_for) h bd_tally_for sc_tally_for [] fun f cdv A outer s H E gd hr => by
    have k : Ck tx (cxOf (L2.CX P w) P w tx.K mg base ["many", "lefts", "found", "at"] "tally_for" (defScope st_tally_for) f cdv A outer s H E) := ⟨rfl, sc_tally_for.nd, by have := hr.un; show (A.deeper _).units + 66 < cLine; omega, gd⟩
    have tk : Takes (cxOf (L2.CX P w) P w tx.K mg base ["many", "lefts", "found", "at"] "tally_for" (defScope st_tally_for) f cdv A outer s H E) (fun cls dd _ H' => E cls dd H') := takes_of rfl rfl rfl rfl
    exact (s_cons (s_set k 2 (d_pl (d_lst (a_cons (d_p d_int) a_nil))))
      (s_cons (s_for (passes_of rfl) rfl (i_rng2 k (by rfl) z_range (a_cons (d_p d_int) (a_cons (d_p (d_add k (d_o 1) (d_p d_int))) a_nil))) (g_name k 3) gq_name (b := lp0_tally_for)
      (s_one (s_set k 2 (d_pl (d_cf (c_call k C_quotient_of tk (hr.mono (by decide)) (by rfl) (ac_cons (ca_op (d_p (d_pl (d_cf (c_call k C_product_of tk (hr.mono (by decide)) (by rfl) (ac_cons (ca_op (d_o 2)) (ac_cons (ca_op (d_p (d_cv (c_call k C_tops_of tk (hr.mono (by decide)) (by rfl) (ac_cons (ca_op (d_p (d_add k (d_p (d_sub (d_o 0) (d_o 1))) (d_o 3)))) ac_nil))))) ac_nil))))))) (ac_cons (ca_op (d_p (d_cv (c_call k C_tops_of tk (hr.mono (by decide)) (by rfl) (ac_cons (ca_op (d_o 3)) ac_nil))))) ac_nil))))))))
      (s_one (s_ret (d_var 2)))))
theorem ok_tally_of (h : Has tx.K mg "tally_of" st_tally_of) (C_tally_for : Cal P w tx mg base 2 "tally_for" st_tally_for ["many", "lefts"] den_tally_for) (z_range : mg "range" = none) (z_enumerate : mg "enumerate" = none) : Cal P w tx mg base 3 "tally_of" st_tally_of ["many"] den_tally_of :=
  cal_of (b := b_tally_of) h bd_tally_of sc_tally_of [] fun f cdv A outer s H E gd hr => by
    have k : Ck tx (cxOf (L2.CX P w) P w tx.K mg base ["many", "found", "lefts", "meetings", "number"] "tally_of" (defScope st_tally_of) f cdv A outer s H E) := ⟨rfl, sc_tally_of.nd, by have := hr.un; show (A.deeper _).units + 66 < cLine; omega, gd⟩
    have tk : Takes (cxOf (L2.CX P w) P w tx.K mg base ["many", "found", "lefts", "meetings", "number"] "tally_of" (defScope st_tally_of) f cdv A outer s H E) (fun cls dd _ H' => E cls dd H') := takes_of rfl rfl rfl rfl
    exact (s_cons (s_setF k 1 (d_rep (d_lst (a_cons (d_p d_int) a_nil)) (d_p (d_add k (d_p (d_fdiv (d_p (d_mul (d_o 0) (d_o 0))) (d_p d_int))) (d_p d_int)))))
      (s_cons (s_for (passes_of rfl) rfl (i_rng1 k (by rfl) z_range (a_cons (d_p (d_add k (d_o 0) (d_p d_int))) a_nil)) (g_name k 2) gq_name (b := lp1_tally_of)
      (s_one (s_for (passes_of rfl) rfl (i_enumL k (by rfl) z_enumerate (a_cons (d_p (d_cv (c_call k C_tally_for tk (hr.mono (by decide)) (by rfl) (ac_cons (ca_op (d_o 0)) (ac_cons (ca_op (d_o 2)) ac_nil))))) a_nil)) (g_tup (n := 2) k rfl (g_cons (g_name k 3) (g_cons (g_name k 4) g_nil))) (gq_tup (gq_cons gq_name (gq_cons gq_name gq_nil))) (b := lp0_tally_of)
      (s_one (s_augS 1 ip_add (d_o 3) (d_o 4) k.K)))))
      (s_one (s_retF (d_move 1)))))
theorem ok_meeting_tally (h : Has tx.K mg "meeting_tally" st_meeting_tally) (C_tally_of : Cal P w tx mg base 3 "tally_of" st_tally_of ["many"] den_tally_of) (C_check_many : Cal P w tx mg base 4 "check_many" st_check_many ["value"] den_check_many) (z_tuple : mg "tuple" = none) : Cal P w tx mg base 5 "meeting_tally" st_meeting_tally ["many"] den_meeting_tally :=
  cal_of (b := b_meeting_tally) h bd_meeting_tally sc_meeting_tally [] fun f cdv A outer s H E gd hr => by
    have k : Ck tx (cxOf (L2.CX P w) P w tx.K mg base ["many"] "meeting_tally" (defScope st_meeting_tally) f cdv A outer s H E) := ⟨rfl, sc_meeting_tally.nd, by have := hr.un; show (A.deeper _).units + 66 < cLine; omega, gd⟩
    have tk : Takes (cxOf (L2.CX P w) P w tx.K mg base ["many"] "meeting_tally" (defScope st_meeting_tally) f cdv A outer s H E) (fun cls dd _ H' => E cls dd H') := takes_of rfl rfl rfl rfl
    exact (s_cons (s_exp (d_cv (c_call k C_check_many tk (hr.mono (by decide)) (by rfl) (ac_cons (ca_op (d_o 0)) ac_nil))))
      (s_one (s_ret (d_callT call_tuple_of (vl_tuple k.K) (by rfl) z_tuple PyProof.Rows.boot_tuple (a_cons (d_p (d_pl (d_cf (c_call k C_tally_of tk (hr.mono (by decide)) (by rfl) (ac_cons (ca_op (d_o 0)) ac_nil))))) a_nil)))))
theorem ok_check_index (h : Has tx.K mg "check_index" st_check_index) (C_check_number : Cal P w tx mg base 3 "check_number" st_check_number ["value", "low", "high"] den_check_number) : Cal P w tx mg base 4 "check_index" st_check_index ["value", "many"] den_check_index :=
  cal_of (b := b_check_index) h bd_check_index sc_check_index [] fun f cdv A outer s H E gd hr => by
    have k : Ck tx (cxOf (L2.CX P w) P w tx.K mg base ["value", "many"] "check_index" (defScope st_check_index) f cdv A outer s H E) := ⟨rfl, sc_check_index.nd, by have := hr.un; show (A.deeper _).units + 66 < cLine; omega, gd⟩
    have tk : Takes (cxOf (L2.CX P w) P w tx.K mg base ["value", "many"] "check_index" (defScope st_check_index) f cdv A outer s H E) (fun cls dd _ H' => E cls dd H') := takes_of rfl rfl rfl rfl
    exact (s_cons (s_exp (d_cv (c_call k C_check_number tk (hr.mono (by decide)) (by rfl) (ac_cons (ca_op (d_o 0)) (ac_cons (ca_op (d_p d_int)) (ac_cons (ca_op (d_p d_non)) ac_nil))))))
      (s_one (s_if (d_tc (c_ge k) (d_o 0) (d_o 1)) (s_one (s_never _))
      s_nil)))
theorem ok_left_chance (h : Has tx.K mg "left_chance" st_left_chance) (C_lowest : Cal P w tx mg base 1 "lowest" st_lowest ["number", "scale"] den_lowest) (C_check_index : Cal P w tx mg base 4 "check_index" st_check_index ["value", "many"] den_check_index) (C_check_many : Cal P w tx mg base 4 "check_many" st_check_many ["value"] den_check_many) (z_sum : mg "sum" = none) (z_range : mg "range" = none) (c_comb : mg "comb" = some (.builtin "math.comb")) : Cal P w tx mg base 5 "left_chance" st_left_chance ["many", "index"] den_left_chance :=
  cal_of (b := b_left_chance) h bd_left_chance sc_left_chance [] fun f cdv A outer s H E gd hr => by
    have k : Ck tx (cxOf (L2.CX P w) P w tx.K mg base ["many", "index", "ways", "lefts"] "left_chance" (defScope st_left_chance) f cdv A outer s H E) := ⟨rfl, sc_left_chance.nd, by have := hr.un; show (A.deeper _).units + 66 < cLine; omega, gd⟩
    have tk : Takes (cxOf (L2.CX P w) P w tx.K mg base ["many", "index", "ways", "lefts"] "left_chance" (defScope st_left_chance) f cdv A outer s H E) (fun cls dd _ H' => E cls dd H') := takes_of rfl rfl rfl rfl
    exact (s_cons (s_exp (d_cv (c_call k C_check_many tk (hr.mono (by decide)) (by rfl) (ac_cons (ca_op (d_o 0)) ac_nil))))
      (s_cons (s_exp (d_cv (c_call k C_check_index tk (hr.mono (by decide)) (by rfl) (ac_cons (ca_op (d_o 1)) (ac_cons (ca_op (d_o 0)) ac_nil)))))
      (s_cons (s_setPl (i := 2) (p_lc (m := cm0_left_chance) (n := 4) (own := [("lefts", 3)]) k rfl (by rfl) (by rfl) (sw_true rfl (by rfl) (by rfl) (by rfl)) (i_rng1 k (by rfl) z_range (a_cons (d_p (d_add k (d_o 0) (d_p d_int))) a_nil)) (blkOk_by (by rfl)) (fun s H C cl fp => (g_name k.blk 3)) (fun s H C cl fp => ts_nil) (fun s H C cl fp => (d_callM cr_comb vl_comb (by rfl) c_comb (a_cons (d_o 0) (a_cons (d_o 3) a_nil))))) (by decide) (fun σ H Q hl h => t_lc (n := 4) hl h))
      (s_one (s_ret (d_cv (c_call k C_lowest tk (hr.mono (by decide)) (by rfl) (ac_cons (ca_op (d_p (d_callB (cr_sum rfl) (vl_sum k.K) (by rfl) z_sum PyProof.Rows.boot_sum (a_cons (d_p (d_pl (d_slL k (d_o 2) (po_s (d_p (d_add k (d_o 1) (d_p d_int)))) po_n))) a_nil)))) (ac_cons (ca_op (d_p (d_callB (cr_sum rfl) (vl_sum k.K) (by rfl) z_sum PyProof.Rows.boot_sum (a_cons (d_o 2) a_nil)))) ac_nil)))))))))
theorem ok_l_right (h : Has tx.K mg "_law_right" st_l_right) (C_l_take : Cal P w tx mg base 1 "_law_take" st_l_take ["urn", "many"] den_l_take) (C_left_chance : Cal P w tx mg base 5 "left_chance" st_left_chance ["many", "index"] den_left_chance) (C_l_lowest : Cal P w tx mg base 1 "_law_lowest" st_l_lowest ["number", "scale"] den_l_lowest) (C_meeting_tally : Cal P w tx mg base 5 "meeting_tally" st_meeting_tally ["many"] den_meeting_tally) (C_mean_meetings : Cal P w tx mg base 5 "mean_meetings" st_mean_meetings ["many"] den_mean_meetings) (C_l_rows : Cal P w tx mg base 1 "_law_rows" st_l_rows ["many"] den_l_rows) (z_range : mg "range" = none) (z_repr : mg "repr" = none) (z_len : mg "len" = none) (z_tuple : mg "tuple" = none) (z_max : mg "max" = none) (z_sum : mg "sum" = none) : Cal P w tx mg base 6 "_law_right" st_l_right ["urn"] den_l_right :=
  cal_of (b := b_l_right) h bd_l_right sc_l_right [0] fun f cdv A outer s H E gd hr => by
    have k : Ck tx (cxOf (L2.CX P w) P w tx.K mg base ["urn", "many", "rows", "meets", "mean", "tally", "told", "k", "due", "row"] "_law_right" (defScope st_l_right) f cdv A outer s H E) := ⟨rfl, sc_l_right.nd, by have := hr.un; show (A.deeper _).units + 66 < cLine; omega, gd⟩
    have tk : Takes (cxOf (L2.CX P w) P w tx.K mg base ["urn", "many", "rows", "meets", "mean", "tally", "told", "k", "due", "row"] "_law_right" (defScope st_l_right) f cdv A outer s H E) (fun cls dd _ H' => E cls dd H') := takes_of rfl rfl rfl rfl
    exact (s_cons (s_for (passes_of rfl) rfl (i_any k (d_tup (a_cons (d_p d_int) (a_cons (d_p d_int) (a_cons (d_p (d_add k (d_p d_int) (d_p (d_cv (c_call k C_l_take tk (hr.mono (by decide)) (by rfl) (ac_cons (ca_op (d_o 0)) (ac_cons (ca_op (d_p d_int)) ac_nil))))))) a_nil))))) (g_name k 1) gq_name (b := lp4_l_right)
      (s_cons (s_set k 2 (d_cv (c_call k C_l_rows tk (hr.mono (by decide)) (by rfl) (ac_cons (ca_op (d_o 1)) ac_nil))))
      (s_cons (s_set k 3 (d_pl (d_lc k rfl (m := cm3_l_right) (n := 10) (own := [("row", 9)]) rfl rfl (i_any k (d_var 2)) (blkOk_by (by rfl)) (fun s H C cl fp => (g_name k.blk 9)) (fun s H C cl fp => ts_nil) (fun s H C cl fp => (d_ix k.blk (d_o 9) (d_p d_int))))))
      (s_cons (s_par2 k rfl 4 5 (ac_cons (ca_op (d_p (d_cv (c_call k C_l_lowest tk (hr.mono (by decide)) (by rfl) (ac_cons (ca_op (d_p (d_callB (cr_sum rfl) (vl_sum k.K) (by rfl) z_sum PyProof.Rows.boot_sum (a_cons (d_o 3) a_nil)))) (ac_cons (ca_op (d_p (d_callB call_len (vl_len k.K) (by rfl) z_len PySem.boot_len (a_cons (d_o 2) a_nil)))) ac_nil)))))) (ac_cons (ca_op (d_p (d_callT call_tuple_of (vl_tuple k.K) (by rfl) z_tuple PyProof.Rows.boot_tuple (a_cons (d_p (d_pl (d_lc k rfl (m := cm2_l_right) (n := 10) (own := [("k", 7)]) rfl rfl (i_rng1 k (by rfl) z_range (a_cons (d_p (d_add k (d_p (d_callB (cr_maxD rfl) (vl_max k.K) (by rfl) z_max PyProof.Rows.boot_max (a_cons (d_o 3) a_nil))) (d_p d_int))) a_nil)) (blkOk_by (by rfl)) (fun s H C cl fp => (g_name k.blk 7)) (fun s H C cl fp => ts_nil) (fun s H C cl fp => (d_count k.blk (d_o 3) (d_o 7)))))) a_nil)))) ac_nil)))
      (s_cons (s_set k 6 (d_pl (d_lst (a_cons (d_p (d_cv (c_call k C_mean_meetings tk (hr.mono (by decide)) (by rfl) (ac_cons (ca_op (d_o 1)) ac_nil)))) (a_cons (d_p (d_cv (c_callK0 (ks := ["many"]) k C_mean_meetings tk (hr.mono (by decide)) (by rfl) [0] (fun _ _ _ _ _ _ us ws h1 h2 => match us, ws, h1, h2 with | [], [_], _, _ => rfl) (kc_cons (ca_op (d_o 1)) kc_nil)))) (a_cons (d_p (d_cv (c_call k C_meeting_tally tk (hr.mono (by decide)) (by rfl) (ac_cons (ca_op (d_o 1)) ac_nil)))) (a_cons (d_p (d_cv (c_callK0 (ks := ["many"]) k C_meeting_tally tk (hr.mono (by decide)) (by rfl) [0] (fun _ _ _ _ _ _ us ws h1 h2 => match us, ws, h1, h2 with | [], [_], _, _ => rfl) (kc_cons (ca_op (d_o 1)) kc_nil)))) a_nil)))))))
      (s_cons (s_if (PW.pt (d_tor (d_tc (c_ne k) (d_p (d_callB (cr_repr k) (vl_repr k.K) (by rfl) z_repr PyProof.Rows.boot_repr (a_cons (d_o 6) a_nil))) (d_p (d_callB (cr_repr k) (vl_repr k.K) (by rfl) z_repr PyProof.Rows.boot_repr (a_cons (d_p (d_pl (d_lst (a_cons (d_o 4) (a_cons (d_o 4) (a_cons (d_o 5) (a_cons (d_o 5) a_nil))))))) a_nil)))) (d_tor1 (d_tc (c_ne k) (d_o 4) (d_p (d_cv (c_call k C_l_lowest tk (hr.mono (by decide)) (by rfl) (ac_cons (ca_op (d_p (d_mul (d_o 1) (d_p (d_sub (d_o 1) (d_p d_int)))))) (ac_cons (ca_op (d_p d_int)) ac_nil))))))))) (s_one (s_ret d_bl))
      s_nil)
      (s_one (s_for (passes_of rfl) rfl (i_rng1 k (by rfl) z_range (a_cons (d_o 1) a_nil)) (g_name k 7) gq_name (b := lp1_l_right)
      (s_cons (s_set k 8 (d_cv (c_call k C_l_lowest tk (hr.mono (by decide)) (by rfl) (ac_cons (ca_op (d_p (d_callB call_len (vl_len k.K) (by rfl) z_len PySem.boot_len (a_cons (d_p (d_pl (d_lc k rfl (m := cm0_l_right) (n := 10) (own := [("row", 9)]) rfl rfl (i_any k (d_var 2)) (blkOk_by (by rfl)) (fun s H C cl fp => (g_name k.blk 9)) (fun s H C cl fp => (ts_one (d_tc (c_gt k.blk) (d_p (d_ix k.blk (d_o 9) (d_p d_int))) (d_o 7)))) (fun s H C cl fp => (d_var 9))))) a_nil)))) (ac_cons (ca_op (d_p (d_callB call_len (vl_len k.K) (by rfl) z_len PySem.boot_len (a_cons (d_o 2) a_nil)))) ac_nil)))))
      (s_one (s_if (d_tc (c_ne k) (d_p (d_callB (cr_repr k) (vl_repr k.K) (by rfl) z_repr PyProof.Rows.boot_repr (a_cons (d_p (d_pl (d_lst (a_cons (d_p (d_cv (c_call k C_left_chance tk (hr.mono (by decide)) (by rfl) (ac_cons (ca_op (d_o 1)) (ac_cons (ca_op (d_o 7)) ac_nil))))) (a_cons (d_p (d_cv (c_callK0 (ks := ["index", "many"]) k C_left_chance tk (hr.mono (by decide)) (by rfl) [1, 0] (fun _ _ _ _ _ _ us ws h1 h2 => match us, ws, h1, h2 with | [], [_, _], _, _ => rfl) (kc_cons (ca_op (d_o 7)) (kc_cons (ca_op (d_o 1)) kc_nil))))) a_nil))))) a_nil))) (d_p (d_callB (cr_repr k) (vl_repr k.K) (by rfl) z_repr PyProof.Rows.boot_repr (a_cons (d_p (d_pl (d_lst (a_cons (d_o 8) (a_cons (d_o 8) a_nil))))) a_nil)))) (s_one (s_ret d_bl))
      s_nil)))))))))))
      (s_one (s_ret d_bl)))
theorem ok_l_urn (h : Has tx.K mg "_law_urn" st_l_urn) (z_abs : mg "abs" = none) (z_int : mg "int" = none) (z_len : mg "len" = none) : Cal P w tx mg base 1 "_law_urn" st_l_urn ["script", "lap"] den_l_urn :=
  cal_of (b := b_l_urn) h bd_l_urn sc_l_urn [] fun f cdv A outer s H E gd hr => by
    have k : Ck tx (cxOf (L2.CX P w) P w tx.K mg base ["script", "lap", "mixed", "cell", "own"] "_law_urn" (defScope st_l_urn) f cdv A outer s H E) := ⟨rfl, sc_l_urn.nd, by have := hr.un; show (A.deeper _).units + 66 < cLine; omega, gd⟩
    have tk : Takes (cxOf (L2.CX P w) P w tx.K mg base ["script", "lap", "mixed", "cell", "own"] "_law_urn" (defScope st_l_urn) f cdv A outer s H E) (fun cls dd _ H' => E cls dd H') := takes_of rfl rfl rfl rfl
    exact (s_cons (s_set k 2 (d_add k (d_p d_int) (d_p (d_mul (d_p d_int) (d_o 1)))))
      (s_cons (s_for (passes_of rfl) rfl (i_any k (d_pl (d_slL k (d_o 0) po_n (po_s (d_p d_int))))) (g_name k 3) gq_name (b := lp0_l_urn)
      (s_one (s_set k 2 (d_mod (d_p (d_callT call_int1 (vl_int) (by rfl) z_int PyProof.Rows.boot_int (a_cons (d_p (d_add k (d_p (d_add k (d_p (d_mul (d_o 2) (d_p d_int))) (d_p (d_mul (d_p (d_mod (d_p (d_callT call_int1 (vl_int) (by rfl) z_int PyProof.Rows.boot_int (a_cons (d_o 3) a_nil))) (d_p d_int))) (d_p d_int))))) (d_p d_int))) a_nil))) (d_p d_int)))))
      (s_cons (s_set k 4 (d_ifx (d_tc (c_lt k) (d_o 1) (d_p (d_callB call_len (vl_len k.K) (by rfl) z_len PySem.boot_len (a_cons (d_o 0) a_nil)))) (d_callT call_int1 (vl_int) (by rfl) z_int PyProof.Rows.boot_int (a_cons (d_p (d_ix k (d_o 0) (d_o 1))) a_nil)) d_int))
      (s_cons (s_set k 2 (d_mod (d_p (d_callT call_int1 (vl_int) (by rfl) z_int PyProof.Rows.boot_int (a_cons (d_p (d_add k (d_p (d_add k (d_p (d_mul (d_o 2) (d_p d_int))) (d_p (d_mul (d_p (d_mod (d_p (d_callT call_int1 (vl_int) (by rfl) z_int PyProof.Rows.boot_int (a_cons (d_o 4) a_nil))) (d_p d_int))) (d_p d_int))))) (d_p d_int))) a_nil))) (d_p d_int)))
      (s_one (s_retF (d_lst (a_cons (d_p (d_ifx (PW.pt (d_tor (d_tc (c_lt k) (d_o 4) (d_p d_int)) (d_tor1 (d_tc (c_ge k) (d_o 4) (d_p (d_pow (d_p d_int) (d_p d_int))))))) (d_callB call_abs (vl_abs) (by rfl) z_abs PyProof.Rows.boot_abs (a_cons (d_o 4) a_nil)) d_int)) (a_cons (d_o 2) (a_cons (d_p d_int) a_nil))))))))))
theorem fn_law {fl : Addr} {fdl : FuncData} (h : Fun tx.K "law" "law" st_law fl fdl) (C_l_right : Cal P w tx mg base 6 "_law_right" st_l_right ["urn"] den_l_right) (C_l_urn : Cal P w tx mg base 1 "_law_urn" st_l_urn ["script", "lap"] den_l_urn) (z_all : mg "all" = none) (z_range : mg "range" = none) (z_max : mg "max" = none) (z_min : mg "min" = none) (z_len : mg "len" = none) : FnG P w tx.K mg base 7 fl fdl ["script"] (spD tx 1 den_law) :=
  fn_den tx [] h sc_law fun cdv A outer s H E gd hr => by
    have k : Ck tx (cxOf (L2.CX P w) P w tx.K mg base ["script", "lap"] "law" (defScope st_law) fl cdv A outer s H E) := ⟨rfl, sc_law.nd, by have := hr.un; show (A.deeper _).units + 66 < cLine; omega, gd⟩
    have tk : Takes (cxOf (L2.CX P w) P w tx.K mg base ["script", "lap"] "law" (defScope st_law) fl cdv A outer s H E) (fun cls dd _ H' => E cls dd H') := takes_of rfl rfl rfl rfl
    exact (s_one (s_ret (d_callB (cr_all rfl) ((vb_all k.K).vl) (by rfl) z_all PyProof.Rows.boot_all (a_cons (d_p (d_pl (d_lc k rfl (m := cm0_law) (n := 2) (own := [("lap", 1)]) rfl rfl (i_rng1 k (by rfl) z_range (a_cons (d_p (d_callB (cr_maxD rfl) (vl_max k.K) (by rfl) z_max PyProof.Rows.boot_max (a_cons (d_p d_int) (a_cons (d_p (d_callB (cr_minD rfl) (vl_min k.K) (by rfl) z_min PyProof.Rows.boot_min (a_cons (d_p (d_callB call_len (vl_len k.K) (by rfl) z_len PySem.boot_len (a_cons (d_o 0) a_nil))) (a_cons (d_p d_int) a_nil)))) a_nil)))) a_nil)) (blkOk_by (by rfl)) (fun s H C cl fp => (g_name k.blk 1)) (fun s H C cl fp => ts_nil) (fun s H C cl fp => (d_cv (c_call k.blk C_l_right takesB (hr.mono (by decide)) (by rfl) (ac_cons (ca_fr (d_cf (c_call k.blk C_l_urn takesB (hr.mono (by decide)) (by rfl) (ac_cons (ca_op (d_o 0)) (ac_cons (ca_op (d_o 1)) ac_nil))))) ac_nil))))))) a_nil))))
end
abbrev txK (K : PySem.W.Frag) : Tx := ⟨K, fun _ => .none⟩
theorem all_mk {l : PySem.W.OpenLaw} {w : World} {K : PySem.W.Frag} {h : Heap} {mg : Str → Option Value} {fa : Addr} (X : K.In h) (G : h.Ns mainGlobals mg) (hfa : mg "law" = some (.ref fa))
    {f0 : Addr} {od0 an0 : Option Addr} {sl0 : Array (Option Value)} {oc0 kV0 dc0 pm0 cd0 ct0 : Value}
    {f1 : Addr} {od1 an1 : Option Addr} {sl1 : Array (Option Value)} {oc1 kV1 dc1 pm1 cd1 ct1 : Value}
    {f2 : Addr} {od2 an2 : Option Addr} {sl2 : Array (Option Value)} {oc2 kV2 dc2 pm2 cd2 ct2 : Value}
    {f3 : Addr} {od3 an3 : Option Addr} {sl3 : Array (Option Value)} {oc3 kV3 dc3 pm3 cd3 ct3 : Value}
    {f4 : Addr} {od4 an4 : Option Addr} {sl4 : Array (Option Value)} {oc4 kV4 dc4 pm4 cd4 ct4 : Value}
    {f5 : Addr} {od5 an5 : Option Addr} {sl5 : Array (Option Value)} {oc5 kV5 dc5 pm5 cd5 ct5 : Value}
    {f6 : Addr} {od6 an6 : Option Addr} {sl6 : Array (Option Value)} {oc6 kV6 dc6 pm6 cd6 ct6 : Value}
    {f7 : Addr} {od7 an7 : Option Addr} {sl7 : Array (Option Value)} {oc7 kV7 dc7 pm7 cd7 ct7 : Value}
    {f8 : Addr} {od8 an8 : Option Addr} {sl8 : Array (Option Value)} {oc8 kV8 dc8 pm8 cd8 ct8 : Value}
    {f9 : Addr} {od9 an9 : Option Addr} {sl9 : Array (Option Value)} {oc9 kV9 dc9 pm9 cd9 ct9 : Value}
    {f10 : Addr} {od10 an10 : Option Addr} {sl10 : Array (Option Value)} {oc10 kV10 dc10 pm10 cd10 ct10 : Value}
    {f11 : Addr} {od11 an11 : Option Addr} {sl11 : Array (Option Value)} {oc11 kV11 dc11 pm11 cd11 ct11 : Value}
    {f12 : Addr} {od12 an12 : Option Addr} {sl12 : Array (Option Value)} {oc12 kV12 dc12 pm12 cd12 ct12 : Value}
    {f13 : Addr} {od13 an13 : Option Addr} {sl13 : Array (Option Value)} {oc13 kV13 dc13 pm13 cd13 ct13 : Value}
    {f14 : Addr} {od14 an14 : Option Addr} {sl14 : Array (Option Value)} {oc14 kV14 dc14 pm14 cd14 ct14 : Value}
    {f15 : Addr} {od15 an15 : Option Addr} {sl15 : Array (Option Value)} {oc15 kV15 dc15 pm15 cd15 ct15 : Value}
    {f16 : Addr} {od16 an16 : Option Addr} {sl16 : Array (Option Value)} {oc16 kV16 dc16 pm16 cd16 ct16 : Value}
    {f17 : Addr} {od17 an17 : Option Addr} {sl17 : Array (Option Value)} {oc17 kV17 dc17 pm17 cd17 ct17 : Value}
    {f18 : Addr} {od18 an18 : Option Addr} {sl18 : Array (Option Value)} {oc18 kV18 dc18 pm18 cd18 ct18 : Value}
    {f19 : Addr} {od19 an19 : Option Addr} {sl19 : Array (Option Value)} {oc19 kV19 dc19 pm19 cd19 ct19 : Value}
    {t_MOST_MANY : Tok}
    (a0 : PySem.W.nsIn K mainGlobals "_law_rows" = some (some (.ref f0))) (l0 : K.lookup f0 = some ⟨oc0, od0, .func (PySem.W.fnOf "_law_rows" "_law_rows" (defArgs st_l_rows) (defBody st_l_rows) (defScope st_l_rows) .none kV0 dc0 pm0 an0 cd0 ct0), sl0⟩) (e0 : PySem.W.codeIn K cd0 "_law_rows" = true) (p0 : PySem.W.keepIn K (.ref f0) = true)
    (a1 : PySem.W.nsIn K mainGlobals "_law_take" = some (some (.ref f1))) (l1 : K.lookup f1 = some ⟨oc1, od1, .func (PySem.W.fnOf "_law_take" "_law_take" (defArgs st_l_take) (defBody st_l_take) (defScope st_l_take) .none kV1 dc1 pm1 an1 cd1 ct1), sl1⟩) (e1 : PySem.W.codeIn K cd1 "_law_take" = true) (p1 : PySem.W.keepIn K (.ref f1) = true)
    (a2 : PySem.W.nsIn K mainGlobals "_law_lowest" = some (some (.ref f2))) (l2 : K.lookup f2 = some ⟨oc2, od2, .func (PySem.W.fnOf "_law_lowest" "_law_lowest" (defArgs st_l_lowest) (defBody st_l_lowest) (defScope st_l_lowest) .none kV2 dc2 pm2 an2 cd2 ct2), sl2⟩) (e2 : PySem.W.codeIn K cd2 "_law_lowest" = true) (p2 : PySem.W.keepIn K (.ref f2) = true)
    (a3 : PySem.W.nsIn K mainGlobals "is_whole" = some (some (.ref f3))) (l3 : K.lookup f3 = some ⟨oc3, od3, .func (PySem.W.fnOf "is_whole" "is_whole" (defArgs st_is_whole) (defBody st_is_whole) (defScope st_is_whole) .none kV3 dc3 pm3 an3 cd3 ct3), sl3⟩) (e3 : PySem.W.codeIn K cd3 "is_whole" = true) (p3 : PySem.W.keepIn K (.ref f3) = true)
    (a4 : PySem.W.nsIn K mainGlobals "is_number" = some (some (.ref f4))) (l4 : K.lookup f4 = some ⟨oc4, od4, .func (PySem.W.fnOf "is_number" "is_number" (defArgs st_is_number) (defBody st_is_number) (defScope st_is_number) .none kV4 dc4 pm4 an4 cd4 ct4), sl4⟩) (e4 : PySem.W.codeIn K cd4 "is_number" = true) (p4 : PySem.W.keepIn K (.ref f4) = true)
    (a5 : PySem.W.nsIn K mainGlobals "check_number" = some (some (.ref f5))) (l5 : K.lookup f5 = some ⟨oc5, od5, .func (PySem.W.fnOf "check_number" "check_number" (defArgs st_check_number) (defBody st_check_number) (defScope st_check_number) .none kV5 dc5 pm5 an5 cd5 ct5), sl5⟩) (e5 : PySem.W.codeIn K cd5 "check_number" = true) (p5 : PySem.W.keepIn K (.ref f5) = true)
    (a6 : PySem.W.nsIn K mainGlobals "check_many" = some (some (.ref f6))) (l6 : K.lookup f6 = some ⟨oc6, od6, .func (PySem.W.fnOf "check_many" "check_many" (defArgs st_check_many) (defBody st_check_many) (defScope st_check_many) .none kV6 dc6 pm6 an6 cd6 ct6), sl6⟩) (e6 : PySem.W.codeIn K cd6 "check_many" = true) (p6 : PySem.W.keepIn K (.ref f6) = true)
    (a7 : PySem.W.nsIn K mainGlobals "lowest" = some (some (.ref f7))) (l7 : K.lookup f7 = some ⟨oc7, od7, .func (PySem.W.fnOf "lowest" "lowest" (defArgs st_lowest) (defBody st_lowest) (defScope st_lowest) .none kV7 dc7 pm7 an7 cd7 ct7), sl7⟩) (e7 : PySem.W.codeIn K cd7 "lowest" = true) (p7 : PySem.W.keepIn K (.ref f7) = true)
    (a8 : PySem.W.nsIn K mainGlobals "mean_meetings" = some (some (.ref f8))) (l8 : K.lookup f8 = some ⟨oc8, od8, .func (PySem.W.fnOf "mean_meetings" "mean_meetings" (defArgs st_mean_meetings) (defBody st_mean_meetings) (defScope st_mean_meetings) .none kV8 dc8 pm8 an8 cd8 ct8), sl8⟩) (e8 : PySem.W.codeIn K cd8 "mean_meetings" = true) (p8 : PySem.W.keepIn K (.ref f8) = true)
    (a9 : PySem.W.nsIn K mainGlobals "quotient_of" = some (some (.ref f9))) (l9 : K.lookup f9 = some ⟨oc9, od9, .func (PySem.W.fnOf "quotient_of" "quotient_of" (defArgs st_quotient_of) (defBody st_quotient_of) (defScope st_quotient_of) .none kV9 dc9 pm9 an9 cd9 ct9), sl9⟩) (e9 : PySem.W.codeIn K cd9 "quotient_of" = true) (p9 : PySem.W.keepIn K (.ref f9) = true)
    (a10 : PySem.W.nsIn K mainGlobals "product_of" = some (some (.ref f10))) (l10 : K.lookup f10 = some ⟨oc10, od10, .func (PySem.W.fnOf "product_of" "product_of" (defArgs st_product_of) (defBody st_product_of) (defScope st_product_of) .none kV10 dc10 pm10 an10 cd10 ct10), sl10⟩) (e10 : PySem.W.codeIn K cd10 "product_of" = true) (p10 : PySem.W.keepIn K (.ref f10) = true)
    (a11 : PySem.W.nsIn K mainGlobals "tops_of" = some (some (.ref f11))) (l11 : K.lookup f11 = some ⟨oc11, od11, .func (PySem.W.fnOf "tops_of" "tops_of" (defArgs st_tops_of) (defBody st_tops_of) (defScope st_tops_of) .none kV11 dc11 pm11 an11 cd11 ct11), sl11⟩) (e11 : PySem.W.codeIn K cd11 "tops_of" = true) (p11 : PySem.W.keepIn K (.ref f11) = true)
    (a12 : PySem.W.nsIn K mainGlobals "tally_for" = some (some (.ref f12))) (l12 : K.lookup f12 = some ⟨oc12, od12, .func (PySem.W.fnOf "tally_for" "tally_for" (defArgs st_tally_for) (defBody st_tally_for) (defScope st_tally_for) .none kV12 dc12 pm12 an12 cd12 ct12), sl12⟩) (e12 : PySem.W.codeIn K cd12 "tally_for" = true) (p12 : PySem.W.keepIn K (.ref f12) = true)
    (a13 : PySem.W.nsIn K mainGlobals "tally_of" = some (some (.ref f13))) (l13 : K.lookup f13 = some ⟨oc13, od13, .func (PySem.W.fnOf "tally_of" "tally_of" (defArgs st_tally_of) (defBody st_tally_of) (defScope st_tally_of) .none kV13 dc13 pm13 an13 cd13 ct13), sl13⟩) (e13 : PySem.W.codeIn K cd13 "tally_of" = true) (p13 : PySem.W.keepIn K (.ref f13) = true)
    (a14 : PySem.W.nsIn K mainGlobals "meeting_tally" = some (some (.ref f14))) (l14 : K.lookup f14 = some ⟨oc14, od14, .func (PySem.W.fnOf "meeting_tally" "meeting_tally" (defArgs st_meeting_tally) (defBody st_meeting_tally) (defScope st_meeting_tally) .none kV14 dc14 pm14 an14 cd14 ct14), sl14⟩) (e14 : PySem.W.codeIn K cd14 "meeting_tally" = true) (p14 : PySem.W.keepIn K (.ref f14) = true)
    (a15 : PySem.W.nsIn K mainGlobals "check_index" = some (some (.ref f15))) (l15 : K.lookup f15 = some ⟨oc15, od15, .func (PySem.W.fnOf "check_index" "check_index" (defArgs st_check_index) (defBody st_check_index) (defScope st_check_index) .none kV15 dc15 pm15 an15 cd15 ct15), sl15⟩) (e15 : PySem.W.codeIn K cd15 "check_index" = true) (p15 : PySem.W.keepIn K (.ref f15) = true)
    (a16 : PySem.W.nsIn K mainGlobals "left_chance" = some (some (.ref f16))) (l16 : K.lookup f16 = some ⟨oc16, od16, .func (PySem.W.fnOf "left_chance" "left_chance" (defArgs st_left_chance) (defBody st_left_chance) (defScope st_left_chance) .none kV16 dc16 pm16 an16 cd16 ct16), sl16⟩) (e16 : PySem.W.codeIn K cd16 "left_chance" = true) (p16 : PySem.W.keepIn K (.ref f16) = true)
    (a17 : PySem.W.nsIn K mainGlobals "_law_right" = some (some (.ref f17))) (l17 : K.lookup f17 = some ⟨oc17, od17, .func (PySem.W.fnOf "_law_right" "_law_right" (defArgs st_l_right) (defBody st_l_right) (defScope st_l_right) .none kV17 dc17 pm17 an17 cd17 ct17), sl17⟩) (e17 : PySem.W.codeIn K cd17 "_law_right" = true) (p17 : PySem.W.keepIn K (.ref f17) = true)
    (a18 : PySem.W.nsIn K mainGlobals "_law_urn" = some (some (.ref f18))) (l18 : K.lookup f18 = some ⟨oc18, od18, .func (PySem.W.fnOf "_law_urn" "_law_urn" (defArgs st_l_urn) (defBody st_l_urn) (defScope st_l_urn) .none kV18 dc18 pm18 an18 cd18 ct18), sl18⟩) (e18 : PySem.W.codeIn K cd18 "_law_urn" = true) (p18 : PySem.W.keepIn K (.ref f18) = true)
    (a19 : PySem.W.nsIn K mainGlobals "law" = some (some (.ref f19))) (l19 : K.lookup f19 = some ⟨oc19, od19, .func (PySem.W.fnOf "law" "law" (defArgs st_law) (defBody st_law) (defScope st_law) .none kV19 dc19 pm19 an19 cd19 ct19), sl19⟩) (e19 : PySem.W.codeIn K cd19 "law" = true) (p19 : PySem.W.keepIn K (.ref f19) = true)
    (z_range : PySem.W.nsIn K mainGlobals "range" = some none)
    (z_int : PySem.W.nsIn K mainGlobals "int" = some none)
    (z_divmod : PySem.W.nsIn K mainGlobals "divmod" = some none)
    (z_abs : PySem.W.nsIn K mainGlobals "abs" = some none)
    (z_isinstance : PySem.W.nsIn K mainGlobals "isinstance" = some none)
    (z_bool : PySem.W.nsIn K mainGlobals "bool" = some none)
    (z_len : PySem.W.nsIn K mainGlobals "len" = some none)
    (z_enumerate : PySem.W.nsIn K mainGlobals "enumerate" = some none)
    (z_list : PySem.W.nsIn K mainGlobals "list" = some none)
    (z_tuple : PySem.W.nsIn K mainGlobals "tuple" = some none)
    (z_sum : PySem.W.nsIn K mainGlobals "sum" = some none)
    (z_repr : PySem.W.nsIn K mainGlobals "repr" = some none)
    (z_max : PySem.W.nsIn K mainGlobals "max" = some none)
    (z_all : PySem.W.nsIn K mainGlobals "all" = some none)
    (z_min : PySem.W.nsIn K mainGlobals "min" = some none)
    (c_MOST_MANY : PySem.W.nsIn K mainGlobals "MOST_MANY" = some (some (.int 8 t_MOST_MANY)))
    (c_gcd : PySem.W.nsIn K mainGlobals "gcd" = some (some (.builtin "math.gcd")))
    (c_comb : PySem.W.nsIn K mainGlobals "comb" = some (some (.builtin "math.comb"))) :
    ∃ fd : FuncData, (∀ (s : Shared) (v : Value), BindsTo s fd ⟨[v], []⟩ [("script", v)]) ∧ ∀ base : Heap, K.In base → base.Ns mainGlobals mg → FnG l.prog w K mg base 7 fa fd ["script"] (spD (txK K) 1 den_law) := by
  have same := hfa.symm.trans (PySem.W.mg_of X G a19)
  cases same
  refine ⟨PySem.W.fnOf "law" "law" (defArgs st_law) (defBody st_law) (defScope st_law) .none kV19 dc19 pm19 an19 cd19 ct19, fun s v => .of_eq (bd_law _ _ _ _ _ _ [v] rfl), fun base _ _ => ?_⟩
  have C_l_rows := ok_l_rows (P := l.prog) (w := w) (tx := txK K) (base := base) ⟨_, _, fun_mk (st := st_l_rows) l0 e0 p0, PySem.W.mg_of X G a0⟩ (z_range := PySem.W.mg_none_of X G z_range)
  have C_l_take := ok_l_take (P := l.prog) (w := w) (tx := txK K) (base := base) ⟨_, _, fun_mk (st := st_l_take) l1 e1 p1, PySem.W.mg_of X G a1⟩ (z_int := PySem.W.mg_none_of X G z_int) (z_divmod := PySem.W.mg_none_of X G z_divmod)
  have C_l_lowest := ok_l_lowest (P := l.prog) (w := w) (tx := txK K) (base := base) ⟨_, _, fun_mk (st := st_l_lowest) l2 e2 p2, PySem.W.mg_of X G a2⟩ (z_range := PySem.W.mg_none_of X G z_range) (z_int := PySem.W.mg_none_of X G z_int) (z_abs := PySem.W.mg_none_of X G z_abs)
  have C_is_whole := ok_is_whole (P := l.prog) (w := w) (tx := txK K) (base := base) ⟨_, _, fun_mk (st := st_is_whole) l3 e3 p3, PySem.W.mg_of X G a3⟩ (z_isinstance := PySem.W.mg_none_of X G z_isinstance) (z_bool := PySem.W.mg_none_of X G z_bool) (z_int := PySem.W.mg_none_of X G z_int)
  have C_is_number := ok_is_number (P := l.prog) (w := w) (tx := txK K) (base := base) ⟨_, _, fun_mk (st := st_is_number) l4 e4 p4, PySem.W.mg_of X G a4⟩ (C_is_whole := C_is_whole)
  have C_check_number := ok_check_number (P := l.prog) (w := w) (tx := txK K) (base := base) ⟨_, _, fun_mk (st := st_check_number) l5 e5 p5, PySem.W.mg_of X G a5⟩ (C_is_number := C_is_number)
  have C_check_many := ok_check_many (P := l.prog) (w := w) (tx := txK K) (base := base) ⟨_, _, fun_mk (st := st_check_many) l6 e6 p6, PySem.W.mg_of X G a6⟩ (C_check_number := C_check_number) (c_MOST_MANY := PySem.W.mg_of X G c_MOST_MANY)
  have C_lowest := ok_lowest (P := l.prog) (w := w) (tx := txK K) (base := base) ⟨_, _, fun_mk (st := st_lowest) l7 e7 p7, PySem.W.mg_of X G a7⟩ (c_gcd := PySem.W.mg_of X G c_gcd)
  have C_mean_meetings := ok_mean_meetings (P := l.prog) (w := w) (tx := txK K) (base := base) ⟨_, _, fun_mk (st := st_mean_meetings) l8 e8 p8, PySem.W.mg_of X G a8⟩ (C_lowest := C_lowest) (C_check_many := C_check_many)
  have C_quotient_of := ok_quotient_of (P := l.prog) (w := w) (tx := txK K) (base := base) ⟨_, _, fun_mk (st := st_quotient_of) l9 e9 p9, PySem.W.mg_of X G a9⟩ (z_range := PySem.W.mg_none_of X G z_range) (z_len := PySem.W.mg_none_of X G z_len) (z_enumerate := PySem.W.mg_none_of X G z_enumerate) (z_list := PySem.W.mg_none_of X G z_list)
  have C_product_of := ok_product_of (P := l.prog) (w := w) (tx := txK K) (base := base) ⟨_, _, fun_mk (st := st_product_of) l10 e10 p10, PySem.W.mg_of X G a10⟩ (z_enumerate := PySem.W.mg_none_of X G z_enumerate) (z_len := PySem.W.mg_none_of X G z_len)
  have C_tops_of := ok_tops_of (P := l.prog) (w := w) (tx := txK K) (base := base) ⟨_, _, fun_mk (st := st_tops_of) l11 e11 p11, PySem.W.mg_of X G a11⟩ 
  have C_tally_for := ok_tally_for (P := l.prog) (w := w) (tx := txK K) (base := base) ⟨_, _, fun_mk (st := st_tally_for) l12 e12 p12, PySem.W.mg_of X G a12⟩ (C_quotient_of := C_quotient_of) (C_product_of := C_product_of) (C_tops_of := C_tops_of) (z_range := PySem.W.mg_none_of X G z_range)
  have C_tally_of := ok_tally_of (P := l.prog) (w := w) (tx := txK K) (base := base) ⟨_, _, fun_mk (st := st_tally_of) l13 e13 p13, PySem.W.mg_of X G a13⟩ (C_tally_for := C_tally_for) (z_range := PySem.W.mg_none_of X G z_range) (z_enumerate := PySem.W.mg_none_of X G z_enumerate)
  have C_meeting_tally := ok_meeting_tally (P := l.prog) (w := w) (tx := txK K) (base := base) ⟨_, _, fun_mk (st := st_meeting_tally) l14 e14 p14, PySem.W.mg_of X G a14⟩ (C_tally_of := C_tally_of) (C_check_many := C_check_many) (z_tuple := PySem.W.mg_none_of X G z_tuple)
  have C_check_index := ok_check_index (P := l.prog) (w := w) (tx := txK K) (base := base) ⟨_, _, fun_mk (st := st_check_index) l15 e15 p15, PySem.W.mg_of X G a15⟩ (C_check_number := C_check_number)
  have C_left_chance := ok_left_chance (P := l.prog) (w := w) (tx := txK K) (base := base) ⟨_, _, fun_mk (st := st_left_chance) l16 e16 p16, PySem.W.mg_of X G a16⟩ (C_lowest := C_lowest) (C_check_index := C_check_index) (C_check_many := C_check_many) (z_sum := PySem.W.mg_none_of X G z_sum) (z_range := PySem.W.mg_none_of X G z_range) (c_comb := PySem.W.mg_of X G c_comb)
  have C_l_right := ok_l_right (P := l.prog) (w := w) (tx := txK K) (base := base) ⟨_, _, fun_mk (st := st_l_right) l17 e17 p17, PySem.W.mg_of X G a17⟩ (C_l_take := C_l_take) (C_left_chance := C_left_chance) (C_l_lowest := C_l_lowest) (C_meeting_tally := C_meeting_tally) (C_mean_meetings := C_mean_meetings) (C_l_rows := C_l_rows) (z_range := PySem.W.mg_none_of X G z_range) (z_repr := PySem.W.mg_none_of X G z_repr) (z_len := PySem.W.mg_none_of X G z_len) (z_tuple := PySem.W.mg_none_of X G z_tuple) (z_max := PySem.W.mg_none_of X G z_max) (z_sum := PySem.W.mg_none_of X G z_sum)
  have C_l_urn := ok_l_urn (P := l.prog) (w := w) (tx := txK K) (base := base) ⟨_, _, fun_mk (st := st_l_urn) l18 e18 p18, PySem.W.mg_of X G a18⟩ (z_abs := PySem.W.mg_none_of X G z_abs) (z_int := PySem.W.mg_none_of X G z_int) (z_len := PySem.W.mg_none_of X G z_len)
  exact fn_law (tx := txK K) (fun_mk (st := st_law) l19 e19 p19) (C_l_right := C_l_right) (C_l_urn := C_l_urn) (z_all := PySem.W.mg_none_of X G z_all) (z_range := PySem.W.mg_none_of X G z_range) (z_max := PySem.W.mg_none_of X G z_max) (z_min := PySem.W.mg_none_of X G z_min) (z_len := PySem.W.mg_none_of X G z_len)
end K63

namespace K63
open PySem PySem.Spec PyProof.Rows L2 Dn
theorem take_pos (a b c m : Int) (h : 0 < a) (hm : CDiv a m) : den_l_take [.own [.int a, .int b, .int c], .val (.int m)] = .ok (.val (.int (a % m))) [some (.own [.int (a / m), .int b, .int c]), none] := by
  simp [den_l_take, b_l_take, denOf, sSeq, SR.seq, sIf, Res.toS, mOpB, mOp, mOpL, evL, evP, evV, fillV, rdV, Res.bind, lift, fillL, rdS, mC, fIx, fGt, fLt, fGe, sAsg, gTn, gAll, gSt, gN, sRet, sRetF, mVar, fDivmod, fAdd, fMul, fMod, fInt, fFDiv, fPow, fAbs, fLen, sSet, sPass, enA, outE, keepO, rdOwn, setD, atI, ixN, List.range, List.range.loop, mSl, mPart, fSlL, mPl, mIt, sFor, mIf, mOrB, mLst, mTup, fitD, bV, h, hm]
def stirT (b c : Int) : Int := (b * 40009 + 15013 * (c + 1)) % 2147483629
def mixT (b c : Int) : Int := (stirT b c * (stirT b c % 5003 + 30011) + 3 * (c + 1)) % 2147483629
theorem take_neg (a b c m : Int) (h : ¬ 0 < a) (hm : 0 < m) : den_l_take [.own [.int a, .int b, .int c], .val (.int m)] = .ok (.val (.int (mixT b c / 907 % m))) [some (.own [.int a, .int (mixT b c), .int (c + 1)]), none] := by
  have h1 : CMul b 40009 := .inr (by decide)
  have h2 : CMul 15013 (c + 1) := .inl (by decide)
  have h3 : CMul 3 (c + 1) := .inl (by decide)
  have hs : 0 ≤ stirT b c ∧ stirT b c < 2147483629 := ⟨Int.emod_nonneg _ (by decide), Int.emod_lt_of_pos _ (by decide)⟩
  have h4 : CMul (stirT b c) (stirT b c % 5003 + 30011) := .inl ⟨by omega, by omega⟩
  have h5 : CDiv (mixT b c) 907 := ⟨by decide, by decide⟩
  unfold mixT stirT at *
  simp [den_l_take, b_l_take, denOf, sSeq, SR.seq, sIf, Res.toS, mOpB, mOp, mOpL, evL, evP, evV, fillV, rdV, Res.bind, lift, fillL, rdS, mC, fIx, fGt, fLt, fGe, sAsg, gTn, gAll, gSt, gN, sRet, sRetF, mVar, fDivmod, fAdd, fMul, fMod, fInt, fFDiv, fPow, fAbs, fLen, sSet, sPass, enA, outE, keepO, rdOwn, setD, atI, ixN, List.range, List.range.loop, mSl, mPart, fSlL, mPl, mIt, sFor, mIf, mOrB, mLst, mTup, fitD, bV, h, hm, h1, h2, h3, h4, h5]
/-- a figure of the urn -/
theorem take_ok (a b c m : Int) (hm : 0 < m ∧ m < 1073741824) : ∃ f a' b' c', (0 ≤ f ∧ f < m) ∧ den_l_take [.own [.int a, .int b, .int c], .val (.int m)] = .ok (.val (.int f)) [some (.own [.int a', .int b', .int c']), none] := by
  by_cases h : 0 < a
  · exact ⟨a % m, _, _, _, ⟨Int.emod_nonneg _ (by omega), Int.emod_lt_of_pos _ hm.1⟩, take_pos a b c m h hm⟩
  · exact ⟨_, _, _, _, ⟨Int.emod_nonneg _ (by omega), Int.emod_lt_of_pos _ hm.1⟩, take_neg a b c m h hm.1⟩
theorem urn_loop (v0 v1 : Option Sl) : ∀ (ns : List Int) (mixed : Int) (s3 : Option Sl), ∃ mixed' s3', sLoop (gN 3) lp0_l_urn (ns.map PyData.int) [v0, v1, some (.val (.int mixed)), s3, none] = .nx [v0, v1, some (.val (.int mixed')), s3', none]
  | [], mixed, s3 => ⟨mixed, s3, rfl⟩
  | n :: ns, mixed, s3 => by
    have h1 : CMul mixed 50021 := .inr (by decide)
    have h2 : CMul (n % 2147483477) 13 := .inr (by decide)
    obtain ⟨m', s', h⟩ := urn_loop v0 v1 ns ((mixed * 50021 + n % 2147483477 * 13 + 41) % 2147483629) (some (.val (.int n)))
    refine ⟨m', s', ?_⟩
    rw [← h, List.map_cons, sLoop]
    simp [lp0_l_urn, denOf, sSeq, SR.seq, sIf, Res.toS, mOpB, mOp, mOpL, evL, evP, evV, fillV, rdV, Res.bind, lift, fillL, rdS, mC, fIx, fGt, fLt, fGe, sAsg, gTn, gAll, gSt, gN, sRet, sRetF, mVar, fDivmod, fAdd, fMul, fMod, fInt, fFDiv, fPow, fAbs, fLen, sSet, sPass, enA, outE, keepO, rdOwn, setD, atI, ixN, List.range, List.range.loop, mSl, mPart, fSlL, mPl, mIt, sFor, mIf, mOrB, mLst, mTup, fitD, bV, h1, h2]
theorem cut_ints (ns : List Int) (l u : Option Int) : ∃ ms : List Int, Dn.cutD (ns.map PyData.int) l u = ms.map PyData.int := by
  unfold Dn.cutD
  rw [List.length_map, ← List.map_drop, ← List.map_take]
  exact ⟨_, rfl⟩
theorem urn_ok (ns : List Int) (lap : Int) (hl : 0 ≤ lap) : ∃ a b c o, den_l_urn [.val (.list (ns.map PyData.int)), .val (.int lap)] = .ok (.own [.int a, .int b, .int c]) o := by
  obtain ⟨ms, hms⟩ := cut_ints ns none (some 9)
  obtain ⟨m', s', hloop⟩ := urn_loop (some (.val (.list (ns.map PyData.int)))) (some (.val (.int lap))) ms (637029 + 8111 * lap) none
  have h1 : CMul 8111 lap := .inl (by decide)
  have h3 : CMul m' 59 := .inr (by decide)
  have hsz : (3 : Nat) ≤ sizeLine := by decide
  have hp : CPow 10 15 := by decide
  by_cases hlt : lap < ns.length
  · have hk : lap.toNat < ns.length := by omega
    have h4 : CMul (ns[lap.toNat] % 2147483477) 30029 := .inr (by decide)
    by_cases hc : ns[lap.toNat] < 0
    · simp [den_l_urn, b_l_urn, denOf, sSeq, SR.seq, sIf, Res.toS, mOpB, mOp, mOpL, evL, evP, evV, fillV, rdV, Res.bind, lift, fillL, rdS, mC, fIx, fGt, fLt, fGe, sAsg, gTn, gAll, gSt, gN, sRet, sRetF, mVar, fDivmod, fAdd, fMul, fMod, fInt, fFDiv, fPow, fAbs, fLen, sSet, sPass, enA, outE, keepO, rdOwn, setD, atI, ixN, List.range, List.range.loop, mSl, mPart, fSlL, mPl, mIt, sFor, mIf, mOrB, mLst, mTup, fitD, bV, h1, h3, hms, hloop, hlt, hk, hl, h4, hc, hp, hsz]
    · by_cases hc2 : (10 : Int) ^ 15 ≤ ns[lap.toNat]
      · simp at hc2
        simp [den_l_urn, b_l_urn, denOf, sSeq, SR.seq, sIf, Res.toS, mOpB, mOp, mOpL, evL, evP, evV, fillV, rdV, Res.bind, lift, fillL, rdS, mC, fIx, fGt, fLt, fGe, sAsg, gTn, gAll, gSt, gN, sRet, sRetF, mVar, fDivmod, fAdd, fMul, fMod, fInt, fFDiv, fPow, fAbs, fLen, sSet, sPass, enA, outE, keepO, rdOwn, setD, atI, ixN, List.range, List.range.loop, mSl, mPart, fSlL, mPl, mIt, sFor, mIf, mOrB, mLst, mTup, fitD, bV, h1, h3, hms, hloop, hlt, hk, hl, h4, hc, hc2, hp, hsz]
      · simp at hc2
        have hc3 : ¬ (1000000000000000 : Int) ≤ ns[lap.toNat] := by omega
        simp [den_l_urn, b_l_urn, denOf, sSeq, SR.seq, sIf, Res.toS, mOpB, mOp, mOpL, evL, evP, evV, fillV, rdV, Res.bind, lift, fillL, rdS, mC, fIx, fGt, fLt, fGe, sAsg, gTn, gAll, gSt, gN, sRet, sRetF, mVar, fDivmod, fAdd, fMul, fMod, fInt, fFDiv, fPow, fAbs, fLen, sSet, sPass, enA, outE, keepO, rdOwn, setD, atI, ixN, List.range, List.range.loop, mSl, mPart, fSlL, mPl, mIt, sFor, mIf, mOrB, mLst, mTup, fitD, bV, h1, h3, hms, hloop, hlt, hk, hl, h4, hc, hc3, hp, hsz]
  · have h4 : CMul 0 30029 := .inr (by decide)
    simp [den_l_urn, b_l_urn, denOf, sSeq, SR.seq, sIf, Res.toS, mOpB, mOp, mOpL, evL, evP, evV, fillV, rdV, Res.bind, lift, fillL, rdS, mC, fIx, fGt, fLt, fGe, sAsg, gTn, gAll, gSt, gN, sRet, sRetF, mVar, fDivmod, fAdd, fMul, fMod, fInt, fFDiv, fPow, fAbs, fLen, sSet, sPass, enA, outE, keepO, rdOwn, setD, atI, ixN, List.range, List.range.loop, mSl, mPart, fSlL, mPl, mIt, sFor, mIf, mOrB, mLst, mTup, fitD, bV, h1, h3, hms, hloop, hlt, hl, h4, hp, hsz]

theorem seq_nx {a b : SM} {e e' : En} (h : a e = .nx e') : sSeq a b e = b e' := by unfold sSeq; rw [h]; rfl
theorem for_at {m : En → Res (List D)} {g : GM} {b : SM} {e e1 : En} {ds : List D} (h : m e = .ok ds e1) : sFor m g b e = sLoop g b ds e1 := by unfold sFor; rw [h]; rfl
theorem loop_nx {b : SM} {i : Nat} {d : D} {r : List D} {e e0 e' : En} (h : b e0 = .nx e') (he : e.set i (some (.val d)) = e0) : sLoop (gN i) b (d :: r) e = sLoop (gN i) b r e' := by
  subst he
  rw [sLoop]
  show (match b (e.set i (some (.val d))) with
    | .nx e' => sLoop (gN i) b r e'
    | .ct e' => sLoop (gN i) b r e'
    | .bk e' => .nx e'
    | .rt s e' => .rt s e'
    | .exc x e' => .exc x e'
    | .bad => .bad) = _
  rw [h]
def rw1 : D := .list [.tuple [.int 1, .int 0], .tuple [.int 0, .int 0]]
def mt1 : D := .list [.int 0, .int 0]
def mn1 : D := .tuple [.int 0, .int 1]
def ty1 : D := .tuple [.int 2]
def td1 : D := .list [.tuple [.int 0, .int 1], .tuple [.int 0, .int 1], .tuple [.int 2], .tuple [.int 2]]
section
variable (u s2 s3 s4 s5 s6 s7 s8 s9 : Option Sl)
theorem s0_1 : sSet 2 (mV (mCall 1 den_l_rows [.op (.o 1)])) [u, some (.val (.int 1)), s2, s3, s4, s5, s6, s7, s8, s9] = .nx [u, some (.val (.int 1)), some (.val rw1), s3, s4, s5, s6, s7, s8, s9] := by kernel_rfl
theorem s1_1 : sSet 3 (mPl (mLc (mIt (mVar 2)) [9] (gN 9) (fun e => .ok true e) cm3_l_right)) [u, some (.val (.int 1)), some (.val rw1), s3, s4, s5, s6, s7, s8, s9] = .nx [u, some (.val (.int 1)), some (.val rw1), some (.val mt1), s4, s5, s6, s7, s8, s9] := by kernel_rfl
theorem s2_1 : sPar [4, 5] [.op (.p (mV (mCall 2 den_l_lowest [.op (.p (mOp fSum [.o 3])), .op (.p (mOp fLen [.o 2]))]))), .op (.p (mOp fTuple [.p (mPl (mLc (mRng1 (.p (mOp fAdd [.p (mOp fMax [.o 3]), .p (mC (.int 1))]))) [7] (gN 7) (fun e => .ok true e) cm2_l_right))]))] [u, some (.val (.int 1)), some (.val rw1), some (.val mt1), s4, s5, s6, s7, s8, s9] = .nx [u, some (.val (.int 1)), some (.val rw1), some (.val mt1), some (.val mn1), some (.val ty1), s6, s7, s8, s9] := by kernel_rfl
theorem s3_1 : sSet 6 (mPl (mLst [.p (mV (mCall 1 den_mean_meetings [.op (.o 1)])), .p (mV (mCallK 1 [0] den_mean_meetings [.op (.o 1)])), .p (mV (mCall 1 den_meeting_tally [.op (.o 1)])), .p (mV (mCallK 1 [0] den_meeting_tally [.op (.o 1)]))])) [u, some (.val (.int 1)), some (.val rw1), some (.val mt1), some (.val mn1), some (.val ty1), s6, s7, s8, s9] = .nx [u, some (.val (.int 1)), some (.val rw1), some (.val mt1), some (.val mn1), some (.val ty1), some (.val td1), s7, s8, s9] := by kernel_rfl
theorem s4_1 : sIf (mOrB (mOpB fNe [.p (mOp fRepr [.o 6]), .p (mOp fRepr [.p (mPl (mLst [.o 4, .o 4, .o 5, .o 5]))])]) (mOpB fNe [.o 4, .p (mV (mCall 2 den_l_lowest [.op (.p (mOp fMul [.o 1, .p (mOp fSub [.o 1, .p (mC (.int 1))])])), .op (.p (mC (.int 8)))]))])) (sRet (mC (.bool false))) sPass [u, some (.val (.int 1)), some (.val rw1), some (.val mt1), some (.val mn1), some (.val ty1), some (.val td1), s7, s8, s9] = .nx [u, some (.val (.int 1)), some (.val rw1), some (.val mt1), some (.val mn1), some (.val ty1), some (.val td1), s7, s8, s9] := by kernel_rfl
theorem k0_1 : lp1_l_right [u, some (.val (.int 1)), some (.val rw1), some (.val mt1), some (.val mn1), some (.val ty1), some (.val td1), some (.val (.int 0)), s8, s9] = .nx [u, some (.val (.int 1)), some (.val rw1), some (.val mt1), some (.val mn1), some (.val ty1), some (.val td1), some (.val (.int 0)), some (.val (.tuple [.int 1, .int 2])), s9] := by kernel_rfl
theorem rg_1 : mRng1 (.o 1) [u, some (.val (.int 1)), some (.val rw1), some (.val mt1), some (.val mn1), some (.val ty1), some (.val td1), s7, s8, s9] = .ok [.int 0] [u, some (.val (.int 1)), some (.val rw1), some (.val mt1), some (.val mn1), some (.val ty1), some (.val td1), s7, s8, s9] := by kernel_rfl
theorem lp_1 : ∃ t2 t3 t4 t5 t6 t7 t8 t9, lp4_l_right [u, some (.val (.int 1)), s2, s3, s4, s5, s6, s7, s8, s9] = .nx [u, some (.val (.int 1)), t2, t3, t4, t5, t6, t7, t8, t9] := by
  refine ⟨some (.val rw1), some (.val mt1), some (.val mn1), some (.val ty1), some (.val td1), some (.val (.int 0)), some (.val (.tuple [.int 1, .int 2])), s9, ?_⟩
  refine Eq.trans (seq_nx (s0_1 u s2 s3 s4 s5 s6 s7 s8 s9)) ?_
  refine Eq.trans (seq_nx (s1_1 u s3 s4 s5 s6 s7 s8 s9)) ?_
  refine Eq.trans (seq_nx (s2_1 u s4 s5 s6 s7 s8 s9)) ?_
  refine Eq.trans (seq_nx (s3_1 u s6 s7 s8 s9)) ?_
  refine Eq.trans (seq_nx (s4_1 u s7 s8 s9)) ?_
  refine Eq.trans (for_at (rg_1 u s7 s8 s9)) ?_
  refine Eq.trans (loop_nx (k0_1 u s8 s9) rfl) ?_
  rfl
end
def rw2 : D := .list [.tuple [.int 2, .int 0], .tuple [.int 1, .int 0], .tuple [.int 1, .int 1], .tuple [.int 0, .int 0]]
def mt2 : D := .list [.int 0, .int 0, .int 1, .int 0]
def mn2 : D := .tuple [.int 1, .int 4]
def ty2 : D := .tuple [.int 3, .int 1]
def td2 : D := .list [.tuple [.int 1, .int 4], .tuple [.int 1, .int 4], .tuple [.int 3, .int 1], .tuple [.int 3, .int 1]]
section
variable (u s2 s3 s4 s5 s6 s7 s8 s9 : Option Sl)
theorem s0_2 : sSet 2 (mV (mCall 1 den_l_rows [.op (.o 1)])) [u, some (.val (.int 2)), s2, s3, s4, s5, s6, s7, s8, s9] = .nx [u, some (.val (.int 2)), some (.val rw2), s3, s4, s5, s6, s7, s8, s9] := by kernel_rfl
theorem s1_2 : sSet 3 (mPl (mLc (mIt (mVar 2)) [9] (gN 9) (fun e => .ok true e) cm3_l_right)) [u, some (.val (.int 2)), some (.val rw2), s3, s4, s5, s6, s7, s8, s9] = .nx [u, some (.val (.int 2)), some (.val rw2), some (.val mt2), s4, s5, s6, s7, s8, s9] := by kernel_rfl
theorem s2_2 : sPar [4, 5] [.op (.p (mV (mCall 2 den_l_lowest [.op (.p (mOp fSum [.o 3])), .op (.p (mOp fLen [.o 2]))]))), .op (.p (mOp fTuple [.p (mPl (mLc (mRng1 (.p (mOp fAdd [.p (mOp fMax [.o 3]), .p (mC (.int 1))]))) [7] (gN 7) (fun e => .ok true e) cm2_l_right))]))] [u, some (.val (.int 2)), some (.val rw2), some (.val mt2), s4, s5, s6, s7, s8, s9] = .nx [u, some (.val (.int 2)), some (.val rw2), some (.val mt2), some (.val mn2), some (.val ty2), s6, s7, s8, s9] := by kernel_rfl
theorem s3_2 : sSet 6 (mPl (mLst [.p (mV (mCall 1 den_mean_meetings [.op (.o 1)])), .p (mV (mCallK 1 [0] den_mean_meetings [.op (.o 1)])), .p (mV (mCall 1 den_meeting_tally [.op (.o 1)])), .p (mV (mCallK 1 [0] den_meeting_tally [.op (.o 1)]))])) [u, some (.val (.int 2)), some (.val rw2), some (.val mt2), some (.val mn2), some (.val ty2), s6, s7, s8, s9] = .nx [u, some (.val (.int 2)), some (.val rw2), some (.val mt2), some (.val mn2), some (.val ty2), some (.val td2), s7, s8, s9] := by kernel_rfl
theorem s4_2 : sIf (mOrB (mOpB fNe [.p (mOp fRepr [.o 6]), .p (mOp fRepr [.p (mPl (mLst [.o 4, .o 4, .o 5, .o 5]))])]) (mOpB fNe [.o 4, .p (mV (mCall 2 den_l_lowest [.op (.p (mOp fMul [.o 1, .p (mOp fSub [.o 1, .p (mC (.int 1))])])), .op (.p (mC (.int 8)))]))])) (sRet (mC (.bool false))) sPass [u, some (.val (.int 2)), some (.val rw2), some (.val mt2), some (.val mn2), some (.val ty2), some (.val td2), s7, s8, s9] = .nx [u, some (.val (.int 2)), some (.val rw2), some (.val mt2), some (.val mn2), some (.val ty2), some (.val td2), s7, s8, s9] := by kernel_rfl
theorem k0_2 : lp1_l_right [u, some (.val (.int 2)), some (.val rw2), some (.val mt2), some (.val mn2), some (.val ty2), some (.val td2), some (.val (.int 0)), s8, s9] = .nx [u, some (.val (.int 2)), some (.val rw2), some (.val mt2), some (.val mn2), some (.val ty2), some (.val td2), some (.val (.int 0)), some (.val (.tuple [.int 3, .int 4])), s9] := by kernel_rfl
theorem k1_2 : lp1_l_right [u, some (.val (.int 2)), some (.val rw2), some (.val mt2), some (.val mn2), some (.val ty2), some (.val td2), some (.val (.int 1)), s8, s9] = .nx [u, some (.val (.int 2)), some (.val rw2), some (.val mt2), some (.val mn2), some (.val ty2), some (.val td2), some (.val (.int 1)), some (.val (.tuple [.int 1, .int 4])), s9] := by kernel_rfl
theorem rg_2 : mRng1 (.o 1) [u, some (.val (.int 2)), some (.val rw2), some (.val mt2), some (.val mn2), some (.val ty2), some (.val td2), s7, s8, s9] = .ok [.int 0, .int 1] [u, some (.val (.int 2)), some (.val rw2), some (.val mt2), some (.val mn2), some (.val ty2), some (.val td2), s7, s8, s9] := by kernel_rfl
theorem lp_2 : ∃ t2 t3 t4 t5 t6 t7 t8 t9, lp4_l_right [u, some (.val (.int 2)), s2, s3, s4, s5, s6, s7, s8, s9] = .nx [u, some (.val (.int 2)), t2, t3, t4, t5, t6, t7, t8, t9] := by
  refine ⟨some (.val rw2), some (.val mt2), some (.val mn2), some (.val ty2), some (.val td2), some (.val (.int 1)), some (.val (.tuple [.int 1, .int 4])), s9, ?_⟩
  refine Eq.trans (seq_nx (s0_2 u s2 s3 s4 s5 s6 s7 s8 s9)) ?_
  refine Eq.trans (seq_nx (s1_2 u s3 s4 s5 s6 s7 s8 s9)) ?_
  refine Eq.trans (seq_nx (s2_2 u s4 s5 s6 s7 s8 s9)) ?_
  refine Eq.trans (seq_nx (s3_2 u s6 s7 s8 s9)) ?_
  refine Eq.trans (seq_nx (s4_2 u s7 s8 s9)) ?_
  refine Eq.trans (for_at (rg_2 u s7 s8 s9)) ?_
  refine Eq.trans (loop_nx (k0_2 u s8 s9) rfl) ?_
  refine Eq.trans (loop_nx (k1_2 u (some (.val (.tuple [.int 3, .int 4]))) s9) rfl) ?_
  rfl
end
def rw3 : D := .list [.tuple [.int 3, .int 0], .tuple [.int 2, .int 0], .tuple [.int 2, .int 1], .tuple [.int 1, .int 0], .tuple [.int 2, .int 2], .tuple [.int 1, .int 1], .tuple [.int 1, .int 2], .tuple [.int 0, .int 0]]
def mt3 : D := .list [.int 0, .int 0, .int 1, .int 0, .int 2, .int 1, .int 2, .int 0]
def mn3 : D := .tuple [.int 3, .int 4]
def ty3 : D := .tuple [.int 4, .int 2, .int 2]
def td3 : D := .list [.tuple [.int 3, .int 4], .tuple [.int 3, .int 4], .tuple [.int 4, .int 2, .int 2], .tuple [.int 4, .int 2, .int 2]]
section
variable (u s2 s3 s4 s5 s6 s7 s8 s9 : Option Sl)
theorem s0_3 : sSet 2 (mV (mCall 1 den_l_rows [.op (.o 1)])) [u, some (.val (.int 3)), s2, s3, s4, s5, s6, s7, s8, s9] = .nx [u, some (.val (.int 3)), some (.val rw3), s3, s4, s5, s6, s7, s8, s9] := by kernel_rfl
theorem s1_3 : sSet 3 (mPl (mLc (mIt (mVar 2)) [9] (gN 9) (fun e => .ok true e) cm3_l_right)) [u, some (.val (.int 3)), some (.val rw3), s3, s4, s5, s6, s7, s8, s9] = .nx [u, some (.val (.int 3)), some (.val rw3), some (.val mt3), s4, s5, s6, s7, s8, s9] := by kernel_rfl
theorem s2_3 : sPar [4, 5] [.op (.p (mV (mCall 2 den_l_lowest [.op (.p (mOp fSum [.o 3])), .op (.p (mOp fLen [.o 2]))]))), .op (.p (mOp fTuple [.p (mPl (mLc (mRng1 (.p (mOp fAdd [.p (mOp fMax [.o 3]), .p (mC (.int 1))]))) [7] (gN 7) (fun e => .ok true e) cm2_l_right))]))] [u, some (.val (.int 3)), some (.val rw3), some (.val mt3), s4, s5, s6, s7, s8, s9] = .nx [u, some (.val (.int 3)), some (.val rw3), some (.val mt3), some (.val mn3), some (.val ty3), s6, s7, s8, s9] := by kernel_rfl
theorem s3_3 : sSet 6 (mPl (mLst [.p (mV (mCall 1 den_mean_meetings [.op (.o 1)])), .p (mV (mCallK 1 [0] den_mean_meetings [.op (.o 1)])), .p (mV (mCall 1 den_meeting_tally [.op (.o 1)])), .p (mV (mCallK 1 [0] den_meeting_tally [.op (.o 1)]))])) [u, some (.val (.int 3)), some (.val rw3), some (.val mt3), some (.val mn3), some (.val ty3), s6, s7, s8, s9] = .nx [u, some (.val (.int 3)), some (.val rw3), some (.val mt3), some (.val mn3), some (.val ty3), some (.val td3), s7, s8, s9] := by kernel_rfl
theorem s4_3 : sIf (mOrB (mOpB fNe [.p (mOp fRepr [.o 6]), .p (mOp fRepr [.p (mPl (mLst [.o 4, .o 4, .o 5, .o 5]))])]) (mOpB fNe [.o 4, .p (mV (mCall 2 den_l_lowest [.op (.p (mOp fMul [.o 1, .p (mOp fSub [.o 1, .p (mC (.int 1))])])), .op (.p (mC (.int 8)))]))])) (sRet (mC (.bool false))) sPass [u, some (.val (.int 3)), some (.val rw3), some (.val mt3), some (.val mn3), some (.val ty3), some (.val td3), s7, s8, s9] = .nx [u, some (.val (.int 3)), some (.val rw3), some (.val mt3), some (.val mn3), some (.val ty3), some (.val td3), s7, s8, s9] := by kernel_rfl
theorem k0_3 : lp1_l_right [u, some (.val (.int 3)), some (.val rw3), some (.val mt3), some (.val mn3), some (.val ty3), some (.val td3), some (.val (.int 0)), s8, s9] = .nx [u, some (.val (.int 3)), some (.val rw3), some (.val mt3), some (.val mn3), some (.val ty3), some (.val td3), some (.val (.int 0)), some (.val (.tuple [.int 7, .int 8])), s9] := by kernel_rfl
theorem k1_3 : lp1_l_right [u, some (.val (.int 3)), some (.val rw3), some (.val mt3), some (.val mn3), some (.val ty3), some (.val td3), some (.val (.int 1)), s8, s9] = .nx [u, some (.val (.int 3)), some (.val rw3), some (.val mt3), some (.val mn3), some (.val ty3), some (.val td3), some (.val (.int 1)), some (.val (.tuple [.int 1, .int 2])), s9] := by kernel_rfl
theorem k2_3 : lp1_l_right [u, some (.val (.int 3)), some (.val rw3), some (.val mt3), some (.val mn3), some (.val ty3), some (.val td3), some (.val (.int 2)), s8, s9] = .nx [u, some (.val (.int 3)), some (.val rw3), some (.val mt3), some (.val mn3), some (.val ty3), some (.val td3), some (.val (.int 2)), some (.val (.tuple [.int 1, .int 8])), s9] := by kernel_rfl
theorem rg_3 : mRng1 (.o 1) [u, some (.val (.int 3)), some (.val rw3), some (.val mt3), some (.val mn3), some (.val ty3), some (.val td3), s7, s8, s9] = .ok [.int 0, .int 1, .int 2] [u, some (.val (.int 3)), some (.val rw3), some (.val mt3), some (.val mn3), some (.val ty3), some (.val td3), s7, s8, s9] := by kernel_rfl
theorem lp_3 : ∃ t2 t3 t4 t5 t6 t7 t8 t9, lp4_l_right [u, some (.val (.int 3)), s2, s3, s4, s5, s6, s7, s8, s9] = .nx [u, some (.val (.int 3)), t2, t3, t4, t5, t6, t7, t8, t9] := by
  refine ⟨some (.val rw3), some (.val mt3), some (.val mn3), some (.val ty3), some (.val td3), some (.val (.int 2)), some (.val (.tuple [.int 1, .int 8])), s9, ?_⟩
  refine Eq.trans (seq_nx (s0_3 u s2 s3 s4 s5 s6 s7 s8 s9)) ?_
  refine Eq.trans (seq_nx (s1_3 u s3 s4 s5 s6 s7 s8 s9)) ?_
  refine Eq.trans (seq_nx (s2_3 u s4 s5 s6 s7 s8 s9)) ?_
  refine Eq.trans (seq_nx (s3_3 u s6 s7 s8 s9)) ?_
  refine Eq.trans (seq_nx (s4_3 u s7 s8 s9)) ?_
  refine Eq.trans (for_at (rg_3 u s7 s8 s9)) ?_
  refine Eq.trans (loop_nx (k0_3 u s8 s9) rfl) ?_
  refine Eq.trans (loop_nx (k1_3 u (some (.val (.tuple [.int 7, .int 8]))) s9) rfl) ?_
  refine Eq.trans (loop_nx (k2_3 u (some (.val (.tuple [.int 1, .int 2]))) s9) rfl) ?_
  rfl
end
def rw4 : D := .list [.tuple [.int 4, .int 0], .tuple [.int 3, .int 0], .tuple [.int 3, .int 1], .tuple [.int 2, .int 0], .tuple [.int 3, .int 2], .tuple [.int 2, .int 1], .tuple [.int 2, .int 2], .tuple [.int 1, .int 0], .tuple [.int 3, .int 3], .tuple [.int 2, .int 2], .tuple [.int 2, .int 3], .tuple [.int 1, .int 1], .tuple [.int 2, .int 4], .tuple [.int 1, .int 2], .tuple [.int 1, .int 3], .tuple [.int 0, .int 0]]
def mt4 : D := .list [.int 0, .int 0, .int 1, .int 0, .int 2, .int 1, .int 2, .int 0, .int 3, .int 2, .int 3, .int 1, .int 4, .int 2, .int 3, .int 0]
def mn4 : D := .tuple [.int 3, .int 2]
def ty4 : D := .tuple [.int 5, .int 3, .int 4, .int 3, .int 1]
def td4 : D := .list [.tuple [.int 3, .int 2], .tuple [.int 3, .int 2], .tuple [.int 5, .int 3, .int 4, .int 3, .int 1], .tuple [.int 5, .int 3, .int 4, .int 3, .int 1]]
section
variable (u s2 s3 s4 s5 s6 s7 s8 s9 : Option Sl)
theorem s0_4 : sSet 2 (mV (mCall 1 den_l_rows [.op (.o 1)])) [u, some (.val (.int 4)), s2, s3, s4, s5, s6, s7, s8, s9] = .nx [u, some (.val (.int 4)), some (.val rw4), s3, s4, s5, s6, s7, s8, s9] := by kernel_rfl
theorem s1_4 : sSet 3 (mPl (mLc (mIt (mVar 2)) [9] (gN 9) (fun e => .ok true e) cm3_l_right)) [u, some (.val (.int 4)), some (.val rw4), s3, s4, s5, s6, s7, s8, s9] = .nx [u, some (.val (.int 4)), some (.val rw4), some (.val mt4), s4, s5, s6, s7, s8, s9] := by kernel_rfl
theorem s2_4 : sPar [4, 5] [.op (.p (mV (mCall 2 den_l_lowest [.op (.p (mOp fSum [.o 3])), .op (.p (mOp fLen [.o 2]))]))), .op (.p (mOp fTuple [.p (mPl (mLc (mRng1 (.p (mOp fAdd [.p (mOp fMax [.o 3]), .p (mC (.int 1))]))) [7] (gN 7) (fun e => .ok true e) cm2_l_right))]))] [u, some (.val (.int 4)), some (.val rw4), some (.val mt4), s4, s5, s6, s7, s8, s9] = .nx [u, some (.val (.int 4)), some (.val rw4), some (.val mt4), some (.val mn4), some (.val ty4), s6, s7, s8, s9] := by kernel_rfl
theorem s3_4 : sSet 6 (mPl (mLst [.p (mV (mCall 1 den_mean_meetings [.op (.o 1)])), .p (mV (mCallK 1 [0] den_mean_meetings [.op (.o 1)])), .p (mV (mCall 1 den_meeting_tally [.op (.o 1)])), .p (mV (mCallK 1 [0] den_meeting_tally [.op (.o 1)]))])) [u, some (.val (.int 4)), some (.val rw4), some (.val mt4), some (.val mn4), some (.val ty4), s6, s7, s8, s9] = .nx [u, some (.val (.int 4)), some (.val rw4), some (.val mt4), some (.val mn4), some (.val ty4), some (.val td4), s7, s8, s9] := by kernel_rfl
theorem s4_4 : sIf (mOrB (mOpB fNe [.p (mOp fRepr [.o 6]), .p (mOp fRepr [.p (mPl (mLst [.o 4, .o 4, .o 5, .o 5]))])]) (mOpB fNe [.o 4, .p (mV (mCall 2 den_l_lowest [.op (.p (mOp fMul [.o 1, .p (mOp fSub [.o 1, .p (mC (.int 1))])])), .op (.p (mC (.int 8)))]))])) (sRet (mC (.bool false))) sPass [u, some (.val (.int 4)), some (.val rw4), some (.val mt4), some (.val mn4), some (.val ty4), some (.val td4), s7, s8, s9] = .nx [u, some (.val (.int 4)), some (.val rw4), some (.val mt4), some (.val mn4), some (.val ty4), some (.val td4), s7, s8, s9] := by kernel_rfl
theorem k0_4 : lp1_l_right [u, some (.val (.int 4)), some (.val rw4), some (.val mt4), some (.val mn4), some (.val ty4), some (.val td4), some (.val (.int 0)), s8, s9] = .nx [u, some (.val (.int 4)), some (.val rw4), some (.val mt4), some (.val mn4), some (.val ty4), some (.val td4), some (.val (.int 0)), some (.val (.tuple [.int 15, .int 16])), s9] := by kernel_rfl
theorem k1_4 : lp1_l_right [u, some (.val (.int 4)), some (.val rw4), some (.val mt4), some (.val mn4), some (.val ty4), some (.val td4), some (.val (.int 1)), s8, s9] = .nx [u, some (.val (.int 4)), some (.val rw4), some (.val mt4), some (.val mn4), some (.val ty4), some (.val td4), some (.val (.int 1)), some (.val (.tuple [.int 11, .int 16])), s9] := by kernel_rfl
theorem k2_4 : lp1_l_right [u, some (.val (.int 4)), some (.val rw4), some (.val mt4), some (.val mn4), some (.val ty4), some (.val td4), some (.val (.int 2)), s8, s9] = .nx [u, some (.val (.int 4)), some (.val rw4), some (.val mt4), some (.val mn4), some (.val ty4), some (.val td4), some (.val (.int 2)), some (.val (.tuple [.int 5, .int 16])), s9] := by kernel_rfl
theorem k3_4 : lp1_l_right [u, some (.val (.int 4)), some (.val rw4), some (.val mt4), some (.val mn4), some (.val ty4), some (.val td4), some (.val (.int 3)), s8, s9] = .nx [u, some (.val (.int 4)), some (.val rw4), some (.val mt4), some (.val mn4), some (.val ty4), some (.val td4), some (.val (.int 3)), some (.val (.tuple [.int 1, .int 16])), s9] := by kernel_rfl
theorem rg_4 : mRng1 (.o 1) [u, some (.val (.int 4)), some (.val rw4), some (.val mt4), some (.val mn4), some (.val ty4), some (.val td4), s7, s8, s9] = .ok [.int 0, .int 1, .int 2, .int 3] [u, some (.val (.int 4)), some (.val rw4), some (.val mt4), some (.val mn4), some (.val ty4), some (.val td4), s7, s8, s9] := by kernel_rfl
theorem lp_4 : ∃ t2 t3 t4 t5 t6 t7 t8 t9, lp4_l_right [u, some (.val (.int 4)), s2, s3, s4, s5, s6, s7, s8, s9] = .nx [u, some (.val (.int 4)), t2, t3, t4, t5, t6, t7, t8, t9] := by
  refine ⟨some (.val rw4), some (.val mt4), some (.val mn4), some (.val ty4), some (.val td4), some (.val (.int 3)), some (.val (.tuple [.int 1, .int 16])), s9, ?_⟩
  refine Eq.trans (seq_nx (s0_4 u s2 s3 s4 s5 s6 s7 s8 s9)) ?_
  refine Eq.trans (seq_nx (s1_4 u s3 s4 s5 s6 s7 s8 s9)) ?_
  refine Eq.trans (seq_nx (s2_4 u s4 s5 s6 s7 s8 s9)) ?_
  refine Eq.trans (seq_nx (s3_4 u s6 s7 s8 s9)) ?_
  refine Eq.trans (seq_nx (s4_4 u s7 s8 s9)) ?_
  refine Eq.trans (for_at (rg_4 u s7 s8 s9)) ?_
  refine Eq.trans (loop_nx (k0_4 u s8 s9) rfl) ?_
  refine Eq.trans (loop_nx (k1_4 u (some (.val (.tuple [.int 15, .int 16]))) s9) rfl) ?_
  refine Eq.trans (loop_nx (k2_4 u (some (.val (.tuple [.int 11, .int 16]))) s9) rfl) ?_
  refine Eq.trans (loop_nx (k3_4 u (some (.val (.tuple [.int 5, .int 16]))) s9) rfl) ?_
  rfl
end
def rw5 : D := .list [.tuple [.int 5, .int 0], .tuple [.int 4, .int 0], .tuple [.int 4, .int 1], .tuple [.int 3, .int 0], .tuple [.int 4, .int 2], .tuple [.int 3, .int 1], .tuple [.int 3, .int 2], .tuple [.int 2, .int 0], .tuple [.int 4, .int 3], .tuple [.int 3, .int 2], .tuple [.int 3, .int 3], .tuple [.int 2, .int 1], .tuple [.int 3, .int 4], .tuple [.int 2, .int 2], .tuple [.int 2, .int 3], .tuple [.int 1, .int 0], .tuple [.int 4, .int 4], .tuple [.int 3, .int 3], .tuple [.int 3, .int 4], .tuple [.int 2, .int 2], .tuple [.int 3, .int 5], .tuple [.int 2, .int 3], .tuple [.int 2, .int 4], .tuple [.int 1, .int 1], .tuple [.int 3, .int 6], .tuple [.int 2, .int 4], .tuple [.int 2, .int 5], .tuple [.int 1, .int 2], .tuple [.int 2, .int 6], .tuple [.int 1, .int 3], .tuple [.int 1, .int 4], .tuple [.int 0, .int 0]]
def mt5 : D := .list [.int 0, .int 0, .int 1, .int 0, .int 2, .int 1, .int 2, .int 0, .int 3, .int 2, .int 3, .int 1, .int 4, .int 2, .int 3, .int 0, .int 4, .int 3, .int 4, .int 2, .int 5, .int 3, .int 4, .int 1, .int 6, .int 4, .int 5, .int 2, .int 6, .int 3, .int 4, .int 0]
def mn5 : D := .tuple [.int 5, .int 2]
def ty5 : D := .tuple [.int 6, .int 4, .int 6, .int 6, .int 6, .int 2, .int 2]
def td5 : D := .list [.tuple [.int 5, .int 2], .tuple [.int 5, .int 2], .tuple [.int 6, .int 4, .int 6, .int 6, .int 6, .int 2, .int 2], .tuple [.int 6, .int 4, .int 6, .int 6, .int 6, .int 2, .int 2]]
section
variable (u s2 s3 s4 s5 s6 s7 s8 s9 : Option Sl)
theorem s0_5 : sSet 2 (mV (mCall 1 den_l_rows [.op (.o 1)])) [u, some (.val (.int 5)), s2, s3, s4, s5, s6, s7, s8, s9] = .nx [u, some (.val (.int 5)), some (.val rw5), s3, s4, s5, s6, s7, s8, s9] := by kernel_rfl
theorem s1_5 : sSet 3 (mPl (mLc (mIt (mVar 2)) [9] (gN 9) (fun e => .ok true e) cm3_l_right)) [u, some (.val (.int 5)), some (.val rw5), s3, s4, s5, s6, s7, s8, s9] = .nx [u, some (.val (.int 5)), some (.val rw5), some (.val mt5), s4, s5, s6, s7, s8, s9] := by kernel_rfl
theorem s2_5 : sPar [4, 5] [.op (.p (mV (mCall 2 den_l_lowest [.op (.p (mOp fSum [.o 3])), .op (.p (mOp fLen [.o 2]))]))), .op (.p (mOp fTuple [.p (mPl (mLc (mRng1 (.p (mOp fAdd [.p (mOp fMax [.o 3]), .p (mC (.int 1))]))) [7] (gN 7) (fun e => .ok true e) cm2_l_right))]))] [u, some (.val (.int 5)), some (.val rw5), some (.val mt5), s4, s5, s6, s7, s8, s9] = .nx [u, some (.val (.int 5)), some (.val rw5), some (.val mt5), some (.val mn5), some (.val ty5), s6, s7, s8, s9] := by kernel_rfl
theorem s3_5 : sSet 6 (mPl (mLst [.p (mV (mCall 1 den_mean_meetings [.op (.o 1)])), .p (mV (mCallK 1 [0] den_mean_meetings [.op (.o 1)])), .p (mV (mCall 1 den_meeting_tally [.op (.o 1)])), .p (mV (mCallK 1 [0] den_meeting_tally [.op (.o 1)]))])) [u, some (.val (.int 5)), some (.val rw5), some (.val mt5), some (.val mn5), some (.val ty5), s6, s7, s8, s9] = .nx [u, some (.val (.int 5)), some (.val rw5), some (.val mt5), some (.val mn5), some (.val ty5), some (.val td5), s7, s8, s9] := by kernel_rfl
theorem s4_5 : sIf (mOrB (mOpB fNe [.p (mOp fRepr [.o 6]), .p (mOp fRepr [.p (mPl (mLst [.o 4, .o 4, .o 5, .o 5]))])]) (mOpB fNe [.o 4, .p (mV (mCall 2 den_l_lowest [.op (.p (mOp fMul [.o 1, .p (mOp fSub [.o 1, .p (mC (.int 1))])])), .op (.p (mC (.int 8)))]))])) (sRet (mC (.bool false))) sPass [u, some (.val (.int 5)), some (.val rw5), some (.val mt5), some (.val mn5), some (.val ty5), some (.val td5), s7, s8, s9] = .nx [u, some (.val (.int 5)), some (.val rw5), some (.val mt5), some (.val mn5), some (.val ty5), some (.val td5), s7, s8, s9] := by kernel_rfl
theorem k0_5 : lp1_l_right [u, some (.val (.int 5)), some (.val rw5), some (.val mt5), some (.val mn5), some (.val ty5), some (.val td5), some (.val (.int 0)), s8, s9] = .nx [u, some (.val (.int 5)), some (.val rw5), some (.val mt5), some (.val mn5), some (.val ty5), some (.val td5), some (.val (.int 0)), some (.val (.tuple [.int 31, .int 32])), s9] := by kernel_rfl
theorem k1_5 : lp1_l_right [u, some (.val (.int 5)), some (.val rw5), some (.val mt5), some (.val mn5), some (.val ty5), some (.val td5), some (.val (.int 1)), s8, s9] = .nx [u, some (.val (.int 5)), some (.val rw5), some (.val mt5), some (.val mn5), some (.val ty5), some (.val td5), some (.val (.int 1)), some (.val (.tuple [.int 13, .int 16])), s9] := by kernel_rfl
theorem k2_5 : lp1_l_right [u, some (.val (.int 5)), some (.val rw5), some (.val mt5), some (.val mn5), some (.val ty5), some (.val td5), some (.val (.int 2)), s8, s9] = .nx [u, some (.val (.int 5)), some (.val rw5), some (.val mt5), some (.val mn5), some (.val ty5), some (.val td5), some (.val (.int 2)), some (.val (.tuple [.int 1, .int 2])), s9] := by kernel_rfl
theorem k3_5 : lp1_l_right [u, some (.val (.int 5)), some (.val rw5), some (.val mt5), some (.val mn5), some (.val ty5), some (.val td5), some (.val (.int 3)), s8, s9] = .nx [u, some (.val (.int 5)), some (.val rw5), some (.val mt5), some (.val mn5), some (.val ty5), some (.val td5), some (.val (.int 3)), some (.val (.tuple [.int 3, .int 16])), s9] := by kernel_rfl
theorem k4_5 : lp1_l_right [u, some (.val (.int 5)), some (.val rw5), some (.val mt5), some (.val mn5), some (.val ty5), some (.val td5), some (.val (.int 4)), s8, s9] = .nx [u, some (.val (.int 5)), some (.val rw5), some (.val mt5), some (.val mn5), some (.val ty5), some (.val td5), some (.val (.int 4)), some (.val (.tuple [.int 1, .int 32])), s9] := by kernel_rfl
theorem rg_5 : mRng1 (.o 1) [u, some (.val (.int 5)), some (.val rw5), some (.val mt5), some (.val mn5), some (.val ty5), some (.val td5), s7, s8, s9] = .ok [.int 0, .int 1, .int 2, .int 3, .int 4] [u, some (.val (.int 5)), some (.val rw5), some (.val mt5), some (.val mn5), some (.val ty5), some (.val td5), s7, s8, s9] := by kernel_rfl
theorem lp_5 : ∃ t2 t3 t4 t5 t6 t7 t8 t9, lp4_l_right [u, some (.val (.int 5)), s2, s3, s4, s5, s6, s7, s8, s9] = .nx [u, some (.val (.int 5)), t2, t3, t4, t5, t6, t7, t8, t9] := by
  refine ⟨some (.val rw5), some (.val mt5), some (.val mn5), some (.val ty5), some (.val td5), some (.val (.int 4)), some (.val (.tuple [.int 1, .int 32])), s9, ?_⟩
  refine Eq.trans (seq_nx (s0_5 u s2 s3 s4 s5 s6 s7 s8 s9)) ?_
  refine Eq.trans (seq_nx (s1_5 u s3 s4 s5 s6 s7 s8 s9)) ?_
  refine Eq.trans (seq_nx (s2_5 u s4 s5 s6 s7 s8 s9)) ?_
  refine Eq.trans (seq_nx (s3_5 u s6 s7 s8 s9)) ?_
  refine Eq.trans (seq_nx (s4_5 u s7 s8 s9)) ?_
  refine Eq.trans (for_at (rg_5 u s7 s8 s9)) ?_
  refine Eq.trans (loop_nx (k0_5 u s8 s9) rfl) ?_
  refine Eq.trans (loop_nx (k1_5 u (some (.val (.tuple [.int 31, .int 32]))) s9) rfl) ?_
  refine Eq.trans (loop_nx (k2_5 u (some (.val (.tuple [.int 13, .int 16]))) s9) rfl) ?_
  refine Eq.trans (loop_nx (k3_5 u (some (.val (.tuple [.int 1, .int 2]))) s9) rfl) ?_
  refine Eq.trans (loop_nx (k4_5 u (some (.val (.tuple [.int 3, .int 16]))) s9) rfl) ?_
  rfl
end
def rw6 : D := .list [.tuple [.int 6, .int 0], .tuple [.int 5, .int 0], .tuple [.int 5, .int 1], .tuple [.int 4, .int 0], .tuple [.int 5, .int 2], .tuple [.int 4, .int 1], .tuple [.int 4, .int 2], .tuple [.int 3, .int 0], .tuple [.int 5, .int 3], .tuple [.int 4, .int 2], .tuple [.int 4, .int 3], .tuple [.int 3, .int 1], .tuple [.int 4, .int 4], .tuple [.int 3, .int 2], .tuple [.int 3, .int 3], .tuple [.int 2, .int 0], .tuple [.int 5, .int 4], .tuple [.int 4, .int 3], .tuple [.int 4, .int 4], .tuple [.int 3, .int 2], .tuple [.int 4, .int 5], .tuple [.int 3, .int 3], .tuple [.int 3, .int 4], .tuple [.int 2, .int 1], .tuple [.int 4, .int 6], .tuple [.int 3, .int 4], .tuple [.int 3, .int 5], .tuple [.int 2, .int 2], .tuple [.int 3, .int 6], .tuple [.int 2, .int 3], .tuple [.int 2, .int 4], .tuple [.int 1, .int 0], .tuple [.int 5, .int 5], .tuple [.int 4, .int 4], .tuple [.int 4, .int 5], .tuple [.int 3, .int 3], .tuple [.int 4, .int 6], .tuple [.int 3, .int 4], .tuple [.int 3, .int 5], .tuple [.int 2, .int 2], .tuple [.int 4, .int 7], .tuple [.int 3, .int 5], .tuple [.int 3, .int 6], .tuple [.int 2, .int 3], .tuple [.int 3, .int 7], .tuple [.int 2, .int 4], .tuple [.int 2, .int 5], .tuple [.int 1, .int 1], .tuple [.int 4, .int 8], .tuple [.int 3, .int 6], .tuple [.int 3, .int 7], .tuple [.int 2, .int 4], .tuple [.int 3, .int 8], .tuple [.int 2, .int 5], .tuple [.int 2, .int 6], .tuple [.int 1, .int 2], .tuple [.int 3, .int 9], .tuple [.int 2, .int 6], .tuple [.int 2, .int 7], .tuple [.int 1, .int 3], .tuple [.int 2, .int 8], .tuple [.int 1, .int 4], .tuple [.int 1, .int 5], .tuple [.int 0, .int 0]]
def mt6 : D := .list [.int 0, .int 0, .int 1, .int 0, .int 2, .int 1, .int 2, .int 0, .int 3, .int 2, .int 3, .int 1, .int 4, .int 2, .int 3, .int 0, .int 4, .int 3, .int 4, .int 2, .int 5, .int 3, .int 4, .int 1, .int 6, .int 4, .int 5, .int 2, .int 6, .int 3, .int 4, .int 0, .int 5, .int 4, .int 5, .int 3, .int 6, .int 4, .int 5, .int 2, .int 7, .int 5, .int 6, .int 3, .int 7, .int 4, .int 5, .int 1, .int 8, .int 6, .int 7, .int 4, .int 8, .int 5, .int 6, .int 2, .int 9, .int 6, .int 7, .int 3, .int 8, .int 4, .int 5, .int 0]
def mn6 : D := .tuple [.int 15, .int 4]
def ty6 : D := .tuple [.int 7, .int 5, .int 8, .int 9, .int 11, .int 9, .int 7, .int 4, .int 3, .int 1]
def td6 : D := .list [.tuple [.int 15, .int 4], .tuple [.int 15, .int 4], .tuple [.int 7, .int 5, .int 8, .int 9, .int 11, .int 9, .int 7, .int 4, .int 3, .int 1], .tuple [.int 7, .int 5, .int 8, .int 9, .int 11, .int 9, .int 7, .int 4, .int 3, .int 1]]
section
variable (u s2 s3 s4 s5 s6 s7 s8 s9 : Option Sl)
theorem s0_6 : sSet 2 (mV (mCall 1 den_l_rows [.op (.o 1)])) [u, some (.val (.int 6)), s2, s3, s4, s5, s6, s7, s8, s9] = .nx [u, some (.val (.int 6)), some (.val rw6), s3, s4, s5, s6, s7, s8, s9] := by kernel_rfl
theorem s1_6 : sSet 3 (mPl (mLc (mIt (mVar 2)) [9] (gN 9) (fun e => .ok true e) cm3_l_right)) [u, some (.val (.int 6)), some (.val rw6), s3, s4, s5, s6, s7, s8, s9] = .nx [u, some (.val (.int 6)), some (.val rw6), some (.val mt6), s4, s5, s6, s7, s8, s9] := by kernel_rfl
theorem s2_6 : sPar [4, 5] [.op (.p (mV (mCall 2 den_l_lowest [.op (.p (mOp fSum [.o 3])), .op (.p (mOp fLen [.o 2]))]))), .op (.p (mOp fTuple [.p (mPl (mLc (mRng1 (.p (mOp fAdd [.p (mOp fMax [.o 3]), .p (mC (.int 1))]))) [7] (gN 7) (fun e => .ok true e) cm2_l_right))]))] [u, some (.val (.int 6)), some (.val rw6), some (.val mt6), s4, s5, s6, s7, s8, s9] = .nx [u, some (.val (.int 6)), some (.val rw6), some (.val mt6), some (.val mn6), some (.val ty6), s6, s7, s8, s9] := by kernel_rfl
theorem s3_6 : sSet 6 (mPl (mLst [.p (mV (mCall 1 den_mean_meetings [.op (.o 1)])), .p (mV (mCallK 1 [0] den_mean_meetings [.op (.o 1)])), .p (mV (mCall 1 den_meeting_tally [.op (.o 1)])), .p (mV (mCallK 1 [0] den_meeting_tally [.op (.o 1)]))])) [u, some (.val (.int 6)), some (.val rw6), some (.val mt6), some (.val mn6), some (.val ty6), s6, s7, s8, s9] = .nx [u, some (.val (.int 6)), some (.val rw6), some (.val mt6), some (.val mn6), some (.val ty6), some (.val td6), s7, s8, s9] := by kernel_rfl
theorem s4_6 : sIf (mOrB (mOpB fNe [.p (mOp fRepr [.o 6]), .p (mOp fRepr [.p (mPl (mLst [.o 4, .o 4, .o 5, .o 5]))])]) (mOpB fNe [.o 4, .p (mV (mCall 2 den_l_lowest [.op (.p (mOp fMul [.o 1, .p (mOp fSub [.o 1, .p (mC (.int 1))])])), .op (.p (mC (.int 8)))]))])) (sRet (mC (.bool false))) sPass [u, some (.val (.int 6)), some (.val rw6), some (.val mt6), some (.val mn6), some (.val ty6), some (.val td6), s7, s8, s9] = .nx [u, some (.val (.int 6)), some (.val rw6), some (.val mt6), some (.val mn6), some (.val ty6), some (.val td6), s7, s8, s9] := by kernel_rfl
theorem k0_6 : lp1_l_right [u, some (.val (.int 6)), some (.val rw6), some (.val mt6), some (.val mn6), some (.val ty6), some (.val td6), some (.val (.int 0)), s8, s9] = .nx [u, some (.val (.int 6)), some (.val rw6), some (.val mt6), some (.val mn6), some (.val ty6), some (.val td6), some (.val (.int 0)), some (.val (.tuple [.int 63, .int 64])), s9] := by kernel_rfl
theorem k1_6 : lp1_l_right [u, some (.val (.int 6)), some (.val rw6), some (.val mt6), some (.val mn6), some (.val ty6), some (.val td6), some (.val (.int 1)), s8, s9] = .nx [u, some (.val (.int 6)), some (.val rw6), some (.val mt6), some (.val mn6), some (.val ty6), some (.val td6), some (.val (.int 1)), some (.val (.tuple [.int 57, .int 64])), s9] := by kernel_rfl
theorem k2_6 : lp1_l_right [u, some (.val (.int 6)), some (.val rw6), some (.val mt6), some (.val mn6), some (.val ty6), some (.val td6), some (.val (.int 2)), s8, s9] = .nx [u, some (.val (.int 6)), some (.val rw6), some (.val mt6), some (.val mn6), some (.val ty6), some (.val td6), some (.val (.int 2)), some (.val (.tuple [.int 21, .int 32])), s9] := by kernel_rfl
theorem k3_6 : lp1_l_right [u, some (.val (.int 6)), some (.val rw6), some (.val mt6), some (.val mn6), some (.val ty6), some (.val td6), some (.val (.int 3)), s8, s9] = .nx [u, some (.val (.int 6)), some (.val rw6), some (.val mt6), some (.val mn6), some (.val ty6), some (.val td6), some (.val (.int 3)), some (.val (.tuple [.int 11, .int 32])), s9] := by kernel_rfl
theorem k4_6 : lp1_l_right [u, some (.val (.int 6)), some (.val rw6), some (.val mt6), some (.val mn6), some (.val ty6), some (.val td6), some (.val (.int 4)), s8, s9] = .nx [u, some (.val (.int 6)), some (.val rw6), some (.val mt6), some (.val mn6), some (.val ty6), some (.val td6), some (.val (.int 4)), some (.val (.tuple [.int 7, .int 64])), s9] := by kernel_rfl
theorem k5_6 : lp1_l_right [u, some (.val (.int 6)), some (.val rw6), some (.val mt6), some (.val mn6), some (.val ty6), some (.val td6), some (.val (.int 5)), s8, s9] = .nx [u, some (.val (.int 6)), some (.val rw6), some (.val mt6), some (.val mn6), some (.val ty6), some (.val td6), some (.val (.int 5)), some (.val (.tuple [.int 1, .int 64])), s9] := by kernel_rfl
theorem rg_6 : mRng1 (.o 1) [u, some (.val (.int 6)), some (.val rw6), some (.val mt6), some (.val mn6), some (.val ty6), some (.val td6), s7, s8, s9] = .ok [.int 0, .int 1, .int 2, .int 3, .int 4, .int 5] [u, some (.val (.int 6)), some (.val rw6), some (.val mt6), some (.val mn6), some (.val ty6), some (.val td6), s7, s8, s9] := by kernel_rfl
theorem lp_6 : ∃ t2 t3 t4 t5 t6 t7 t8 t9, lp4_l_right [u, some (.val (.int 6)), s2, s3, s4, s5, s6, s7, s8, s9] = .nx [u, some (.val (.int 6)), t2, t3, t4, t5, t6, t7, t8, t9] := by
  refine ⟨some (.val rw6), some (.val mt6), some (.val mn6), some (.val ty6), some (.val td6), some (.val (.int 5)), some (.val (.tuple [.int 1, .int 64])), s9, ?_⟩
  refine Eq.trans (seq_nx (s0_6 u s2 s3 s4 s5 s6 s7 s8 s9)) ?_
  refine Eq.trans (seq_nx (s1_6 u s3 s4 s5 s6 s7 s8 s9)) ?_
  refine Eq.trans (seq_nx (s2_6 u s4 s5 s6 s7 s8 s9)) ?_
  refine Eq.trans (seq_nx (s3_6 u s6 s7 s8 s9)) ?_
  refine Eq.trans (seq_nx (s4_6 u s7 s8 s9)) ?_
  refine Eq.trans (for_at (rg_6 u s7 s8 s9)) ?_
  refine Eq.trans (loop_nx (k0_6 u s8 s9) rfl) ?_
  refine Eq.trans (loop_nx (k1_6 u (some (.val (.tuple [.int 63, .int 64]))) s9) rfl) ?_
  refine Eq.trans (loop_nx (k2_6 u (some (.val (.tuple [.int 57, .int 64]))) s9) rfl) ?_
  refine Eq.trans (loop_nx (k3_6 u (some (.val (.tuple [.int 21, .int 32]))) s9) rfl) ?_
  refine Eq.trans (loop_nx (k4_6 u (some (.val (.tuple [.int 11, .int 32]))) s9) rfl) ?_
  refine Eq.trans (loop_nx (k5_6 u (some (.val (.tuple [.int 7, .int 64]))) s9) rfl) ?_
  rfl
end
def rw7 : D := .list [.tuple [.int 7, .int 0], .tuple [.int 6, .int 0], .tuple [.int 6, .int 1], .tuple [.int 5, .int 0], .tuple [.int 6, .int 2], .tuple [.int 5, .int 1], .tuple [.int 5, .int 2], .tuple [.int 4, .int 0], .tuple [.int 6, .int 3], .tuple [.int 5, .int 2], .tuple [.int 5, .int 3], .tuple [.int 4, .int 1], .tuple [.int 5, .int 4], .tuple [.int 4, .int 2], .tuple [.int 4, .int 3], .tuple [.int 3, .int 0], .tuple [.int 6, .int 4], .tuple [.int 5, .int 3], .tuple [.int 5, .int 4], .tuple [.int 4, .int 2], .tuple [.int 5, .int 5], .tuple [.int 4, .int 3], .tuple [.int 4, .int 4], .tuple [.int 3, .int 1], .tuple [.int 5, .int 6], .tuple [.int 4, .int 4], .tuple [.int 4, .int 5], .tuple [.int 3, .int 2], .tuple [.int 4, .int 6], .tuple [.int 3, .int 3], .tuple [.int 3, .int 4], .tuple [.int 2, .int 0], .tuple [.int 6, .int 5], .tuple [.int 5, .int 4], .tuple [.int 5, .int 5], .tuple [.int 4, .int 3], .tuple [.int 5, .int 6], .tuple [.int 4, .int 4], .tuple [.int 4, .int 5], .tuple [.int 3, .int 2], .tuple [.int 5, .int 7], .tuple [.int 4, .int 5], .tuple [.int 4, .int 6], .tuple [.int 3, .int 3], .tuple [.int 4, .int 7], .tuple [.int 3, .int 4], .tuple [.int 3, .int 5], .tuple [.int 2, .int 1], .tuple [.int 5, .int 8], .tuple [.int 4, .int 6], .tuple [.int 4, .int 7], .tuple [.int 3, .int 4], .tuple [.int 4, .int 8], .tuple [.int 3, .int 5], .tuple [.int 3, .int 6], .tuple [.int 2, .int 2], .tuple [.int 4, .int 9], .tuple [.int 3, .int 6], .tuple [.int 3, .int 7], .tuple [.int 2, .int 3], .tuple [.int 3, .int 8], .tuple [.int 2, .int 4], .tuple [.int 2, .int 5], .tuple [.int 1, .int 0], .tuple [.int 6, .int 6], .tuple [.int 5, .int 5], .tuple [.int 5, .int 6], .tuple [.int 4, .int 4], .tuple [.int 5, .int 7], .tuple [.int 4, .int 5], .tuple [.int 4, .int 6], .tuple [.int 3, .int 3], .tuple [.int 5, .int 8], .tuple [.int 4, .int 6], .tuple [.int 4, .int 7], .tuple [.int 3, .int 4], .tuple [.int 4, .int 8], .tuple [.int 3, .int 5], .tuple [.int 3, .int 6], .tuple [.int 2, .int 2], .tuple [.int 5, .int 9], .tuple [.int 4, .int 7], .tuple [.int 4, .int 8], .tuple [.int 3, .int 5], .tuple [.int 4, .int 9], .tuple [.int 3, .int 6], .tuple [.int 3, .int 7], .tuple [.int 2, .int 3], .tuple [.int 4, .int 10], .tuple [.int 3, .int 7], .tuple [.int 3, .int 8], .tuple [.int 2, .int 4], .tuple [.int 3, .int 9], .tuple [.int 2, .int 5], .tuple [.int 2, .int 6], .tuple [.int 1, .int 1], .tuple [.int 5, .int 10], .tuple [.int 4, .int 8], .tuple [.int 4, .int 9], .tuple [.int 3, .int 6], .tuple [.int 4, .int 10], .tuple [.int 3, .int 7], .tuple [.int 3, .int 8], .tuple [.int 2, .int 4], .tuple [.int 4, .int 11], .tuple [.int 3, .int 8], .tuple [.int 3, .int 9], .tuple [.int 2, .int 5], .tuple [.int 3, .int 10], .tuple [.int 2, .int 6], .tuple [.int 2, .int 7], .tuple [.int 1, .int 2], .tuple [.int 4, .int 12], .tuple [.int 3, .int 9], .tuple [.int 3, .int 10], .tuple [.int 2, .int 6], .tuple [.int 3, .int 11], .tuple [.int 2, .int 7], .tuple [.int 2, .int 8], .tuple [.int 1, .int 3], .tuple [.int 3, .int 12], .tuple [.int 2, .int 8], .tuple [.int 2, .int 9], .tuple [.int 1, .int 4], .tuple [.int 2, .int 10], .tuple [.int 1, .int 5], .tuple [.int 1, .int 6], .tuple [.int 0, .int 0]]
def mt7 : D := .list [.int 0, .int 0, .int 1, .int 0, .int 2, .int 1, .int 2, .int 0, .int 3, .int 2, .int 3, .int 1, .int 4, .int 2, .int 3, .int 0, .int 4, .int 3, .int 4, .int 2, .int 5, .int 3, .int 4, .int 1, .int 6, .int 4, .int 5, .int 2, .int 6, .int 3, .int 4, .int 0, .int 5, .int 4, .int 5, .int 3, .int 6, .int 4, .int 5, .int 2, .int 7, .int 5, .int 6, .int 3, .int 7, .int 4, .int 5, .int 1, .int 8, .int 6, .int 7, .int 4, .int 8, .int 5, .int 6, .int 2, .int 9, .int 6, .int 7, .int 3, .int 8, .int 4, .int 5, .int 0, .int 6, .int 5, .int 6, .int 4, .int 7, .int 5, .int 6, .int 3, .int 8, .int 6, .int 7, .int 4, .int 8, .int 5, .int 6, .int 2, .int 9, .int 7, .int 8, .int 5, .int 9, .int 6, .int 7, .int 3, .int 10, .int 7, .int 8, .int 4, .int 9, .int 5, .int 6, .int 1, .int 10, .int 8, .int 9, .int 6, .int 10, .int 7, .int 8, .int 4, .int 11, .int 8, .int 9, .int 5, .int 10, .int 6, .int 7, .int 2, .int 12, .int 9, .int 10, .int 6, .int 11, .int 7, .int 8, .int 3, .int 12, .int 8, .int 9, .int 4, .int 10, .int 5, .int 6, .int 0]
def mn7 : D := .tuple [.int 21, .int 4]
def ty7 : D := .tuple [.int 8, .int 6, .int 10, .int 12, .int 16, .int 16, .int 18, .int 12, .int 12, .int 8, .int 6, .int 2, .int 2]
def td7 : D := .list [.tuple [.int 21, .int 4], .tuple [.int 21, .int 4], .tuple [.int 8, .int 6, .int 10, .int 12, .int 16, .int 16, .int 18, .int 12, .int 12, .int 8, .int 6, .int 2, .int 2], .tuple [.int 8, .int 6, .int 10, .int 12, .int 16, .int 16, .int 18, .int 12, .int 12, .int 8, .int 6, .int 2, .int 2]]
section
variable (u s2 s3 s4 s5 s6 s7 s8 s9 : Option Sl)
theorem s0_7 : sSet 2 (mV (mCall 1 den_l_rows [.op (.o 1)])) [u, some (.val (.int 7)), s2, s3, s4, s5, s6, s7, s8, s9] = .nx [u, some (.val (.int 7)), some (.val rw7), s3, s4, s5, s6, s7, s8, s9] := by kernel_rfl
theorem s1_7 : sSet 3 (mPl (mLc (mIt (mVar 2)) [9] (gN 9) (fun e => .ok true e) cm3_l_right)) [u, some (.val (.int 7)), some (.val rw7), s3, s4, s5, s6, s7, s8, s9] = .nx [u, some (.val (.int 7)), some (.val rw7), some (.val mt7), s4, s5, s6, s7, s8, s9] := by kernel_rfl
theorem s2_7 : sPar [4, 5] [.op (.p (mV (mCall 2 den_l_lowest [.op (.p (mOp fSum [.o 3])), .op (.p (mOp fLen [.o 2]))]))), .op (.p (mOp fTuple [.p (mPl (mLc (mRng1 (.p (mOp fAdd [.p (mOp fMax [.o 3]), .p (mC (.int 1))]))) [7] (gN 7) (fun e => .ok true e) cm2_l_right))]))] [u, some (.val (.int 7)), some (.val rw7), some (.val mt7), s4, s5, s6, s7, s8, s9] = .nx [u, some (.val (.int 7)), some (.val rw7), some (.val mt7), some (.val mn7), some (.val ty7), s6, s7, s8, s9] := by kernel_rfl
theorem s3_7 : sSet 6 (mPl (mLst [.p (mV (mCall 1 den_mean_meetings [.op (.o 1)])), .p (mV (mCallK 1 [0] den_mean_meetings [.op (.o 1)])), .p (mV (mCall 1 den_meeting_tally [.op (.o 1)])), .p (mV (mCallK 1 [0] den_meeting_tally [.op (.o 1)]))])) [u, some (.val (.int 7)), some (.val rw7), some (.val mt7), some (.val mn7), some (.val ty7), s6, s7, s8, s9] = .nx [u, some (.val (.int 7)), some (.val rw7), some (.val mt7), some (.val mn7), some (.val ty7), some (.val td7), s7, s8, s9] := by kernel_rfl
theorem s4_7 : sIf (mOrB (mOpB fNe [.p (mOp fRepr [.o 6]), .p (mOp fRepr [.p (mPl (mLst [.o 4, .o 4, .o 5, .o 5]))])]) (mOpB fNe [.o 4, .p (mV (mCall 2 den_l_lowest [.op (.p (mOp fMul [.o 1, .p (mOp fSub [.o 1, .p (mC (.int 1))])])), .op (.p (mC (.int 8)))]))])) (sRet (mC (.bool false))) sPass [u, some (.val (.int 7)), some (.val rw7), some (.val mt7), some (.val mn7), some (.val ty7), some (.val td7), s7, s8, s9] = .nx [u, some (.val (.int 7)), some (.val rw7), some (.val mt7), some (.val mn7), some (.val ty7), some (.val td7), s7, s8, s9] := by kernel_rfl
theorem k0_7 : lp1_l_right [u, some (.val (.int 7)), some (.val rw7), some (.val mt7), some (.val mn7), some (.val ty7), some (.val td7), some (.val (.int 0)), s8, s9] = .nx [u, some (.val (.int 7)), some (.val rw7), some (.val mt7), some (.val mn7), some (.val ty7), some (.val td7), some (.val (.int 0)), some (.val (.tuple [.int 127, .int 128])), s9] := by kernel_rfl
theorem k1_7 : lp1_l_right [u, some (.val (.int 7)), some (.val rw7), some (.val mt7), some (.val mn7), some (.val ty7), some (.val td7), some (.val (.int 1)), s8, s9] = .nx [u, some (.val (.int 7)), some (.val rw7), some (.val mt7), some (.val mn7), some (.val ty7), some (.val td7), some (.val (.int 1)), some (.val (.tuple [.int 15, .int 16])), s9] := by kernel_rfl
theorem k2_7 : lp1_l_right [u, some (.val (.int 7)), some (.val rw7), some (.val mt7), some (.val mn7), some (.val ty7), some (.val td7), some (.val (.int 2)), s8, s9] = .nx [u, some (.val (.int 7)), some (.val rw7), some (.val mt7), some (.val mn7), some (.val ty7), some (.val td7), some (.val (.int 2)), some (.val (.tuple [.int 99, .int 128])), s9] := by kernel_rfl
theorem k3_7 : lp1_l_right [u, some (.val (.int 7)), some (.val rw7), some (.val mt7), some (.val mn7), some (.val ty7), some (.val td7), some (.val (.int 3)), s8, s9] = .nx [u, some (.val (.int 7)), some (.val rw7), some (.val mt7), some (.val mn7), some (.val ty7), some (.val td7), some (.val (.int 3)), some (.val (.tuple [.int 1, .int 2])), s9] := by kernel_rfl
theorem k4_7 : lp1_l_right [u, some (.val (.int 7)), some (.val rw7), some (.val mt7), some (.val mn7), some (.val ty7), some (.val td7), some (.val (.int 4)), s8, s9] = .nx [u, some (.val (.int 7)), some (.val rw7), some (.val mt7), some (.val mn7), some (.val ty7), some (.val td7), some (.val (.int 4)), some (.val (.tuple [.int 29, .int 128])), s9] := by kernel_rfl
theorem k5_7 : lp1_l_right [u, some (.val (.int 7)), some (.val rw7), some (.val mt7), some (.val mn7), some (.val ty7), some (.val td7), some (.val (.int 5)), s8, s9] = .nx [u, some (.val (.int 7)), some (.val rw7), some (.val mt7), some (.val mn7), some (.val ty7), some (.val td7), some (.val (.int 5)), some (.val (.tuple [.int 1, .int 16])), s9] := by kernel_rfl
theorem k6_7 : lp1_l_right [u, some (.val (.int 7)), some (.val rw7), some (.val mt7), some (.val mn7), some (.val ty7), some (.val td7), some (.val (.int 6)), s8, s9] = .nx [u, some (.val (.int 7)), some (.val rw7), some (.val mt7), some (.val mn7), some (.val ty7), some (.val td7), some (.val (.int 6)), some (.val (.tuple [.int 1, .int 128])), s9] := by kernel_rfl
theorem rg_7 : mRng1 (.o 1) [u, some (.val (.int 7)), some (.val rw7), some (.val mt7), some (.val mn7), some (.val ty7), some (.val td7), s7, s8, s9] = .ok [.int 0, .int 1, .int 2, .int 3, .int 4, .int 5, .int 6] [u, some (.val (.int 7)), some (.val rw7), some (.val mt7), some (.val mn7), some (.val ty7), some (.val td7), s7, s8, s9] := by kernel_rfl
theorem lp_7 : ∃ t2 t3 t4 t5 t6 t7 t8 t9, lp4_l_right [u, some (.val (.int 7)), s2, s3, s4, s5, s6, s7, s8, s9] = .nx [u, some (.val (.int 7)), t2, t3, t4, t5, t6, t7, t8, t9] := by
  refine ⟨some (.val rw7), some (.val mt7), some (.val mn7), some (.val ty7), some (.val td7), some (.val (.int 6)), some (.val (.tuple [.int 1, .int 128])), s9, ?_⟩
  refine Eq.trans (seq_nx (s0_7 u s2 s3 s4 s5 s6 s7 s8 s9)) ?_
  refine Eq.trans (seq_nx (s1_7 u s3 s4 s5 s6 s7 s8 s9)) ?_
  refine Eq.trans (seq_nx (s2_7 u s4 s5 s6 s7 s8 s9)) ?_
  refine Eq.trans (seq_nx (s3_7 u s6 s7 s8 s9)) ?_
  refine Eq.trans (seq_nx (s4_7 u s7 s8 s9)) ?_
  refine Eq.trans (for_at (rg_7 u s7 s8 s9)) ?_
  refine Eq.trans (loop_nx (k0_7 u s8 s9) rfl) ?_
  refine Eq.trans (loop_nx (k1_7 u (some (.val (.tuple [.int 127, .int 128]))) s9) rfl) ?_
  refine Eq.trans (loop_nx (k2_7 u (some (.val (.tuple [.int 15, .int 16]))) s9) rfl) ?_
  refine Eq.trans (loop_nx (k3_7 u (some (.val (.tuple [.int 99, .int 128]))) s9) rfl) ?_
  refine Eq.trans (loop_nx (k4_7 u (some (.val (.tuple [.int 1, .int 2]))) s9) rfl) ?_
  refine Eq.trans (loop_nx (k5_7 u (some (.val (.tuple [.int 29, .int 128]))) s9) rfl) ?_
  refine Eq.trans (loop_nx (k6_7 u (some (.val (.tuple [.int 1, .int 16]))) s9) rfl) ?_
  rfl
end
def rw8 : D := .list [.tuple [.int 8, .int 0], .tuple [.int 7, .int 0], .tuple [.int 7, .int 1], .tuple [.int 6, .int 0], .tuple [.int 7, .int 2], .tuple [.int 6, .int 1], .tuple [.int 6, .int 2], .tuple [.int 5, .int 0], .tuple [.int 7, .int 3], .tuple [.int 6, .int 2], .tuple [.int 6, .int 3], .tuple [.int 5, .int 1], .tuple [.int 6, .int 4], .tuple [.int 5, .int 2], .tuple [.int 5, .int 3], .tuple [.int 4, .int 0], .tuple [.int 7, .int 4], .tuple [.int 6, .int 3], .tuple [.int 6, .int 4], .tuple [.int 5, .int 2], .tuple [.int 6, .int 5], .tuple [.int 5, .int 3], .tuple [.int 5, .int 4], .tuple [.int 4, .int 1], .tuple [.int 6, .int 6], .tuple [.int 5, .int 4], .tuple [.int 5, .int 5], .tuple [.int 4, .int 2], .tuple [.int 5, .int 6], .tuple [.int 4, .int 3], .tuple [.int 4, .int 4], .tuple [.int 3, .int 0], .tuple [.int 7, .int 5], .tuple [.int 6, .int 4], .tuple [.int 6, .int 5], .tuple [.int 5, .int 3], .tuple [.int 6, .int 6], .tuple [.int 5, .int 4], .tuple [.int 5, .int 5], .tuple [.int 4, .int 2], .tuple [.int 6, .int 7], .tuple [.int 5, .int 5], .tuple [.int 5, .int 6], .tuple [.int 4, .int 3], .tuple [.int 5, .int 7], .tuple [.int 4, .int 4], .tuple [.int 4, .int 5], .tuple [.int 3, .int 1], .tuple [.int 6, .int 8], .tuple [.int 5, .int 6], .tuple [.int 5, .int 7], .tuple [.int 4, .int 4], .tuple [.int 5, .int 8], .tuple [.int 4, .int 5], .tuple [.int 4, .int 6], .tuple [.int 3, .int 2], .tuple [.int 5, .int 9], .tuple [.int 4, .int 6], .tuple [.int 4, .int 7], .tuple [.int 3, .int 3], .tuple [.int 4, .int 8], .tuple [.int 3, .int 4], .tuple [.int 3, .int 5], .tuple [.int 2, .int 0], .tuple [.int 7, .int 6], .tuple [.int 6, .int 5], .tuple [.int 6, .int 6], .tuple [.int 5, .int 4], .tuple [.int 6, .int 7], .tuple [.int 5, .int 5], .tuple [.int 5, .int 6], .tuple [.int 4, .int 3], .tuple [.int 6, .int 8], .tuple [.int 5, .int 6], .tuple [.int 5, .int 7], .tuple [.int 4, .int 4], .tuple [.int 5, .int 8], .tuple [.int 4, .int 5], .tuple [.int 4, .int 6], .tuple [.int 3, .int 2], .tuple [.int 6, .int 9], .tuple [.int 5, .int 7], .tuple [.int 5, .int 8], .tuple [.int 4, .int 5], .tuple [.int 5, .int 9], .tuple [.int 4, .int 6], .tuple [.int 4, .int 7], .tuple [.int 3, .int 3], .tuple [.int 5, .int 10], .tuple [.int 4, .int 7], .tuple [.int 4, .int 8], .tuple [.int 3, .int 4], .tuple [.int 4, .int 9], .tuple [.int 3, .int 5], .tuple [.int 3, .int 6], .tuple [.int 2, .int 1], .tuple [.int 6, .int 10], .tuple [.int 5, .int 8], .tuple [.int 5, .int 9], .tuple [.int 4, .int 6], .tuple [.int 5, .int 10], .tuple [.int 4, .int 7], .tuple [.int 4, .int 8], .tuple [.int 3, .int 4], .tuple [.int 5, .int 11], .tuple [.int 4, .int 8], .tuple [.int 4, .int 9], .tuple [.int 3, .int 5], .tuple [.int 4, .int 10], .tuple [.int 3, .int 6], .tuple [.int 3, .int 7], .tuple [.int 2, .int 2], .tuple [.int 5, .int 12], .tuple [.int 4, .int 9], .tuple [.int 4, .int 10], .tuple [.int 3, .int 6], .tuple [.int 4, .int 11], .tuple [.int 3, .int 7], .tuple [.int 3, .int 8], .tuple [.int 2, .int 3], .tuple [.int 4, .int 12], .tuple [.int 3, .int 8], .tuple [.int 3, .int 9], .tuple [.int 2, .int 4], .tuple [.int 3, .int 10], .tuple [.int 2, .int 5], .tuple [.int 2, .int 6], .tuple [.int 1, .int 0], .tuple [.int 7, .int 7], .tuple [.int 6, .int 6], .tuple [.int 6, .int 7], .tuple [.int 5, .int 5], .tuple [.int 6, .int 8], .tuple [.int 5, .int 6], .tuple [.int 5, .int 7], .tuple [.int 4, .int 4], .tuple [.int 6, .int 9], .tuple [.int 5, .int 7], .tuple [.int 5, .int 8], .tuple [.int 4, .int 5], .tuple [.int 5, .int 9], .tuple [.int 4, .int 6], .tuple [.int 4, .int 7], .tuple [.int 3, .int 3], .tuple [.int 6, .int 10], .tuple [.int 5, .int 8], .tuple [.int 5, .int 9], .tuple [.int 4, .int 6], .tuple [.int 5, .int 10], .tuple [.int 4, .int 7], .tuple [.int 4, .int 8], .tuple [.int 3, .int 4], .tuple [.int 5, .int 11], .tuple [.int 4, .int 8], .tuple [.int 4, .int 9], .tuple [.int 3, .int 5], .tuple [.int 4, .int 10], .tuple [.int 3, .int 6], .tuple [.int 3, .int 7], .tuple [.int 2, .int 2], .tuple [.int 6, .int 11], .tuple [.int 5, .int 9], .tuple [.int 5, .int 10], .tuple [.int 4, .int 7], .tuple [.int 5, .int 11], .tuple [.int 4, .int 8], .tuple [.int 4, .int 9], .tuple [.int 3, .int 5], .tuple [.int 5, .int 12], .tuple [.int 4, .int 9], .tuple [.int 4, .int 10], .tuple [.int 3, .int 6], .tuple [.int 4, .int 11], .tuple [.int 3, .int 7], .tuple [.int 3, .int 8], .tuple [.int 2, .int 3], .tuple [.int 5, .int 13], .tuple [.int 4, .int 10], .tuple [.int 4, .int 11], .tuple [.int 3, .int 7], .tuple [.int 4, .int 12], .tuple [.int 3, .int 8], .tuple [.int 3, .int 9], .tuple [.int 2, .int 4], .tuple [.int 4, .int 13], .tuple [.int 3, .int 9], .tuple [.int 3, .int 10], .tuple [.int 2, .int 5], .tuple [.int 3, .int 11], .tuple [.int 2, .int 6], .tuple [.int 2, .int 7], .tuple [.int 1, .int 1], .tuple [.int 6, .int 12], .tuple [.int 5, .int 10], .tuple [.int 5, .int 11], .tuple [.int 4, .int 8], .tuple [.int 5, .int 12], .tuple [.int 4, .int 9], .tuple [.int 4, .int 10], .tuple [.int 3, .int 6], .tuple [.int 5, .int 13], .tuple [.int 4, .int 10], .tuple [.int 4, .int 11], .tuple [.int 3, .int 7], .tuple [.int 4, .int 12], .tuple [.int 3, .int 8], .tuple [.int 3, .int 9], .tuple [.int 2, .int 4], .tuple [.int 5, .int 14], .tuple [.int 4, .int 11], .tuple [.int 4, .int 12], .tuple [.int 3, .int 8], .tuple [.int 4, .int 13], .tuple [.int 3, .int 9], .tuple [.int 3, .int 10], .tuple [.int 2, .int 5], .tuple [.int 4, .int 14], .tuple [.int 3, .int 10], .tuple [.int 3, .int 11], .tuple [.int 2, .int 6], .tuple [.int 3, .int 12], .tuple [.int 2, .int 7], .tuple [.int 2, .int 8], .tuple [.int 1, .int 2], .tuple [.int 5, .int 15], .tuple [.int 4, .int 12], .tuple [.int 4, .int 13], .tuple [.int 3, .int 9], .tuple [.int 4, .int 14], .tuple [.int 3, .int 10], .tuple [.int 3, .int 11], .tuple [.int 2, .int 6], .tuple [.int 4, .int 15], .tuple [.int 3, .int 11], .tuple [.int 3, .int 12], .tuple [.int 2, .int 7], .tuple [.int 3, .int 13], .tuple [.int 2, .int 8], .tuple [.int 2, .int 9], .tuple [.int 1, .int 3], .tuple [.int 4, .int 16], .tuple [.int 3, .int 12], .tuple [.int 3, .int 13], .tuple [.int 2, .int 8], .tuple [.int 3, .int 14], .tuple [.int 2, .int 9], .tuple [.int 2, .int 10], .tuple [.int 1, .int 4], .tuple [.int 3, .int 15], .tuple [.int 2, .int 10], .tuple [.int 2, .int 11], .tuple [.int 1, .int 5], .tuple [.int 2, .int 12], .tuple [.int 1, .int 6], .tuple [.int 1, .int 7], .tuple [.int 0, .int 0]]
def mt8 : D := .list [.int 0, .int 0, .int 1, .int 0, .int 2, .int 1, .int 2, .int 0, .int 3, .int 2, .int 3, .int 1, .int 4, .int 2, .int 3, .int 0, .int 4, .int 3, .int 4, .int 2, .int 5, .int 3, .int 4, .int 1, .int 6, .int 4, .int 5, .int 2, .int 6, .int 3, .int 4, .int 0, .int 5, .int 4, .int 5, .int 3, .int 6, .int 4, .int 5, .int 2, .int 7, .int 5, .int 6, .int 3, .int 7, .int 4, .int 5, .int 1, .int 8, .int 6, .int 7, .int 4, .int 8, .int 5, .int 6, .int 2, .int 9, .int 6, .int 7, .int 3, .int 8, .int 4, .int 5, .int 0, .int 6, .int 5, .int 6, .int 4, .int 7, .int 5, .int 6, .int 3, .int 8, .int 6, .int 7, .int 4, .int 8, .int 5, .int 6, .int 2, .int 9, .int 7, .int 8, .int 5, .int 9, .int 6, .int 7, .int 3, .int 10, .int 7, .int 8, .int 4, .int 9, .int 5, .int 6, .int 1, .int 10, .int 8, .int 9, .int 6, .int 10, .int 7, .int 8, .int 4, .int 11, .int 8, .int 9, .int 5, .int 10, .int 6, .int 7, .int 2, .int 12, .int 9, .int 10, .int 6, .int 11, .int 7, .int 8, .int 3, .int 12, .int 8, .int 9, .int 4, .int 10, .int 5, .int 6, .int 0, .int 7, .int 6, .int 7, .int 5, .int 8, .int 6, .int 7, .int 4, .int 9, .int 7, .int 8, .int 5, .int 9, .int 6, .int 7, .int 3, .int 10, .int 8, .int 9, .int 6, .int 10, .int 7, .int 8, .int 4, .int 11, .int 8, .int 9, .int 5, .int 10, .int 6, .int 7, .int 2, .int 11, .int 9, .int 10, .int 7, .int 11, .int 8, .int 9, .int 5, .int 12, .int 9, .int 10, .int 6, .int 11, .int 7, .int 8, .int 3, .int 13, .int 10, .int 11, .int 7, .int 12, .int 8, .int 9, .int 4, .int 13, .int 9, .int 10, .int 5, .int 11, .int 6, .int 7, .int 1, .int 12, .int 10, .int 11, .int 8, .int 12, .int 9, .int 10, .int 6, .int 13, .int 10, .int 11, .int 7, .int 12, .int 8, .int 9, .int 4, .int 14, .int 11, .int 12, .int 8, .int 13, .int 9, .int 10, .int 5, .int 14, .int 10, .int 11, .int 6, .int 12, .int 7, .int 8, .int 2, .int 15, .int 12, .int 13, .int 9, .int 14, .int 10, .int 11, .int 6, .int 15, .int 11, .int 12, .int 7, .int 13, .int 8, .int 9, .int 3, .int 16, .int 12, .int 13, .int 8, .int 14, .int 9, .int 10, .int 4, .int 15, .int 10, .int 11, .int 5, .int 12, .int 6, .int 7, .int 0]
def mn8 : D := .tuple [.int 7, .int 1]
def ty8 : D := .tuple [.int 9, .int 7, .int 12, .int 15, .int 21, .int 23, .int 29, .int 27, .int 26, .int 23, .int 21, .int 15, .int 13, .int 7, .int 4, .int 3, .int 1]
def td8 : D := .list [.tuple [.int 7, .int 1], .tuple [.int 7, .int 1], .tuple [.int 9, .int 7, .int 12, .int 15, .int 21, .int 23, .int 29, .int 27, .int 26, .int 23, .int 21, .int 15, .int 13, .int 7, .int 4, .int 3, .int 1], .tuple [.int 9, .int 7, .int 12, .int 15, .int 21, .int 23, .int 29, .int 27, .int 26, .int 23, .int 21, .int 15, .int 13, .int 7, .int 4, .int 3, .int 1]]
section
variable (u s2 s3 s4 s5 s6 s7 s8 s9 : Option Sl)
theorem s0_8 : sSet 2 (mV (mCall 1 den_l_rows [.op (.o 1)])) [u, some (.val (.int 8)), s2, s3, s4, s5, s6, s7, s8, s9] = .nx [u, some (.val (.int 8)), some (.val rw8), s3, s4, s5, s6, s7, s8, s9] := by kernel_rfl
theorem s1_8 : sSet 3 (mPl (mLc (mIt (mVar 2)) [9] (gN 9) (fun e => .ok true e) cm3_l_right)) [u, some (.val (.int 8)), some (.val rw8), s3, s4, s5, s6, s7, s8, s9] = .nx [u, some (.val (.int 8)), some (.val rw8), some (.val mt8), s4, s5, s6, s7, s8, s9] := by kernel_rfl
theorem s2_8 : sPar [4, 5] [.op (.p (mV (mCall 2 den_l_lowest [.op (.p (mOp fSum [.o 3])), .op (.p (mOp fLen [.o 2]))]))), .op (.p (mOp fTuple [.p (mPl (mLc (mRng1 (.p (mOp fAdd [.p (mOp fMax [.o 3]), .p (mC (.int 1))]))) [7] (gN 7) (fun e => .ok true e) cm2_l_right))]))] [u, some (.val (.int 8)), some (.val rw8), some (.val mt8), s4, s5, s6, s7, s8, s9] = .nx [u, some (.val (.int 8)), some (.val rw8), some (.val mt8), some (.val mn8), some (.val ty8), s6, s7, s8, s9] := by kernel_rfl
theorem s3_8 : sSet 6 (mPl (mLst [.p (mV (mCall 1 den_mean_meetings [.op (.o 1)])), .p (mV (mCallK 1 [0] den_mean_meetings [.op (.o 1)])), .p (mV (mCall 1 den_meeting_tally [.op (.o 1)])), .p (mV (mCallK 1 [0] den_meeting_tally [.op (.o 1)]))])) [u, some (.val (.int 8)), some (.val rw8), some (.val mt8), some (.val mn8), some (.val ty8), s6, s7, s8, s9] = .nx [u, some (.val (.int 8)), some (.val rw8), some (.val mt8), some (.val mn8), some (.val ty8), some (.val td8), s7, s8, s9] := by kernel_rfl
theorem s4_8 : sIf (mOrB (mOpB fNe [.p (mOp fRepr [.o 6]), .p (mOp fRepr [.p (mPl (mLst [.o 4, .o 4, .o 5, .o 5]))])]) (mOpB fNe [.o 4, .p (mV (mCall 2 den_l_lowest [.op (.p (mOp fMul [.o 1, .p (mOp fSub [.o 1, .p (mC (.int 1))])])), .op (.p (mC (.int 8)))]))])) (sRet (mC (.bool false))) sPass [u, some (.val (.int 8)), some (.val rw8), some (.val mt8), some (.val mn8), some (.val ty8), some (.val td8), s7, s8, s9] = .nx [u, some (.val (.int 8)), some (.val rw8), some (.val mt8), some (.val mn8), some (.val ty8), some (.val td8), s7, s8, s9] := by kernel_rfl
theorem k0_8 : lp1_l_right [u, some (.val (.int 8)), some (.val rw8), some (.val mt8), some (.val mn8), some (.val ty8), some (.val td8), some (.val (.int 0)), s8, s9] = .nx [u, some (.val (.int 8)), some (.val rw8), some (.val mt8), some (.val mn8), some (.val ty8), some (.val td8), some (.val (.int 0)), some (.val (.tuple [.int 255, .int 256])), s9] := by kernel_rfl
theorem k1_8 : lp1_l_right [u, some (.val (.int 8)), some (.val rw8), some (.val mt8), some (.val mn8), some (.val ty8), some (.val td8), some (.val (.int 1)), s8, s9] = .nx [u, some (.val (.int 8)), some (.val rw8), some (.val mt8), some (.val mn8), some (.val ty8), some (.val td8), some (.val (.int 1)), some (.val (.tuple [.int 247, .int 256])), s9] := by kernel_rfl
theorem k2_8 : lp1_l_right [u, some (.val (.int 8)), some (.val rw8), some (.val mt8), some (.val mn8), some (.val ty8), some (.val td8), some (.val (.int 2)), s8, s9] = .nx [u, some (.val (.int 8)), some (.val rw8), some (.val mt8), some (.val mn8), some (.val ty8), some (.val td8), some (.val (.int 2)), some (.val (.tuple [.int 219, .int 256])), s9] := by kernel_rfl
theorem k3_8 : lp1_l_right [u, some (.val (.int 8)), some (.val rw8), some (.val mt8), some (.val mn8), some (.val ty8), some (.val td8), some (.val (.int 3)), s8, s9] = .nx [u, some (.val (.int 8)), some (.val rw8), some (.val mt8), some (.val mn8), some (.val ty8), some (.val td8), some (.val (.int 3)), some (.val (.tuple [.int 163, .int 256])), s9] := by kernel_rfl
theorem k4_8 : lp1_l_right [u, some (.val (.int 8)), some (.val rw8), some (.val mt8), some (.val mn8), some (.val ty8), some (.val td8), some (.val (.int 4)), s8, s9] = .nx [u, some (.val (.int 8)), some (.val rw8), some (.val mt8), some (.val mn8), some (.val ty8), some (.val td8), some (.val (.int 4)), some (.val (.tuple [.int 93, .int 256])), s9] := by kernel_rfl
theorem k5_8 : lp1_l_right [u, some (.val (.int 8)), some (.val rw8), some (.val mt8), some (.val mn8), some (.val ty8), some (.val td8), some (.val (.int 5)), s8, s9] = .nx [u, some (.val (.int 8)), some (.val rw8), some (.val mt8), some (.val mn8), some (.val ty8), some (.val td8), some (.val (.int 5)), some (.val (.tuple [.int 37, .int 256])), s9] := by kernel_rfl
theorem k6_8 : lp1_l_right [u, some (.val (.int 8)), some (.val rw8), some (.val mt8), some (.val mn8), some (.val ty8), some (.val td8), some (.val (.int 6)), s8, s9] = .nx [u, some (.val (.int 8)), some (.val rw8), some (.val mt8), some (.val mn8), some (.val ty8), some (.val td8), some (.val (.int 6)), some (.val (.tuple [.int 9, .int 256])), s9] := by kernel_rfl
theorem k7_8 : lp1_l_right [u, some (.val (.int 8)), some (.val rw8), some (.val mt8), some (.val mn8), some (.val ty8), some (.val td8), some (.val (.int 7)), s8, s9] = .nx [u, some (.val (.int 8)), some (.val rw8), some (.val mt8), some (.val mn8), some (.val ty8), some (.val td8), some (.val (.int 7)), some (.val (.tuple [.int 1, .int 256])), s9] := by kernel_rfl
theorem rg_8 : mRng1 (.o 1) [u, some (.val (.int 8)), some (.val rw8), some (.val mt8), some (.val mn8), some (.val ty8), some (.val td8), s7, s8, s9] = .ok [.int 0, .int 1, .int 2, .int 3, .int 4, .int 5, .int 6, .int 7] [u, some (.val (.int 8)), some (.val rw8), some (.val mt8), some (.val mn8), some (.val ty8), some (.val td8), s7, s8, s9] := by kernel_rfl
theorem lp_8 : ∃ t2 t3 t4 t5 t6 t7 t8 t9, lp4_l_right [u, some (.val (.int 8)), s2, s3, s4, s5, s6, s7, s8, s9] = .nx [u, some (.val (.int 8)), t2, t3, t4, t5, t6, t7, t8, t9] := by
  refine ⟨some (.val rw8), some (.val mt8), some (.val mn8), some (.val ty8), some (.val td8), some (.val (.int 7)), some (.val (.tuple [.int 1, .int 256])), s9, ?_⟩
  refine Eq.trans (seq_nx (s0_8 u s2 s3 s4 s5 s6 s7 s8 s9)) ?_
  refine Eq.trans (seq_nx (s1_8 u s3 s4 s5 s6 s7 s8 s9)) ?_
  refine Eq.trans (seq_nx (s2_8 u s4 s5 s6 s7 s8 s9)) ?_
  refine Eq.trans (seq_nx (s3_8 u s6 s7 s8 s9)) ?_
  refine Eq.trans (seq_nx (s4_8 u s7 s8 s9)) ?_
  refine Eq.trans (for_at (rg_8 u s7 s8 s9)) ?_
  refine Eq.trans (loop_nx (k0_8 u s8 s9) rfl) ?_
  refine Eq.trans (loop_nx (k1_8 u (some (.val (.tuple [.int 255, .int 256]))) s9) rfl) ?_
  refine Eq.trans (loop_nx (k2_8 u (some (.val (.tuple [.int 247, .int 256]))) s9) rfl) ?_
  refine Eq.trans (loop_nx (k3_8 u (some (.val (.tuple [.int 219, .int 256]))) s9) rfl) ?_
  refine Eq.trans (loop_nx (k4_8 u (some (.val (.tuple [.int 163, .int 256]))) s9) rfl) ?_
  refine Eq.trans (loop_nx (k5_8 u (some (.val (.tuple [.int 93, .int 256]))) s9) rfl) ?_
  refine Eq.trans (loop_nx (k6_8 u (some (.val (.tuple [.int 37, .int 256]))) s9) rfl) ?_
  refine Eq.trans (loop_nx (k7_8 u (some (.val (.tuple [.int 9, .int 256]))) s9) rfl) ?_
  rfl
end
theorem lp_any (m : Int) (h : 1 ≤ m ∧ m ≤ 8) (u s2 s3 s4 s5 s6 s7 s8 s9 : Option Sl) : ∃ t2 t3 t4 t5 t6 t7 t8 t9, lp4_l_right [u, some (.val (.int m)), s2, s3, s4, s5, s6, s7, s8, s9] = .nx [u, some (.val (.int m)), t2, t3, t4, t5, t6, t7, t8, t9] := by
  have h9 : m = 1 ∨ m = 2 ∨ m = 3 ∨ m = 4 ∨ m = 5 ∨ m = 6 ∨ m = 7 ∨ m = 8 := by omega
  rcases h9 with rfl | rfl | rfl | rfl | rfl | rfl | rfl | rfl
  · exact lp_1 ..
  · exact lp_2 ..
  · exact lp_3 ..
  · exact lp_4 ..
  · exact lp_5 ..
  · exact lp_6 ..
  · exact lp_7 ..
  · exact lp_8 ..
theorem right_ok (a b c : Int) : ∃ o, den_l_right [.own [.int a, .int b, .int c]] = .ok (.val (.bool true)) o := by
  obtain ⟨f, a', b', c', hf, hT⟩ := take_ok a b c 8 (by decide)
  have hsz : (3 : Nat) ≤ sizeLine := by decide
  have hi : mIt (mTup [.p (mC (.int 1)), .p (mC (.int 8)), .p (mOp fAdd [.p (mC (.int 1)), .p (mV (mCall 2 den_l_take [.op (.o 0), .op (.p (mC (.int 8)))]))])]) [some (.own [.int a, .int b, .int c]), none, none, none, none, none, none, none, none, none] =
      .ok [.int 1, .int 8, .int (1 + f)] [some (.own [.int a', .int b', .int c']), none, none, none, none, none, none, none, none, none] := by
    simp [denOf, sSeq, SR.seq, sIf, Res.toS, mOpB, mOp, mOpL, evL, evP, evV, fillV, rdV, Res.bind, lift, fillL, rdS, mC, fIx, fGt, fLt, fGe, sAsg, gTn, gAll, gSt, gN, sRet, sRetF, mVar, fDivmod, fAdd, fMul, fMod, fInt, fFDiv, fPow, fAbs, fLen, sSet, sPass, enA, outE, keepO, rdOwn, setD, atI, ixN, List.range, List.range.loop, mSl, mPart, fSlL, mPl, mIt, sFor, mIf, mOrB, mLst, mTup, fitD, bV, mCall, mV, evC, fillC, Dn.callEnd, lent, upE, hT, hsz]
  obtain ⟨x2, x3, x4, x5, x6, x7, x8, x9, q1⟩ := lp_any 1 (by decide) (some (.own [.int a', .int b', .int c'])) none none none none none none none none
  obtain ⟨y2, y3, y4, y5, y6, y7, y8, y9, q2⟩ := lp_any 8 (by decide) (some (.own [.int a', .int b', .int c'])) x2 x3 x4 x5 x6 x7 x8 x9
  obtain ⟨z2, z3, z4, z5, z6, z7, z8, z9, q3⟩ := lp_any (1 + f) (by omega) (some (.own [.int a', .int b', .int c'])) y2 y3 y4 y5 y6 y7 y8 y9
  have hb : b_l_right [some (.own [.int a, .int b, .int c]), none, none, none, none, none, none, none, none, none] = .rt (.val (.bool true)) [some (.own [.int a', .int b', .int c']), some (.val (.int (1 + f))), z2, z3, z4, z5, z6, z7, z8, z9] := by
    unfold b_l_right
    refine Eq.trans (seq_nx (e' := [some (.own [.int a', .int b', .int c']), some (.val (.int (1 + f))), z2, z3, z4, z5, z6, z7, z8, z9]) ?_) rfl
    refine Eq.trans (for_at hi) ?_
    refine Eq.trans (loop_nx q1 rfl) ?_
    refine Eq.trans (loop_nx q2 rfl) ?_
    refine Eq.trans (loop_nx q3 rfl) ?_
    rfl
  exact ⟨_, by unfold den_l_right denOf; show (match b_l_right [some (.own [.int a, .int b, .int c]), none, none, none, none, none, none, none, none, none] with
    | .rt s e => CR.ok s (outE [0] 1 e)
    | .nx e => .ok (.val .none) (outE [0] 1 e)
    | .exc x e => .exc x (outE [0] 1 e)
    | _ => .bad) = _; rw [hb]⟩
theorem upE_f (xs : List D) (o e : En) : upE [.f xs] o e = e := by cases o <;> rfl
theorem all_loop (ns : List Int) : ∀ (ls : List Int) (n : Nat), (∀ l ∈ ls, 0 ≤ l) → n + ls.length ≤ 63 →
    lcLoop [1] (gN 1) (fun e => .ok true e) cm0_law (ls.map PyData.int) (List.replicate n (.bool true)) [some (.val (.list (ns.map PyData.int))), none] = .ok (List.replicate (n + ls.length) (.bool true)) [some (.val (.list (ns.map PyData.int))), none]
  | [], n, _, _ => rfl
  | l :: ls, n, h, hn => by
    obtain ⟨a, b, c, o, hu⟩ := urn_ok ns l (h l List.mem_cons_self)
    obtain ⟨o2, hr⟩ := right_ok a b c
    have hz : n < sizeLine := Nat.lt_of_lt_of_le (show n < 64 by simp at hn; omega) (by decide)
    have step : cm0_law [some (.val (.list (ns.map PyData.int))), some (.val (.int l))] = .ok (.bool true) [some (.val (.list (ns.map PyData.int))), some (.val (.int l))] := by
      have hup : upE [.s 0, .s 1] o [some (.val (.list (ns.map PyData.int))), some (.val (.int l))] = [some (.val (.list (ns.map PyData.int))), some (.val (.int l))] := by
        cases o with
        | nil => rfl
        | cons x o => cases o <;> rfl
      simp [cm0_law, mV, mF, mCall, evC, fillC, Dn.callEnd, lent, Res.bind, hu, hup, hr, upE_f]
    rw [List.map_cons, lcLoop]
    show (match cm0_law [some (.val (.list (ns.map PyData.int))), some (.val (.int l))] with
      | .ok x e3 => if (List.replicate n (PyData.bool true)).length < sizeLine then lcLoop [1] (gN 1) (fun e => .ok true e) cm0_law (ls.map PyData.int) (List.replicate n (PyData.bool true) ++ [x]) (wE e3 [1]) else .bad
      | _ => .bad) = _
    rw [step]
    show (if (List.replicate n (PyData.bool true)).length < sizeLine then lcLoop [1] (gN 1) (fun e => .ok true e) cm0_law (ls.map PyData.int) (List.replicate n (PyData.bool true) ++ [PyData.bool true]) [some (.val (.list (ns.map PyData.int))), none] else .bad) = _
    rw [if_pos (by rw [List.length_replicate]; exact hz), ← List.replicate_succ', all_loop ns ls (n + 1) (fun x hx => h x (List.mem_cons_of_mem _ hx)) (by simp at hn; omega), List.length_cons]
    congr 2
    omega
theorem bools_rep (n : Nat) : boolsD (List.replicate n (.bool true)) = some (List.replicate n true) := by
  induction n with
  | zero => rfl
  | succ n ih => rw [List.replicate_succ, List.replicate_succ, boolsD, ih]; rfl
theorem law_ok (ns : List Int) (hn : ns.length ≤ 63) : ∃ o, den_law [.val (.list (ns.map PyData.int))] = .ok (.val (.bool true)) o := by
  have hl : ns.length ≤ sizeLine := Nat.le_trans hn (by decide)
  obtain ⟨j, hj, hr⟩ : ∃ j : Nat, j ≤ 3 ∧ mRng1 (.p (mOp fMax [.p (mC (.int 1)), .p (mOp fMin [.p (mOp fLen [.o 0]), .p (mC (.int 3))])])) [some (.val (.list (ns.map PyData.int))), none] = .ok (rngI 0 j) [some (.val (.list (ns.map PyData.int))), none] := by
    by_cases h3 : (3 : Int) < ns.length
    · exact ⟨3, by decide, by simp [mRng1, denOf, sSeq, SR.seq, sIf, Res.toS, mOpB, mOp, mOpL, evL, evP, evV, fillV, rdV, Res.bind, lift, fillL, rdS, mC, fIx, fGt, fLt, fGe, sAsg, gTn, gAll, gSt, gN, sRet, sRetF, mVar, fDivmod, fAdd, fMul, fMod, fInt, fFDiv, fPow, fAbs, fLen, sSet, sPass, enA, outE, keepO, rdOwn, setD, atI, ixN, List.range, List.range.loop, mSl, mPart, fSlL, mPl, mIt, sFor, mIf, mOrB, mLst, mTup, fitD, bV, fMax, fMin, h3, hl]; rfl⟩
    · by_cases h1 : (ns.length : Int) > 1
      · refine ⟨ns.length, by omega, ?_⟩
        have r62 : rng62 (ns.length : Int) = true := by unfold rng62; simp; omega
        simp [mRng1, denOf, sSeq, SR.seq, sIf, Res.toS, mOpB, mOp, mOpL, evL, evP, evV, fillV, rdV, Res.bind, lift, fillL, rdS, mC, fIx, fGt, fLt, fGe, sAsg, gTn, gAll, gSt, gN, sRet, sRetF, mVar, fDivmod, fAdd, fMul, fMod, fInt, fFDiv, fPow, fAbs, fLen, sSet, sPass, enA, outE, keepO, rdOwn, setD, atI, ixN, List.range, List.range.loop, mSl, mPart, fSlL, mPl, mIt, sFor, mIf, mOrB, mLst, mTup, fitD, bV, fMax, fMin, h3, h1, hl, r62]
      · exact ⟨1, by decide, by simp [mRng1, denOf, sSeq, SR.seq, sIf, Res.toS, mOpB, mOp, mOpL, evL, evP, evV, fillV, rdV, Res.bind, lift, fillL, rdS, mC, fIx, fGt, fLt, fGe, sAsg, gTn, gAll, gSt, gN, sRet, sRetF, mVar, fDivmod, fAdd, fMul, fMod, fInt, fFDiv, fPow, fAbs, fLen, sSet, sPass, enA, outE, keepO, rdOwn, setD, atI, ixN, List.range, List.range.loop, mSl, mPart, fSlL, mPl, mIt, sFor, mIf, mOrB, mLst, mTup, fitD, bV, fMax, fMin, h3, h1, hl]; rfl⟩
  have hls : rngI 0 j = ((List.range j).map fun (i : Nat) => (0 : Int) + i).map PyData.int := by
    unfold rngI
    rw [List.map_map]
    rfl
  have hloop := all_loop ns ((List.range j).map fun (i : Nat) => (0 : Int) + i) 0 (fun l hm => by
    obtain ⟨i, _, rfl⟩ := List.mem_map.mp hm
    omega) (by rw [List.length_map, List.length_range]; omega)
  have hc : mLc (mRng1 (.p (mOp fMax [.p (mC (.int 1)), .p (mOp fMin [.p (mOp fLen [.o 0]), .p (mC (.int 3))])]))) [1] (gN 1) (fun e => .ok true e) cm0_law [some (.val (.list (ns.map PyData.int))), none] = .ok (List.replicate (0 + ((List.range j).map fun (i : Nat) => (0 : Int) + i).length) (.bool true)) [some (.val (.list (ns.map PyData.int))), none] := by
    unfold mLc
    rw [hr]
    show (match lcLoop [1] (gN 1) (fun e => .ok true e) cm0_law (rngI 0 j) [] [some (.val (.list (ns.map PyData.int))), none] with
      | .ok xs e2 => Res.ok xs (unw [some (.val (.list (ns.map PyData.int))), none] e2 [1])
      | _ => Res.bad) = _
    rw [hls]
    rw [show ([] : List D) = List.replicate 0 (.bool true) from rfl, hloop]
    rfl
  generalize 0 + ((List.range j).map fun (i : Nat) => (0 : Int) + i).length = n at hc
  have hb : b_law [some (.val (.list (ns.map PyData.int))), none] = .rt (.val (.bool true)) [some (.val (.list (ns.map PyData.int))), none] := by
    simp [b_law, denOf, sSeq, SR.seq, sIf, Res.toS, mOpB, mOp, mOpL, evL, evP, evV, fillV, rdV, Res.bind, lift, fillL, rdS, mC, fIx, fGt, fLt, fGe, sAsg, gTn, gAll, gSt, gN, sRet, sRetF, mVar, fDivmod, fAdd, fMul, fMod, fInt, fFDiv, fPow, fAbs, fLen, sSet, sPass, enA, outE, keepO, rdOwn, setD, atI, ixN, List.range, List.range.loop, mSl, mPart, fSlL, mPl, mIt, sFor, mIf, mOrB, mLst, mTup, fitD, bV, hc, fAll, bools_rep]
  exact ⟨_, by unfold den_law denOf; show (match b_law [some (.val (.list (ns.map PyData.int))), none] with
    | .rt s e => CR.ok s (outE [] 1 e)
    | .nx e => .ok (.val .none) (outE [] 1 e)
    | .exc x e => .exc x (outE [] 1 e)
    | _ => .bad) = _; rw [hb]⟩
end K63

open PySem PySem.W PyProof.Rows
set_option maxHeartbeats 0 in
theorem PySem.Challenge.cw_railturns_k63_whole_ways_by_lot_holds : PySem.Challenge.rw_railturns_k63_whole_ways_by_lot.Holds := by
  w_on; o_law; k_head; (case hw => w_witness2)
  k_fill
  refine Dn.walkG (l := PySem.Challenge.rw_railturns_k63_whole_ways_by_lot) (n := 63) (k := 7) (x := "script") (sp := fun w => Dn.spD (K63.txK _) 1 K63.den_law) rfl (by decide) rfl ⟨rfl, by decide, by decide⟩ (fun w h Y => PySem.W.kIn_of Y) ?F (fun w H a ms hl only hS => Dn.law_sp (tx := K63.txK _) only hS (K63.law_ok ms hl))
  case F =>
    intro w mg fa h KX G hmg
    refine' K63.all_mk KX G hmg ?a0 ?l0 ?e0 ?p0 ?a1 ?l1 ?e1 ?p1 ?a2 ?l2 ?e2 ?p2 ?a3 ?l3 ?e3 ?p3 ?a4 ?l4 ?e4 ?p4 ?a5 ?l5 ?e5 ?p5 ?a6 ?l6 ?e6 ?p6 ?a7 ?l7 ?e7 ?p7 ?a8 ?l8 ?e8 ?p8 ?a9 ?l9 ?e9 ?p9 ?a10 ?l10 ?e10 ?p10 ?a11 ?l11 ?e11 ?p11 ?a12 ?l12 ?e12 ?p12 ?a13 ?l13 ?e13 ?p13 ?a14 ?l14 ?e14 ?p14 ?a15 ?l15 ?e15 ?p15 ?a16 ?l16 ?e16 ?p16 ?a17 ?l17 ?e17 ?p17 ?a18 ?l18 ?e18 ?p18 ?a19 ?l19 ?e19 ?p19 ?z_range ?z_int ?z_divmod ?z_abs ?z_isinstance ?z_bool ?z_len ?z_enumerate ?z_list ?z_tuple ?z_sum ?z_repr ?z_max ?z_all ?z_min ?c_MOST_MANY ?c_gcd ?c_comb
    (case a0 => k_is); (case l0 => k_is); (case e0 => k_is); (case p0 => k_is); (case a1 => k_is); (case l1 => k_is); (case e1 => k_is); (case p1 => k_is); (case a2 => k_is); (case l2 => k_is); (case e2 => k_is); (case p2 => k_is); (case a3 => k_is); (case l3 => k_is); (case e3 => k_is); (case p3 => k_is); (case a4 => k_is); (case l4 => k_is); (case e4 => k_is); (case p4 => k_is); (case a5 => k_is); (case l5 => k_is); (case e5 => k_is); (case p5 => k_is); (case a6 => k_is); (case l6 => k_is); (case e6 => k_is); (case p6 => k_is); (case a7 => k_is); (case l7 => k_is); (case e7 => k_is); (case p7 => k_is); (case a8 => k_is); (case l8 => k_is); (case e8 => k_is); (case p8 => k_is); (case a9 => k_is); (case l9 => k_is); (case e9 => k_is); (case p9 => k_is); (case a10 => k_is); (case l10 => k_is); (case e10 => k_is); (case p10 => k_is); (case a11 => k_is); (case l11 => k_is); (case e11 => k_is); (case p11 => k_is); (case a12 => k_is); (case l12 => k_is); (case e12 => k_is); (case p12 => k_is); (case a13 => k_is); (case l13 => k_is); (case e13 => k_is); (case p13 => k_is); (case a14 => k_is); (case l14 => k_is); (case e14 => k_is); (case p14 => k_is); (case a15 => k_is); (case l15 => k_is); (case e15 => k_is); (case p15 => k_is); (case a16 => k_is); (case l16 => k_is); (case e16 => k_is); (case p16 => k_is); (case a17 => k_is); (case l17 => k_is); (case e17 => k_is); (case p17 => k_is); (case a18 => k_is); (case l18 => k_is); (case e18 => k_is); (case p18 => k_is); (case a19 => k_is); (case l19 => k_is); (case e19 => k_is); (case p19 => k_is); (case z_range => k_is); (case z_int => k_is); (case z_divmod => k_is); (case z_abs => k_is); (case z_isinstance => k_is); (case z_bool => k_is); (case z_len => k_is); (case z_enumerate => k_is); (case z_list => k_is); (case z_tuple => k_is); (case z_sum => k_is); (case z_repr => k_is); (case z_max => k_is); (case z_all => k_is); (case z_min => k_is); (case c_MOST_MANY => k_is); (case c_gcd => k_is); (case c_comb => k_is)
