import PyProof.Rows.All
import Wide.All
import OpenK.AllK
import Wide.FinOn
import HandS.ForMost
import HandS.Defaults
import HandS.TupAny
import HandS.Zip
import HandS.Evl
import KE.DataEq
import HandS.Style
import KE.GoesEnum
import HandS.TupMul
import HandS.TupLe
import HandS.Wide
import KE.DataCmp
import KE.DataMinMax
import KE.SortData
import HandS.IsInst
import HandS.Conv
import HandS.RaiseMore
import KE.SortCalls
import KE.DataAny
import HandS.Small
import HandS.Dict
import HandS.HeadHook2
import PySem.Challenge.RW_kitchenhall_k01_whole_two_stations_turne
import HandS.Exc
import HandS.Head0
import HandS.Head1
import HandS.Head2
import HandS.HeadEnd
import HandS.HeadHook1
set_option Elab.async false
set_option linter.all false
set_option maxRecDepth 100000
set_option maxHeartbeats 2000000
/-! Za: data over the abstract heap; what is frozen, what a slot owns. -/
namespace Z3
open PySem PySem.Spec PyProof.Rows L2
open Evl (Ex ex_rd ex_l ex_t)

abbrev D := PyData

/-! ### heaps that grow -/
theorem _root_.Evl.Ex.none {H H' : Hp} {p : Addr} (e : Ex H H') (h : H' p = none) : H p = none := by
  cases h1 : H p with
  | none => rfl
  | some o =>
    rw [e p o h1] at h
    cases h
theorem _root_.Evl.Ex.upd2 {F H : Hp} {p : Addr} {o : HO} (e : Ex F H) : Ex (upd F p o) (upd H p o) := fun a u h => by
  by_cases ha : a = p
  · subst ha
    rw [upd_same] at h ⊢
    exact h
  · rw [upd_ne ha] at h ⊢
    exact e a u h
theorem _root_.Evl.Ex.updR {F H : Hp} {p : Addr} {o : HO} (e : Ex F H) (h : F p = Option.none) : Ex F (upd H p o) := fun a u q => by
  rw [upd_ne (ne_of_none q h)]
  exact e a u q
theorem _root_.Evl.Ex.add {F H : Hp} {p : Addr} {o : HO} (e : Ex F H) (h : H p = some o) : Ex (upd F p o) H := fun a u q => by
  by_cases ha : a = p
  · subst ha
    rw [upd_same] at q
    cases q
    exact h
  · rw [upd_ne ha] at q
    exact e a u q
/-! ### data -/
/-- a key of a dict as data -/
def kD : Key → D
  | .inl i => .int i
  | .inr x => .str x
mutual
/-- v stands for d, by what stands in H -/
inductive Den (K : PySem.W.Frag) (H : Hp) : D → V → Prop
  | none : Den K H .none .non
  | bool (b : Bool) : Den K H (.bool b) (.bl b)
  | int (i : Int) : Den K H (.int i) (.int i)
  | str (x : Str) : Den K H (.str x) (.str x)
  | list {a : Addr} {vs : List V} {ds : List D} : SqL K H a vs → Dens K H ds vs → Den K H (.list ds) (.ref a)
  | tuple {a : Addr} {vs : List V} {ds : List D} : SqT K H a vs → Dens K H ds vs → Den K H (.tuple ds) (.ref a)
  | dict {a : Addr} {kv : List (Key × V)} {kvs : List (D × D)} : Rd H a (.dK kv) → Denk K H kvs kv → Den K H (.dict kvs) (.ref a)
inductive Dens (K : PySem.W.Frag) (H : Hp) : List D → List V → Prop
  | nil : Dens K H [] []
  | cons {d : D} {ds : List D} {v : V} {vs : List V} : Den K H d v → Dens K H ds vs → Dens K H (d :: ds) (v :: vs)
inductive Denk (K : PySem.W.Frag) (H : Hp) : List (D × D) → List (Key × V) → Prop
  | nil : Denk K H [] []
  | cons {k : Key} {d : D} {r : List (D × D)} {v : V} {s : List (Key × V)} : Den K H d v → Denk K H r s → Denk K H ((kD k, d) :: r) ((k, v) :: s)
end
section
variable {K : PySem.W.Frag} {H H' : Hp}
mutual
theorem Den.mono (e : Ex H H') : ∀ (d : D) (v : V), Den K H d v → Den K H' d v
  | .none, _, h => by cases h; exact .none
  | .bool b, _, h => by cases h; exact .bool b
  | .int i, _, h => by cases h; exact .int i
  | .str x, _, h => by cases h; exact .str x
  | .list ds, _, h => by
    cases h with
    | list s r => exact .list (ex_l e s) (Dens.mono e ds _ r)
  | .tuple ds, _, h => by
    cases h with
    | tuple s r => exact .tuple (ex_t e s) (Dens.mono e ds _ r)
  | .dict kvs, _, h => by
    cases h with
    | dict s r => exact .dict (ex_rd e s) (Denk.mono e kvs _ r)
theorem Dens.mono (e : Ex H H') : ∀ (ds : List D) (vs : List V), Dens K H ds vs → Dens K H' ds vs
  | [], _, h => by cases h; exact .nil
  | d :: ds, _, h => by
    cases h with
    | cons a b => exact .cons (Den.mono e d _ a) (Dens.mono e ds _ b)
theorem Denk.mono (e : Ex H H') : ∀ (ds : List (D × D)) (vs : List (Key × V)), Denk K H ds vs → Denk K H' ds vs
  | [], _, h => by cases h; exact .nil
  | (k, d) :: ds, _, h => by
    cases h with
    | cons a b => exact .cons (Den.mono e d _ a) (Denk.mono e ds _ b)
end
theorem Dens.length : ∀ {ds : List D} {vs : List V}, Dens K H ds vs → ds.length = vs.length
  | _, _, .nil => rfl
  | _, _, .cons _ r => by rw [List.length_cons, List.length_cons, Dens.length r]
theorem Dens.get : ∀ {ds : List D} {vs : List V} {i : Nat} {d : D}, Dens K H ds vs → ds[i]? = some d → ∃ v, vs[i]? = some v ∧ Den K H d v
  | _, _, _, _, .nil, e => by simp at e
  | _, _, 0, _, .cons a _, e => by simp at e; subst e; exact ⟨_, rfl, a⟩
  | _, _, i + 1, d, .cons _ r, e => by
    obtain ⟨v, h1, h2⟩ := Dens.get (i := i) (d := d) r (by simpa using e)
    exact ⟨v, by simpa using h1, h2⟩
theorem Dens.get' : ∀ {ds : List D} {vs : List V} {i : Nat} {v : V}, Dens K H ds vs → vs[i]? = some v → ∃ d, ds[i]? = some d ∧ Den K H d v
  | _, _, _, _, .nil, e => by simp at e
  | _, _, 0, _, .cons a _, e => by simp at e; subst e; exact ⟨_, rfl, a⟩
  | _, _, i + 1, d, .cons _ r, e => by
    obtain ⟨v, h1, h2⟩ := Dens.get' (i := i) (v := d) r (by simpa using e)
    exact ⟨v, by simpa using h1, h2⟩
theorem Dens.append : ∀ {ds es : List D} {vs ws : List V}, Dens K H ds vs → Dens K H es ws → Dens K H (ds ++ es) (vs ++ ws)
  | _, _, _, _, .nil, s => s
  | _, _, _, _, .cons a r, s => .cons a (Dens.append r s)
theorem Dens.set {d : D} {v : V} (a : Den K H d v) : ∀ {ds : List D} {vs : List V} (i : Nat), Dens K H ds vs → Dens K H (ds.set i d) (vs.set i v)
  | _, _, _, .nil => .nil
  | _, _, 0, .cons _ t => .cons a t
  | _, _, i + 1, .cons q t => .cons q (Dens.set a i t)
theorem Dens.take : ∀ {ds : List D} {vs : List V} (n : Nat), Dens K H ds vs → Dens K H (ds.take n) (vs.take n)
  | _, _, 0, _ => .nil
  | _, _, _ + 1, .nil => .nil
  | _, _, n + 1, .cons r t => .cons r (Dens.take n t)
theorem Dens.drop : ∀ {ds : List D} {vs : List V} (n : Nat), Dens K H ds vs → Dens K H (ds.drop n) (vs.drop n)
  | _, _, 0, r => r
  | _, _, _ + 1, .nil => .nil
  | _, _, n + 1, .cons _ t => Dens.drop n t
theorem Dens.reverse : ∀ {ds : List D} {vs : List V}, Dens K H ds vs → Dens K H ds.reverse vs.reverse
  | _, _, .nil => .nil
  | _, _, .cons a r => by
    rw [List.reverse_cons, List.reverse_cons]
    exact Dens.append (Dens.reverse r) (.cons a .nil)
theorem Dens.dropLast {ds : List D} {vs : List V} (h : Dens K H ds vs) : Dens K H ds.dropLast vs.dropLast := by
  rw [List.dropLast_eq_take, List.dropLast_eq_take, h.length]
  exact h.take _
theorem Dens.eraseIdx : ∀ {ds : List D} {vs : List V} (i : Nat), Dens K H ds vs → Dens K H (ds.eraseIdx i) (vs.eraseIdx i)
  | _, _, _, .nil => .nil
  | _, _, 0, .cons _ t => t
  | _, _, i + 1, .cons q t => .cons q (Dens.eraseIdx i t)
theorem Dens.rep {ds : List D} {vs : List V} (h : Dens K H ds vs) : ∀ k : Nat, Dens K H (List.replicate k ds).flatten (List.replicate k vs).flatten
  | 0 => .nil
  | k + 1 => by
    rw [List.replicate_succ, List.flatten_cons, List.replicate_succ, List.flatten_cons]
    exact h.append (Dens.rep h k)
theorem Dens.ints : ∀ {ns : List Int} {vs : List V}, Dens K H (ns.map .int) vs → vs = ns.map V.int
  | [], _, h => by cases h; rfl
  | n :: ns, _, h => by
    cases h with
    | cons a r =>
      cases a
      rw [Dens.ints r]
      rfl
theorem Dens.of_ints : ∀ ns : List Int, Dens K H (ns.map .int) (ns.map V.int)
  | [] => .nil
  | n :: ns => .cons (.int n) (Dens.of_ints ns)
end

/-! ### from the abstract heap to the model's -/
section
variable {X : Cx} {pins : List (Addr × Obj)} {σ : L2.St} {H : Hp} {s : Shared}
mutual
theorem Den.reads (I : Inv X pins σ H s) : ∀ (d : D) (v : V) (u : Value), d.plain = true → Den X.K H d v → RelV v u → ∃ as, Reads s.heap u d as
  | .none, _, u, _, h, r => by cases h; cases r; exact ⟨_, .none⟩
  | .bool b, _, u, _, h, r => by cases h; cases r; exact ⟨_, .bool b⟩
  | .int i, _, u, _, h, r => by
    cases h
    obtain ⟨t, rfl⟩ := r
    exact ⟨_, .int i t⟩
  | .str x, _, u, _, h, r => by
    cases h
    obtain ⟨t, rfl⟩ := r
    exact ⟨_, .str x t⟩
  | .list ds, _, u, p, h, r => by
    cases h with
    | list q e =>
      cases r
      obtain ⟨its, rv, pl, hz⟩ := I.list q
      obtain ⟨as, ra⟩ := Dens.reads I ds _ its (by rw [PyData.plain] at p; exact p) e rv
      obtain ⟨o, n, ho, hc, hd, hdt⟩ := pl
      exact ⟨_, .list ho hc hdt (by simpa using ra)⟩
  | .tuple ds, _, u, p, h, r => by
    cases h with
    | tuple q e =>
      cases r
      obtain ⟨its, rv, pl, hz⟩ := I.tuple q
      obtain ⟨as, ra⟩ := Dens.reads I ds _ its (by rw [PyData.plain] at p; exact p) e rv
      obtain ⟨o, ho, hc, n, hdt⟩ := pl
      exact ⟨_, .tuple ho hc hdt (by simpa using ra)⟩
  | .dict kvs, _, u, p, h, r => by
    rw [PyData.plain] at p
    cases p
theorem Dens.reads (I : Inv X pins σ H s) : ∀ (ds : List D) (vs : List V) (us : List Value), PyData.plainAll ds = true → Dens X.K H ds vs → Vals vs us → ∃ as, ReadsAll s.heap us ds as
  | [], _, _, _, h, r => by cases h; cases r; exact ⟨_, .nil⟩
  | d :: ds, _, _, p, h, r => by
    cases h with
    | cons a b =>
      cases r with
      | cons r1 r2 =>
        rw [PyData.plainAll, Bool.and_eq_true] at p
        obtain ⟨as, x⟩ := Den.reads I d _ _ p.1 a r1
        obtain ⟨bs, y⟩ := Dens.reads I ds _ _ p.2 b r2
        exact ⟨_, .cons x y⟩
end
end

/-! ### what grows -/
/-- H grows to H', the frozen F to F'; only addresses new to H are frozen anew; what X holds of may change -/
structure GrowX (X : Addr → Prop) (F H F' H' : Hp) : Prop where
  h : ∀ a o, H a = some o → ¬ X a → H' a = some o
  f : Ex F F'
  i : Ex F' H'
  n : ∀ b, F' b ≠ none → F b ≠ none ∨ H b = none
abbrev Grow (F H F' H' : Hp) : Prop := GrowX (fun _ => False) F H F' H'
theorem Grow.ex {F H F' H' : Hp} (g : Grow F H F' H') : Ex H H' := fun a o e => g.h a o e id
theorem GrowX.weak {X Y : Addr → Prop} {F H F' H' : Hp} (g : GrowX X F H F' H') (w : ∀ a, X a → Y a) : GrowX Y F H F' H' := ⟨fun a o e n => g.h a o e fun x => n (w a x), g.f, g.i, g.n⟩
theorem Grow.any {X : Addr → Prop} {F H F' H' : Hp} (g : Grow F H F' H') : GrowX X F H F' H' := g.weak fun _ z => z.elim
theorem Grow.refl {F H : Hp} (e : Ex F H) : Grow F H F H := ⟨fun _ _ h _ => h, Ex.refl F, e, fun _ h => .inl h⟩
theorem GrowX.trans {X : Addr → Prop} {F H F1 H1 F2 H2 : Hp} (a : GrowX X F H F1 H1) (b : GrowX X F1 H1 F2 H2) (hx : ∀ a, X a → ∃ o, H a = some o ∧ F a = none) (hx1 : ∀ a, X a → ∃ o, H1 a = some o ∧ F1 a = none) : GrowX X F H F2 H2 where
  h := fun c o e n => b.h c o (a.h c o e n) n
  f := a.f.trans b.f
  i := b.i
  n := fun c h => by
    rcases b.n c h with q | q
    · exact a.n c q
    · by_cases hc : X c
      · obtain ⟨o, e, _⟩ := hx1 c hc
        rw [e] at q
        cases q
      · cases e : H c with
        | none => exact .inr rfl
        | some o =>
          rw [a.h c o e hc] at q
          cases q
theorem Grow.trans {F H F1 H1 F2 H2 : Hp} (a : Grow F H F1 H1) (b : Grow F1 H1 F2 H2) : Grow F H F2 H2 := GrowX.trans a b (fun _ h => h.elim) (fun _ h => h.elim)
/-- a new object, frozen at once -/
theorem Grow.new {F H : Hp} {p : Addr} {o : HO} (e : Ex F H) (h : H p = none) : Grow F H (upd F p o) (upd H p o) :=
  ⟨fun a u q _ => Ex.new h a u q, Ex.new (e.none h), e.upd2, fun b hb => by
    by_cases q : b = p
    · exact .inr (by rw [q]; exact h)
    · rw [upd_ne q] at hb
      exact .inl hb⟩
/-- a new object, not frozen -/
theorem Grow.newL {F H : Hp} {p : Addr} {o : HO} (e : Ex F H) (h : H p = none) : Grow F H F (upd H p o) :=
  ⟨fun a u q _ => Ex.new h a u q, Ex.refl F, e.updR (e.none h), fun b hb => .inl hb⟩
end Z3

set_option maxRecDepth 100000
set_option maxHeartbeats 2000000
/-! Zb: slots, values, readings of expressions at the data's level. -/
namespace Z3
open PySem PySem.Spec PyProof.Rows L2
open Evl (Ex ex_rd ex_l ex_t)

/-- what is known of a slot -/
inductive SV where
  | any | p (d : D) | own (d : D) | r (d : D) | hand (a : Addr)
abbrev SS := List SV
/-- what an expression gives: frozen data; the list or dict of slot j; a new list or dict -/
inductive Val where
  | p (d : D) | o (j : Nat) (d : D) | f (d : D)
def Val.get : Val → D
  | .p d => d
  | .o _ d => d
  | .f d => d
def SV.ex : SV → Bool
  | .own _ => true
  | .hand _ => true
  | _ => false
/-- a law's hand -/
def HandC (ds : List D) : Prop := ∃ (ns : List Int) (i l m n : Int), ds = [.list (ns.map .int), .int i, .int l, .int m, .int n] ∧ (∀ z ∈ ns, 0 ≤ z) ∧ ns.length ≤ 63 ∧ 0 ≤ i ∧ i ≤ ns.length ∧ 0 ≤ l ∧ 0 ≤ m ∧ m < 2147483648 ∧ 0 ≤ n

section
variable (K : PySem.W.Frag)
/-- the thing at a has the content d, its items frozen in F -/
def LC (F H : Hp) : D → Addr → Prop
  | .list ds, a => ∃ vs, H a = some (.lst vs) ∧ Dens K F ds vs
  | .dict kvs, a => ∃ kv, H a = some (.dK kv) ∧ Denk K F kvs kv
  | _, _ => False
/-- .. is to be read so -/
def LR (F H : Hp) : D → Addr → Prop
  | .list ds, a => ∃ vs, Rd H a (.lst vs) ∧ Dens K F ds vs
  | .dict kvs, a => ∃ kv, Rd H a (.dK kv) ∧ Denk K F kvs kv
  | _, _ => False
def RdD (F H : Hp) (d : D) (v : V) : Prop := Den K F d v ∨ ∃ a, v = .ref a ∧ LR K F H d a
inductive RdDs (F H : Hp) : List D → List V → Prop
  | nil : RdDs F H [] []
  | cons {d : D} {ds : List D} {v : V} {vs : List V} : RdD K F H d v → RdDs F H ds vs → RdDs F H (d :: ds) (v :: vs)
def HandAt (F H : Hp) (a : Addr) : Prop := ∃ ds, HandC ds ∧ LC K F H (.list ds) a
def SVOk (F0 H0 F H : Hp) (o : Option (Option V)) : SV → Prop
  | .any => True
  | .p d => ∃ v, o = some (some v) ∧ Den K F d v
  | .own d => ∃ a, o = some (some (.ref a)) ∧ LC K F H d a ∧ F a = none ∧ H0 a = none
  | .r d => ∃ v, o = some (some v) ∧ RdD K F H0 d v
  | .hand a => o = some (some (.ref a)) ∧ HandAt K F H a ∧ F a = none ∧ H0 a = none
structure Sat (F0 H0 F H : Hp) (σ : L2.St) (ss : SS) : Prop where
  gr : Grow F0 H0 F H
  len : ss.length = σ.length
  ok : ∀ (i : Nat) (sv : SV), ss[i]? = some sv → SVOk K F0 H0 F H σ[i]? sv
  dist : ∀ (i j : Nat) (sv sw : SV) (a : Addr), i ≠ j → ss[i]? = some sv → ss[j]? = some sw → sv.ex = true → sw.ex = true → σ[i]? = some (some (.ref a)) → σ[j]? = some (some (.ref a)) → False
  one : ∀ (i j : Nat) (a b : Addr), ss[i]? = some (.hand a) → ss[j]? = some (.hand b) → i = j
def HX (σ : L2.St) (ss : SS) (a : Addr) : Prop := ∃ i : Nat, ss[i]? = some (.hand a) ∧ σ[i]? = some (some (.ref a))
def VD (Hs F H : Hp) (σ : L2.St) (ss : SS) : Val → V → Prop
  | .p d, v => Den K F d v
  | .o j d, v => σ[j]? = some (some v) ∧ (ss[j]? = some (.own d) ∨ ss[j]? = some (.r d))
  | .f d, v => ∃ a, v = .ref a ∧ LC K F H d a ∧ F a = none ∧ Hs a = none ∧ ∀ (i : Nat) (sv : SV), ss[i]? = some sv → sv.ex = true → σ[i]? ≠ some (some (.ref a))
def Stb (F : Hp) (σ : L2.St) (ss : SS) (d : D) (v : V) : Prop := Den K F d v ∨ ∃ j : Nat, σ[j]? = some (some v) ∧ (ss[j]? = some (.own d) ∨ ss[j]? = some (.r d))
inductive Stbs (F : Hp) (σ : L2.St) (ss : SS) : List D → List V → Prop
  | nil : Stbs F σ ss [] []
  | cons {d : D} {ds : List D} {v : V} {vs : List V} : Stb K F σ ss d v → Stbs F σ ss ds vs → Stbs F σ ss (d :: ds) (v :: vs)
end
section
variable {K : PySem.W.Frag} {F F' F0 F1 F2 H H' H0 H1 H2 Hs : Hp} {σ : L2.St} {ss : SS} {d : D} {v : V} {a : Addr}
theorem LC.lr : ∀ {d : D}, LC K F H d a → LR K F H d a
  | .list _, ⟨vs, h, r⟩ => ⟨vs, .inl h, r⟩
  | .dict _, ⟨kv, h, r⟩ => ⟨kv, .inl h, r⟩
theorem LC.mono (e : Ex F F') : ∀ {d : D}, LC K F H d a → LC K F' H d a
  | .list _, ⟨vs, h, r⟩ => ⟨vs, h, r.mono e⟩
  | .dict _, ⟨kv, h, r⟩ => ⟨kv, h, r.mono e⟩
theorem LC.at (e : H' a = H a) : ∀ {d : D}, LC K F H d a → LC K F H' d a
  | .list _, ⟨vs, h, r⟩ => ⟨vs, e.trans h, r⟩
  | .dict _, ⟨kv, h, r⟩ => ⟨kv, e.trans h, r⟩
theorem LC.obj : ∀ {d : D}, LC K F H d a → ∃ o, H a = some o
  | .list _, ⟨vs, h, _⟩ => ⟨_, h⟩
  | .dict _, ⟨kv, h, _⟩ => ⟨_, h⟩
theorem LR.mono (e : Ex F F') (eh : Ex H H') : ∀ {d : D}, LR K F H d a → LR K F' H' d a
  | .list _, ⟨vs, h, r⟩ => ⟨vs, ex_rd eh h, r.mono e⟩
  | .dict _, ⟨kv, h, r⟩ => ⟨kv, ex_rd eh h, r.mono e⟩
/-- frozen as it stands -/
theorem LC.freeze : ∀ {d : D}, LC K F H d a → F a = none → Ex F H → ∃ o, H a = some o ∧ Den K (upd F a o) d (.ref a)
  | .list _, ⟨vs, h, r⟩, n, _ => ⟨_, h, .list (.inl (.inl upd_same)) (r.mono (Ex.new n))⟩
  | .dict _, ⟨kv, h, r⟩, n, _ => ⟨_, h, .dict (.inl upd_same) (r.mono (Ex.new n))⟩
theorem RdD.mono (e : Ex F F') (eh : Ex H H') (h : RdD K F H d v) : RdD K F' H' d v := by
  rcases h with h | ⟨a, e1, h⟩
  · exact .inl (h.mono e)
  · exact .inr ⟨a, e1, h.mono e eh⟩
theorem RdD.den (e : Ex F H) (h : RdD K F H d v) : Den K H d v := by
  rcases h with h | ⟨a, rfl, h⟩
  · exact h.mono e
  · cases d with
    | list ds =>
      obtain ⟨vs, h, r⟩ := h
      exact .list (.inl h) (r.mono e)
    | dict kvs =>
      obtain ⟨kv, h, r⟩ := h
      exact .dict h (r.mono e)
    | _ => exact h.elim
theorem RdDs.mono (e : Ex F F') (eh : Ex H H') : ∀ {ds : List D} {vs : List V}, RdDs K F H ds vs → RdDs K F' H' ds vs
  | _, _, .nil => .nil
  | _, _, .cons a b => .cons (a.mono e eh) (RdDs.mono e eh b)
theorem RdDs.length : ∀ {ds : List D} {vs : List V}, RdDs K F H ds vs → ds.length = vs.length
  | _, _, .nil => rfl
  | _, _, .cons _ r => by rw [List.length_cons, List.length_cons, RdDs.length r]
theorem Sat.eh (S : Sat K F0 H0 F H σ ss) : Ex H0 H := S.gr.ex
theorem Sat.ef (S : Sat K F0 H0 F H σ ss) : Ex F H := S.gr.i
theorem Sat.adr (S : Sat K F0 H0 F H σ ss) {i : Nat} {sv : SV} (h : ss[i]? = some sv) (x : sv.ex = true) (e : σ[i]? = some (some (.ref a))) : F a = none ∧ H0 a = none ∧ ∃ o, H a = some o := by
  have q := S.ok i sv h
  cases sv with
  | own d =>
    obtain ⟨b, e1, lc, h1, h2⟩ := q
    rw [e1] at e
    cases e
    exact ⟨h1, h2, lc.obj⟩
  | hand b =>
    obtain ⟨e1, ⟨ds, _, lc⟩, h1, h2⟩ := q
    rw [e1] at e
    cases e
    exact ⟨h1, h2, lc.obj⟩
  | _ => cases x
theorem Sat.grow (S : Sat K F0 H0 F H σ ss) (g : Grow F H F' H') : Sat K F0 H0 F' H' σ ss where
  gr := S.gr.trans g
  len := S.len
  dist := S.dist
  one := S.one
  ok := fun i sv h => by
    have q := S.ok i sv h
    have fr : ∀ {a : Addr}, F a = none → (∃ o, H a = some o) → F' a = none := fun {a} n ⟨o, e⟩ => by
      cases z : F' a with
      | none => rfl
      | some u =>
        rcases g.n a (by rw [z]; exact fun q => nomatch q) with k | k
        · exact absurd n k
        · rw [e] at k
          cases k
    cases sv with
    | any => trivial
    | p d =>
      obtain ⟨v, e1, h1⟩ := q
      exact ⟨v, e1, h1.mono g.f⟩
    | own d =>
      obtain ⟨a, e1, lc, h1, h2⟩ := q
      obtain ⟨o, ho⟩ := lc.obj
      exact ⟨a, e1, (lc.mono g.f).at ((g.ex a o ho).trans ho.symm), fr h1 ⟨o, ho⟩, h2⟩
    | r d =>
      obtain ⟨v, e1, h1⟩ := q
      exact ⟨v, e1, h1.mono g.f (Ex.refl _)⟩
    | hand a =>
      obtain ⟨e1, ⟨ds, hc, lc⟩, h1, h2⟩ := q
      obtain ⟨o, ho⟩ := lc.obj
      exact ⟨e1, ⟨ds, hc, (lc.mono g.f).at ((g.ex a o ho).trans ho.symm)⟩, fr h1 ⟨o, ho⟩, h2⟩
theorem Stb.rd (S : Sat K F0 H0 F H σ ss) (h : Stb K F σ ss d v) : RdD K F H d v := by
  rcases h with h | ⟨j, e, h | h⟩
  · exact .inl h
  · obtain ⟨a, e1, lc, _, _⟩ := S.ok j _ h
    rw [e] at e1
    cases e1
    exact .inr ⟨a, rfl, lc.lr⟩
  · obtain ⟨w, e1, q⟩ := S.ok j _ h
    rw [e] at e1
    cases e1
    exact q.mono (Ex.refl _) S.eh
theorem Stb.mono (e : Ex F F') (h : Stb K F σ ss d v) : Stb K F' σ ss d v := by
  rcases h with h | h
  · exact .inl (h.mono e)
  · exact .inr h
theorem Stbs.mono (e : Ex F F') : ∀ {ds : List D} {vs : List V}, Stbs K F σ ss ds vs → Stbs K F' σ ss ds vs
  | _, _, .nil => .nil
  | _, _, .cons a b => .cons (a.mono e) (Stbs.mono e b)
theorem Stbs.rd (S : Sat K F0 H0 F H σ ss) : ∀ {ds : List D} {vs : List V}, Stbs K F σ ss ds vs → RdDs K F H ds vs
  | _, _, .nil => .nil
  | _, _, .cons a b => .cons (a.rd S) (Stbs.rd S b)
theorem HX.there (S : Sat K F0 H0 F H σ ss) (h : HX σ ss a) : ∃ o, H a = some o := by
  obtain ⟨i, h1, h2⟩ := h
  exact (S.adr h1 rfl h2).2.2
theorem GrowX.andThen (g : GrowX (HX σ ss) F H F1 H1) (S1 : Sat K F0 H0 F1 H1 σ ss) (k : GrowX (HX σ ss) F1 H1 F2 H2) : GrowX (HX σ ss) F H F2 H2 where
  h := fun c o e n => k.h c o (g.h c o e n) n
  f := g.f.trans k.f
  i := k.i
  n := fun c h => by
    rcases k.n c h with q | q
    · exact g.n c q
    · by_cases hc : HX σ ss c
      · obtain ⟨o, e⟩ := HX.there S1 hc
        rw [e] at q
        cases q
      · cases e : H c with
        | none => exact .inr rfl
        | some o =>
          rw [g.h c o e hc] at q
          cases q
theorem GrowX.fresh (g : GrowX (HX σ ss) F H F1 H1) (S1 : Sat K F0 H0 F1 H1 σ ss) (n : H1 a = none) : H a = none := by
  by_cases hc : HX σ ss a
  · obtain ⟨o, e⟩ := HX.there S1 hc
    rw [e] at n
    cases n
  · cases e : H a with
    | none => rfl
    | some o =>
      rw [g.h a o e hc] at n
      cases n
/-- a new list or dict is frozen -/
theorem settle {val : Val} (S : Sat K F0 H0 F H σ ss) (g : GrowX (HX σ ss) F H F1 H1) (S1 : Sat K F0 H0 F1 H1 σ ss) (h : VD K H F1 H1 σ ss val v) :
    ∃ F2, GrowX (HX σ ss) F H F2 H1 ∧ Ex F1 F2 ∧ Sat K F0 H0 F2 H1 σ ss ∧ Stb K F2 σ ss val.get v := by
  cases val with
  | p d => exact ⟨F1, g, Ex.refl _, S1, .inl h⟩
  | o j d => exact ⟨F1, g, Ex.refl _, S1, .inr ⟨j, h.1, h.2⟩⟩
  | f d =>
    obtain ⟨a, rfl, lc, h1, h2, h3⟩ := h
    obtain ⟨o, ho, hd⟩ := lc.freeze h1 S1.ef
    have e12 : Ex F1 (upd F1 a o) := Ex.new h1
    have ei : Ex (upd F1 a o) H1 := S1.ef.add ho
    have h0 : H0 a = none := S.eh.none h2
    refine ⟨upd F1 a o, ⟨g.h, g.f.trans e12, ei, fun b hb => ?_⟩, e12, ⟨⟨S1.gr.h, S1.gr.f.trans e12, ei, fun b hb => ?_⟩, S1.len, fun i sv hi => ?_, S1.dist, S1.one⟩, .inl hd⟩
    · by_cases q : b = a
      · exact .inr (by rw [q]; exact h2)
      · rw [upd_ne q] at hb
        exact g.n b hb
    · by_cases q : b = a
      · exact .inr (by rw [q]; exact h0)
      · rw [upd_ne q] at hb
        exact S1.gr.n b hb
    · have q := S1.ok i sv hi
      cases sv with
      | any => trivial
      | p d =>
        obtain ⟨v, e1, k1⟩ := q
        exact ⟨v, e1, k1.mono e12⟩
      | own d =>
        obtain ⟨b, e1, l1, k1, k2⟩ := q
        refine ⟨b, e1, l1.mono e12, ?_, k2⟩
        rw [upd_ne (fun z => h3 i _ hi rfl (by rw [e1, z]))]
        exact k1
      | r d =>
        obtain ⟨v, e1, k1⟩ := q
        exact ⟨v, e1, k1.mono e12 (Ex.refl _)⟩
      | hand b =>
        obtain ⟨e1, ⟨ds, hc, l1⟩, k1, k2⟩ := q
        refine ⟨e1, ⟨ds, hc, l1.mono e12⟩, ?_, k2⟩
        rw [upd_ne (fun z => h3 i _ hi rfl (by rw [e1, z]))]
        exact k1
end

/-! ### readings -/
abbrev E := SS → (Val → Prop) → Prop
abbrev EA := SS → (List D → Prop) → Prop
abbrev ET := SS → (Bool → Prop) → Prop
def rE (K : PySem.W.Frag) (A : E) : TE := fun σ H QV => ∃ (F0 H0 F : Hp) (ss : SS) (Q0 : Val → Prop), Sat K F0 H0 F H σ ss ∧ A ss Q0 ∧
  ∀ val v F' H', Q0 val → GrowX (HX σ ss) F H F' H' → Sat K F0 H0 F' H' σ ss → VD K H F' H' σ ss val v → QV v H'
def rA (K : PySem.W.Frag) (A : EA) : TA := fun σ H QV => ∃ (F0 H0 F : Hp) (ss : SS) (Q0 : List D → Prop), Sat K F0 H0 F H σ ss ∧ A ss Q0 ∧
  ∀ ds vs F' H', Q0 ds → GrowX (HX σ ss) F H F' H' → Sat K F0 H0 F' H' σ ss → Stbs K F' σ ss ds vs → QV vs H'
def rT (K : PySem.W.Frag) (A : ET) : TT := fun σ H QV => ∃ (F0 H0 F : Hp) (ss : SS) (Q0 : Bool → Prop), Sat K F0 H0 F H σ ss ∧ A ss Q0 ∧
  ∀ b F' H', Q0 b → GrowX (HX σ ss) F H F' H' → Sat K F0 H0 F' H' σ ss → QV b H'
structure DE (X : Cx) (e : Expr) (A : E) : Prop where
  pe : PE X e (rE X.K A)
structure DA (X : Cx) (es : List Expr) (A : EA) : Prop where
  pa : PA X es (rA X.K A)
structure DT (X : Cx) (e : Expr) (A : ET) : Prop where
  pt : PT X e (rT X.K A)
/-- a test in a row of and, or -/
structure DW (X : Cx) (e : Expr) (A : ET) : Prop where
  pw : PW X e (rT X.K A)
section
variable {X : Cx} {K : PySem.W.Frag} {F F' F0 F1 F2 H H' H0 H1 H2 : Hp} {σ : L2.St} {ss : SS} {e : Expr} {v : V}
theorem pe_wk {t t' : TE} (h : PE X e t) (w : ∀ σ H Q, t' σ H Q → t σ H Q) : PE X e t' := ⟨fun pins s σ H Q I q => h.run pins s σ H Q I (w σ H Q q)⟩
theorem pt_wk {t t' : TT} (h : PT X e t) (w : ∀ σ H Q, t' σ H Q → t σ H Q) : PT X e t' := ⟨fun pins s σ H Q I q => h.run pins s σ H Q I (w σ H Q q)⟩
theorem pw_wk {t t' : TT} (h : PW X e t) (w : ∀ σ H Q, t' σ H Q → t σ H Q) : PW X e t' := ⟨fun wh pins s σ H Q I q => h.run wh pins s σ H Q I (w σ H Q q)⟩
theorem pa_wk {es : List Expr} {t t' : TA} (h : PA X es t) (w : ∀ σ H Q, t' σ H Q → t σ H Q) : PA X es t' := ⟨fun pos pins s σ H Q I q => h.run pos pins s σ H Q I (w σ H Q q)⟩
/-- an expression's value, used as data -/
theorem rE_bind {A : E} {T : VK} {C : D → Prop} (S : Sat K F0 H0 F H σ ss) (h : A ss fun x => C x.get)
    (k : ∀ d v F' H', C d → GrowX (HX σ ss) F H F' H' → Sat K F0 H0 F' H' σ ss → Stb K F' σ ss d v → T v H') : rE K A σ H T :=
  ⟨F0, H0, F, ss, _, S, h, fun val v F1 H1 c g S1 vd => by
    obtain ⟨F2, g2, _, S2, st⟩ := settle S g S1 vd
    exact k _ v F2 H1 c g2 S2 st⟩
/-- a value that an operation has made -/
def VDn (K : PySem.W.Frag) (H F' H' : Hp) : Val → V → Prop
  | .p d, v => Den K F' d v
  | .f d, v => ∃ a, v = .ref a ∧ H a = none ∧ F' a = none ∧ LC K F' H' d a
  | .o _ _, _ => False
theorem VDn.vd {val : Val} (g : GrowX (HX σ ss) F H F1 H1) (S1 : Sat K F0 H0 F1 H1 σ ss) (h : VDn K H1 F' H' val v) : VD K H F' H' σ ss val v := by
  cases val with
  | p d => exact h
  | o j d => exact h.elim
  | f d =>
    obtain ⟨a, rfl, h1, h2, lc⟩ := h
    refine ⟨a, rfl, lc, h2, g.fresh S1 h1, fun i sv hi hx q => ?_⟩
    obtain ⟨_, _, o, ho⟩ := S1.adr hi hx q
    rw [h1] at ho
    cases ho
/-- what an operation on data hands on -/
def Ret (K : PySem.W.Frag) (F H : Hp) (Q0 : Val → Prop) (Q : VK) : Prop := ∀ val v F' H', Q0 val → Grow F H F' H' → VDn K H F' H' val v → Q v H'
theorem Ret.of {Q0 : Val → Prop} {Q : VK} (g : GrowX (HX σ ss) F H F1 H1) (S1 : Sat K F0 H0 F1 H1 σ ss) (q : ∀ val v F' H', Q0 val → GrowX (HX σ ss) F H F' H' → Sat K F0 H0 F' H' σ ss → VD K H F' H' σ ss val v → Q v H') : Ret K F1 H1 Q0 Q :=
  fun val v F' H' h0 k vd => q val v F' H' h0 (g.andThen S1 k.any) (S1.grow k) (vd.vd g S1)
theorem Ret.p {Q0 : Val → Prop} {Q : VK} {d : D} (r : Ret K F H Q0 Q) (e : Ex F H) (h : Q0 (.p d)) (q : Den K F d v) : Q v H := r _ v F H h (Grow.refl e) q
theorem Ret.tup {Q0 : Val → Prop} {Q : VK} {ds : List D} {vs : List V} {p : Addr} (r : Ret K F H Q0 Q) (e : Ex F H) (h : Q0 (.p (.tuple ds))) (q : Dens K F ds vs) (n : H p = none) : Q (.ref p) (upd H p (.tup vs)) :=
  r _ _ (upd F p (.tup vs)) _ h (Grow.new e n) (.tuple (.inl (.inl upd_same)) (q.mono (Ex.new (e.none n))))
theorem Ret.lst {Q0 : Val → Prop} {Q : VK} {ds : List D} {vs : List V} {p : Addr} (r : Ret K F H Q0 Q) (e : Ex F H) (h : Q0 (.f (.list ds))) (q : Dens K F ds vs) (n : H p = none) : Q (.ref p) (upd H p (.lst vs)) :=
  r _ _ F _ h (Grow.newL e n) ⟨p, rfl, n, e.none n, vs, upd_same, q⟩
theorem Ret.dic {Q0 : Val → Prop} {Q : VK} {ds : List (D × D)} {vs : List (Key × V)} {p : Addr} (r : Ret K F H Q0 Q) (e : Ex F H) (h : Q0 (.f (.dict ds))) (q : Denk K F ds vs) (n : H p = none) : Q (.ref p) (upd H p (.dK vs)) :=
  r _ _ F _ h (Grow.newL e n) ⟨p, rfl, n, e.none n, vs, upd_same, q⟩
end
/-- operations on data: what they ask, what they hand on -/
abbrev G1 := D → (Val → Prop) → Prop
abbrev G2 := D → D → (Val → Prop) → Prop
abbrev GN := List D → (Val → Prop) → Prop
def rD1 (K : PySem.W.Frag) (g : G1) : V → Hp → VK → Prop := fun x H Q => ∃ (F : Hp) (d : D) (Q0 : Val → Prop), Ex F H ∧ RdD K F H d x ∧ g d Q0 ∧ Ret K F H Q0 Q
def rD2 (K : PySem.W.Frag) (g : G2) : R2 := fun x y H Q => ∃ (F : Hp) (d1 d2 : D) (Q0 : Val → Prop), Ex F H ∧ RdD K F H d1 x ∧ RdD K F H d2 y ∧ g d1 d2 Q0 ∧ Ret K F H Q0 Q
def rDn (K : PySem.W.Frag) (g : GN) : List V → Hp → VK → Prop := fun vs H Q => ∃ (F : Hp) (ds : List D) (Q0 : Val → Prop), Ex F H ∧ RdDs K F H ds vs ∧ g ds Q0 ∧ Ret K F H Q0 Q
def eOp1 (g : G1) (A : E) : E := fun ss Q => A ss fun x => g x.get Q
def eOp2 (g : G2) (A B : E) : E := fun ss Q => A ss fun x => B ss fun y => g x.get y.get Q
def eApp (g : GN) (A : EA) : E := fun ss Q => A ss fun xs => g xs Q
def eNil : EA := fun _ Q => Q []
def eCons (A : E) (B : EA) : EA := fun ss Q => A ss fun x => B ss fun ys => Q (x.get :: ys)
section
variable {X : Cx} {a b : Expr} {A B : E} {pos : Pos} {es : List Expr} {C : EA}
theorem two_rd {σ : L2.St} {H : Hp} {Q : VK} {r : R2} {g : G2} (hr : ∀ x y H Q, rD2 X.K g x y H Q → r x y H Q) (h : rE X.K (eOp2 g A B) σ H Q) : tOp r (rE X.K A) (rE X.K B) σ H Q := by
  obtain ⟨F0, H0, F, ss, Q0, S, h, q⟩ := h
  refine rE_bind (C := fun d => B ss fun y => g d y.get Q0) S h fun d1 v1 F1 H1 c1 g1 S1 st1 => rE_bind (C := fun d => g d1 d Q0) S1 c1 fun d2 v2 F2 H2 c2 g2 S2 st2 => hr _ _ _ _ ?_
  exact ⟨F2, d1, d2, Q0, S2.ef, (st1.mono g2.f).rd S2, st2.rd S2, c2, Ret.of (g1.andThen S1 g2) S2 q⟩
theorem de_op {op : Operator} {g : G2} (ho : OpR X (binaryOp op) (rD2 X.K g)) (ha : DE X a A) (hb : DE X b B) : DE X (.BinOp a op b pos) (eOp2 g A B) :=
  ⟨pe_wk (pe_op ho ha.pe hb.pe) fun _ _ _ h => two_rd (fun _ _ _ _ z => z) h⟩
theorem de_cmp {op : CmpOp} {g : G2} (ho : OpR X (compareOp op) (rD2 X.K g)) (ha : DE X a A) (hb : DE X b B) (hm : behindInMarks op b = false) : DE X (.Compare a [op] [b] pos) (eOp2 g A B) :=
  ⟨pe_wk (pe_cmpR ho ha.pe hb.pe hm) fun _ _ _ h => two_rd (fun _ _ _ _ z => z) h⟩
theorem de_ix {g : G2} (hr : IxR X (rD2 X.K g)) (ha : DE X a A) (hb : DE X b B) (hs : PlainIx b) : DE X (.Subscript a b pos) (eOp2 g A B) :=
  ⟨pe_wk (pe_ix hr ha.pe hb.pe hs) fun _ _ _ h => two_rd (fun _ _ _ _ z => z) h⟩
theorem de_un {op : UnaryOp} {g : G1} (ho : UnR X (unaryOp op) (rD1 X.K g)) (ha : DE X a A) : DE X (.UnaryOp op a pos) (eOp1 g A) := by
  refine ⟨pe_wk (pe_un ho ha.pe) fun σ H Q h => ?_⟩
  obtain ⟨F0, H0, F, ss, Q0, S, h, q⟩ := h
  exact rE_bind (C := fun d => g d Q0) S h fun d1 v1 F1 H1 c1 g1 S1 st1 => ⟨F1, d1, Q0, S1.ef, st1.rd S1, c1, Ret.of g1 S1 q⟩
theorem da_nil : DA X [] eNil := by
  refine ⟨pa_wk pa_nil fun σ H Q h => ?_⟩
  obtain ⟨F0, H0, F, ss, Q0, S, h, q⟩ := h
  exact q [] [] F H h (Grow.refl S.ef).any S .nil
theorem da_cons (ha : DE X a A) (hc : DA X es C) (hs : starEach (a :: es) X.env = (false, eval a X.env) :: starEach es X.env := by rfl) : DA X (a :: es) (eCons A C) := by
  refine ⟨pa_wk (pa_cons ha.pe hc.pa hs) fun σ H Q h => ?_⟩
  obtain ⟨F0, H0, F, ss, Q0, S, h, q⟩ := h
  refine rE_bind (C := fun d => C ss fun ys => Q0 (d :: ys)) S h fun d1 v1 F1 H1 c1 g1 S1 st1 => ?_
  exact ⟨F0, H0, F1, ss, _, S1, c1, fun ds vs F2 H2 c2 g2 S2 st2 => q (d1 :: ds) (v1 :: vs) F2 H2 c2 (g1.andThen S1 g2) S2 (.cons (st1.mono g2.f) st2)⟩
theorem args_rd {σ : L2.St} {H : Hp} {Q : VK} {g : GN} (h : rE X.K (eApp g C) σ H Q) : tCB (rDn X.K g) (rA X.K C) σ H Q := by
  obtain ⟨F0, H0, F, ss, Q0, S, h, q⟩ := h
  exact ⟨F0, H0, F, ss, _, S, h, fun ds vs F1 H1 c1 g1 S1 st1 => ⟨F1, ds, Q0, S1.ef, st1.rd S1, c1, Ret.of g1 S1 q⟩⟩
theorem de_callB {id : String} {x : Str} {p : Pos} {e : Expr} {g : GN} (hc : CallR X (.builtin id) (rDn X.K g)) (hg : Gl X x) (hm : X.mg x = none) (hv : bootBuiltins x = some (.builtin id)) (ha : DA X (e :: es) C) (hn : x ≠ "__name__" := by decide) (hdb : (x == ("__debug__" : Str)) = false := by decide)
    (hs : starEach (e :: es) X.env = (false, eval e X.env) :: starEach es X.env := by rfl) (hpl : (backTo pos (starEach es X.env)).any (·.1) = false := by rfl) : DE X (.Call (.Name x p) (e :: es) [] pos) (eApp g C) :=
  ⟨pe_wk (pe_callB hc hg hm hv ha.pa hn hdb hs hpl) fun _ _ _ h => args_rd h⟩
theorem de_callTy {T : String} {x : Str} {p : Pos} {e : Expr} {g : GN} (hc : CallR X (.type T) (rDn X.K g)) (hg : Gl X x) (hm : X.mg x = none) (hv : bootBuiltins x = some (.type T)) (ha : DA X (e :: es) C) (hn : x ≠ "__name__" := by decide) (hdb : (x == ("__debug__" : Str)) = false := by decide)
    (hs : starEach (e :: es) X.env = (false, eval e X.env) :: starEach es X.env := by rfl) (hpl : (backTo pos (starEach es X.env)).any (·.1) = false := by rfl) : DE X (.Call (.Name x p) (e :: es) [] pos) (eApp g C) :=
  ⟨pe_wk (pe_callTy hc hg hm hv ha.pa hn hdb hs hpl) fun _ _ _ h => args_rd h⟩
end
end Z3

set_option maxRecDepth 100000
set_option maxHeartbeats 2000000
/-! Zc: names, constants, displays, tests, calls of defs at the data's level. -/
namespace Z3
open PySem PySem.Spec PyProof.Rows L2
open Evl (Ex ex_rd ex_l ex_t)

section
variable {X : Cx} {K : PySem.W.Frag} {F F' F0 F1 F2 H H' H0 H1 H2 Hs : Hp} {σ : L2.St} {ss : SS} {e : Expr} {v : V}
theorem VD.up {val : Val} (g : GrowX (HX σ ss) F H F1 H1) (S1 : Sat K F0 H0 F1 H1 σ ss) (h : VD K H1 F' H' σ ss val v) : VD K H F' H' σ ss val v := by
  cases val with
  | p d => exact h
  | o j d => exact h
  | f d =>
    obtain ⟨a, e, lc, h1, h2, h3⟩ := h
    exact ⟨a, e, lc, h1, g.fresh S1 h2, h3⟩
/-- what a part that comes last hands on -/
theorem rE_last {A : E} {Q : VK} {Q0 : Val → Prop} (g : GrowX (HX σ ss) F H F1 H1) (S1 : Sat K F0 H0 F1 H1 σ ss) (h : A ss Q0)
    (q : ∀ val v F' H', Q0 val → GrowX (HX σ ss) F H F' H' → Sat K F0 H0 F' H' σ ss → VD K H F' H' σ ss val v → Q v H') : rE K A σ H1 Q :=
  ⟨F0, H0, F1, ss, Q0, S1, h, fun val v F' H' h0 k S' vd => q val v F' H' h0 (g.andThen S1 k) S' (vd.up g S1)⟩
theorem rT_bind {A : ET} {T : Bool → Hp → Prop} {C : Bool → Prop} (S : Sat K F0 H0 F H σ ss) (h : A ss C) (k : ∀ b F' H', C b → GrowX (HX σ ss) F H F' H' → Sat K F0 H0 F' H' σ ss → T b H') : rT K A σ H T :=
  ⟨F0, H0, F, ss, C, S, h, k⟩
theorem rA_bind {A : EA} {T : List V → Hp → Prop} {C : List D → Prop} (S : Sat K F0 H0 F H σ ss) (h : A ss C) (k : ∀ ds vs F' H', C ds → GrowX (HX σ ss) F H F' H' → Sat K F0 H0 F' H' σ ss → Stbs K F' σ ss ds vs → T vs H') : rA K A σ H T :=
  ⟨F0, H0, F, ss, C, S, h, k⟩
def Val.fz : Val → Prop
  | .o _ _ => False
  | _ => True
theorem settleF {val : Val} (S : Sat K F0 H0 F H σ ss) (g : GrowX (HX σ ss) F H F1 H1) (S1 : Sat K F0 H0 F1 H1 σ ss) (h : VD K H F1 H1 σ ss val v) (z : val.fz) :
    ∃ F2, GrowX (HX σ ss) F H F2 H1 ∧ Ex F1 F2 ∧ Sat K F0 H0 F2 H1 σ ss ∧ Den K F2 val.get v := by
  cases val with
  | p d => exact ⟨F1, g, Ex.refl _, S1, h⟩
  | o j d => exact z.elim
  | f d =>
    obtain ⟨a, rfl, lc, h1, h2, h3⟩ := id h
    obtain ⟨o, ho, hd⟩ := lc.freeze h1 S1.ef
    have e12 : Ex F1 (upd F1 a o) := Ex.new h1
    have ei : Ex (upd F1 a o) H1 := S1.ef.add ho
    have h0 : H0 a = none := S.eh.none h2
    refine ⟨upd F1 a o, ⟨g.h, g.f.trans e12, ei, fun b hb => ?_⟩, e12, ⟨⟨S1.gr.h, S1.gr.f.trans e12, ei, fun b hb => ?_⟩, S1.len, fun i sv hi => ?_, S1.dist, S1.one⟩, hd⟩
    · by_cases q : b = a
      · exact .inr (by rw [q]; exact h2)
      · rw [upd_ne q] at hb
        exact g.n b hb
    · by_cases q : b = a
      · exact .inr (by rw [q]; exact h0)
      · rw [upd_ne q] at hb
        exact S1.gr.n b hb
    · have q := S1.ok i sv hi
      cases sv with
      | any => trivial
      | p d =>
        obtain ⟨v, e1, k1⟩ := q
        exact ⟨v, e1, k1.mono e12⟩
      | own d =>
        obtain ⟨b, e1, l1, k1, k2⟩ := q
        refine ⟨b, e1, l1.mono e12, ?_, k2⟩
        rw [upd_ne (fun z => h3 i _ hi rfl (by rw [e1, z]))]
        exact k1
      | r d =>
        obtain ⟨v, e1, k1⟩ := q
        exact ⟨v, e1, k1.mono e12 (Ex.refl _)⟩
      | hand b =>
        obtain ⟨e1, ⟨ds, hc, l1⟩, k1, k2⟩ := q
        refine ⟨e1, ⟨ds, hc, l1.mono e12⟩, ?_, k2⟩
        rw [upd_ne (fun z => h3 i _ hi rfl (by rw [e1, z]))]
        exact k1
/-- .. as data that is frozen -/
theorem rE_bindF {A : E} {T : VK} {C : D → Prop} (S : Sat K F0 H0 F H σ ss) (h : A ss fun x => x.fz ∧ C x.get)
    (k : ∀ d v F' H', C d → GrowX (HX σ ss) F H F' H' → Sat K F0 H0 F' H' σ ss → Den K F' d v → T v H') : rE K A σ H T :=
  ⟨F0, H0, F, ss, _, S, h, fun val v F1 H1 c g S1 vd => by
    obtain ⟨F2, g2, _, S2, st⟩ := settleF S g S1 vd c.1
    exact k _ v F2 H1 c.2 g2 S2 st⟩
def rF (K : PySem.W.Frag) (A : EA) : TA := fun σ H QV => ∃ (F0 H0 F : Hp) (ss : SS) (Q0 : List D → Prop), Sat K F0 H0 F H σ ss ∧ A ss Q0 ∧
  ∀ ds vs F' H', Q0 ds → GrowX (HX σ ss) F H F' H' → Sat K F0 H0 F' H' σ ss → Dens K F' ds vs → QV vs H'
structure DF (X : Cx) (es : List Expr) (A : EA) : Prop where
  pa : PA X es (rF X.K A)
def eConsF (A : E) (B : EA) : EA := fun ss Q => A ss fun x => x.fz ∧ B ss fun ys => Q (x.get :: ys)
theorem df_nil : DF X [] eNil := by
  refine ⟨pa_wk pa_nil fun σ H Q h => ?_⟩
  obtain ⟨F0, H0, F, ss, Q0, S, h, q⟩ := h
  exact q [] [] F H h (Grow.refl S.ef).any S .nil
theorem df_cons {a : Expr} {es : List Expr} {A : E} {C : EA} (ha : DE X a A) (hc : DF X es C) (hs : starEach (a :: es) X.env = (false, eval a X.env) :: starEach es X.env := by rfl) : DF X (a :: es) (eConsF A C) := by
  refine ⟨pa_wk (pa_cons ha.pe hc.pa hs) fun σ H Q h => ?_⟩
  obtain ⟨F0, H0, F, ss, Q0, S, h, q⟩ := h
  refine rE_bindF (C := fun d => C ss fun ys => Q0 (d :: ys)) S h fun d1 v1 F1 H1 c1 g1 S1 st1 => ?_
  exact ⟨F0, H0, F1, ss, _, S1, c1, fun ds vs F2 H2 c2 g2 S2 st2 => q (d1 :: ds) (v1 :: vs) F2 H2 c2 (g1.andThen S1 g2) S2 (.cons (st1.mono g2.f) st2)⟩
end

/-! ### names, constants, displays -/
def eVar (i : Nat) : E := fun ss Q => match ss[i]? with
  | some (.p d) => Q (.p d)
  | some (.own d) => Q (.o i d)
  | some (.r d) => Q (.o i d)
  | _ => False
def eC (d : D) : E := fun _ Q => Q (.p d)
def eTup (A : EA) : E := fun ss Q => A ss fun ds => ds.length ≤ sizeLine ∧ Q (.p (.tuple ds))
def eLst (A : EA) : E := fun ss Q => A ss fun ds => ds.length ≤ sizeLine ∧ Q (.f (.list ds))
def eDic0 : E := fun _ Q => Q (.f (.dict []))
section
variable {X : Cx} {pos : Pos}
theorem de_var (i : Nat) {x : Str} (hN : X.N[i]? = some x := by rfl) (hv : Vis X.env.scope x := by first | exact Or.inl rfl | exact Or.inr (Or.inl rfl) | exact Or.inr (Or.inr rfl)) (hd : (x == ("__debug__" : Str)) = false := by decide)
    (hcd : (x == ("__classdict__" : Str)) = false := by decide) : DE X (.Name x pos) (eVar i) := by
  refine ⟨pe_wk (pe_var hN hv hd hcd) fun σ H Q h => ?_⟩
  obtain ⟨F0, H0, F, ss, Q0, S, h, q⟩ := h
  have g := (Grow.refl S.ef).any (X := HX σ ss)
  unfold eVar at h
  split at h
  · rename_i d e
    obtain ⟨v, e1, k⟩ := S.ok i _ e
    exact ⟨v, e1, q _ v F H h g S k⟩
  · rename_i d e
    obtain ⟨a, e1, k⟩ := S.ok i _ e
    exact ⟨.ref a, e1, q _ _ F H h g S ⟨e1, .inl e⟩⟩
  · rename_i d e
    obtain ⟨v, e1, k⟩ := S.ok i _ e
    exact ⟨v, e1, q _ v F H h g S ⟨e1, .inr e⟩⟩
  · exact h.elim
theorem de_c {e : Expr} {d : D} {v : V} (h : PE X e (tC v)) (hd : ∀ F, Den X.K F d v) : DE X e (eC d) := by
  refine ⟨pe_wk h fun σ H Q h => ?_⟩
  obtain ⟨F0, H0, F, ss, Q0, S, h, q⟩ := h
  exact q _ v F H h (Grow.refl S.ef).any S (hd F)
theorem de_int {i : Int} {j : Nat} : DE X (.Constant (.int i) j pos) (eC (.int i)) := de_c pe_int fun _ => .int i
theorem de_str {x : Str} {j : Nat} : DE X (.Constant (.str x) j pos) (eC (.str x)) := de_c pe_str fun _ => .str x
theorem de_bl {b : Bool} {j : Nat} : DE X (.Constant (.bool b) j pos) (eC (.bool b)) := de_c pe_bl fun _ => .bool b
theorem de_non {j : Nat} : DE X (.Constant .none j pos) (eC .none) := de_c pe_non fun _ => .none
/-- a module's constant -/
theorem de_gint {x : Str} {i : Int} (hg : Gl X x) (hm : ∃ t, X.mg x = some (.int i t)) (hd : (x == ("__debug__" : Str)) = false := by decide) : DE X (.Name x pos) (eC (.int i)) := by
  obtain ⟨t, hm⟩ := hm
  exact de_c (pe_glob hg hm (v := .int i) ⟨t, rfl⟩ hd) fun _ => .int i
theorem de_gstr {x z : Str} (hg : Gl X x) (hm : ∃ t, X.mg x = some (.str z t)) (hd : (x == ("__debug__" : Str)) = false := by decide) : DE X (.Name x pos) (eC (.str z)) := by
  obtain ⟨t, hm⟩ := hm
  exact de_c (pe_glob hg hm (v := .str z) ⟨t, rfl⟩ hd) fun _ => .str z
variable {es : List Expr} {A : EA}
theorem de_tup {k : Nat} (h : DF X es A) : DE X (.Tuple es k pos) (eTup A) := by
  refine ⟨pe_wk (pe_tup h.pa) fun σ H Q h => ?_⟩
  obtain ⟨F0, H0, F, ss, Q0, S, h, q⟩ := h
  exact ⟨F0, H0, F, ss, _, S, h, fun ds vs F1 H1 c g1 S1 r => ⟨by rw [← r.length]; exact c.1, fun p n => (Ret.of g1 S1 q).tup S1.ef c.2 r n⟩⟩
theorem de_lst (h : DF X es A) : DE X (.List es pos) (eLst A) := by
  refine ⟨pe_wk (pe_lst h.pa) fun σ H Q h => ?_⟩
  obtain ⟨F0, H0, F, ss, Q0, S, h, q⟩ := h
  exact ⟨F0, H0, F, ss, _, S, h, fun ds vs F1 H1 c g1 S1 r => ⟨by rw [← r.length]; exact c.1, fun p n => (Ret.of g1 S1 q).lst S1.ef c.2 r n⟩⟩
end

/-! ### tests -/
def eIf (T : ET) (A B : E) : E := fun ss Q => T ss fun b => if b = true then A ss Q else B ss Q
def eAnd (A B : E) : E := fun ss Q => A ss fun x => ∃ b, x.get = .bool b ∧ if b = true then B ss Q else Q (.p (.bool false))
def eOr (A B : E) : E := fun ss Q => A ss fun x => ∃ b, x.get = .bool b ∧ if b = true then Q (.p (.bool true)) else B ss Q
def eNot (A : E) : E := fun ss Q => A ss fun x => ∃ b, x.get = .bool b ∧ Q (.p (.bool (!b)))
def eChain (g g' : G2) (A B C : E) : E := fun ss Q => A ss fun x => B ss fun y => g x.get y.get fun z => ∃ b, z = .p (.bool b) ∧ if b = true then C ss fun w => g' y.get w.get Q else Q (.p (.bool false))
def tV (A : E) : ET := fun ss Q => A ss fun x => ∃ b, x.get = .bool b ∧ Q b
def tAnd (A B : ET) : ET := fun ss Q => A ss fun b => if b = true then B ss Q else Q false
def tOr (A B : ET) : ET := fun ss Q => A ss fun b => if b = true then Q true else B ss Q
def tNt (A : ET) : ET := fun ss Q => A ss fun b => Q (!b)
section
variable {X : Cx} {K : PySem.W.Frag} {F F0 H H0 : Hp} {σ : L2.St} {ss : SS} {a b c : Expr} {A B C : E} {T U : ET} {pos : Pos} {rest : List Expr} {v : V} {k : Bool}
theorem Stb.bool (h : Stb K F σ ss (.bool k) v) (S : Sat K F0 H0 F H σ ss) : v = .bl k := by
  rcases h.rd S with h | ⟨a, _, h⟩
  · cases h
    rfl
  · exact h.elim
theorem ite_bl {k : Bool} {P Q : Prop} (h : if k = true then P else Q) {P' Q' : Prop} (a : P → P') (b : Q → Q') : if k = true then P' else Q' := by
  cases k with
  | true => exact a h
  | false => exact b h
theorem de_if (ht : DT X c T) (ha : DE X a A) (hb : DE X b B) : DE X (.IfExp c a b pos) (eIf T A B) := by
  refine ⟨pe_wk (pe_ifExp ht.pt ha.pe hb.pe) fun σ H Q h => ?_⟩
  obtain ⟨F0, H0, F, ss, Q0, S, h, q⟩ := h
  exact rT_bind S h fun k F1 H1 c g1 S1 => ite_bl c (fun z => rE_last g1 S1 z q) fun z => rE_last g1 S1 z q
theorem de_one {op : BoolOp} (h : DE X a A) : DE X (.BoolOp op [a] pos) A := ⟨pe_one h.pe⟩
theorem de_and (ha : DE X a A) (hb : DE X (.BoolOp .And (b :: rest) pos) B) : DE X (.BoolOp .And (a :: b :: rest) pos) (eAnd A B) := by
  refine ⟨pe_wk (pe_and ha.pe hb.pe) fun σ H Q h => ?_⟩
  obtain ⟨F0, H0, F, ss, Q0, S, h, q⟩ := h
  refine rE_bind (C := fun d => ∃ b, d = .bool b ∧ if b = true then B ss Q0 else Q0 (.p (.bool false))) S h fun d v F1 H1 c g1 S1 st => ?_
  obtain ⟨k, rfl, c⟩ := c
  exact ⟨k, st.bool S1, ite_bl c (fun z => rE_last g1 S1 z q) fun z => q _ _ F1 H1 z g1 S1 (.bool false)⟩
theorem de_or (ha : DE X a A) (hb : DE X (.BoolOp .Or (b :: rest) pos) B) : DE X (.BoolOp .Or (a :: b :: rest) pos) (eOr A B) := by
  refine ⟨pe_wk (pe_or ha.pe hb.pe) fun σ H Q h => ?_⟩
  obtain ⟨F0, H0, F, ss, Q0, S, h, q⟩ := h
  refine rE_bind (C := fun d => ∃ b, d = .bool b ∧ if b = true then Q0 (.p (.bool true)) else B ss Q0) S h fun d v F1 H1 c g1 S1 st => ?_
  obtain ⟨k, rfl, c⟩ := c
  exact ⟨k, st.bool S1, ite_bl c (fun z => q _ _ F1 H1 z g1 S1 (.bool true)) fun z => rE_last g1 S1 z q⟩
theorem de_not (ha : DE X a A) : DE X (.UnaryOp .Not a pos) (eNot A) := by
  refine ⟨pe_wk (pe_not ha.pe) fun σ H Q h => ?_⟩
  obtain ⟨F0, H0, F, ss, Q0, S, h, q⟩ := h
  refine rE_bind (C := fun d => ∃ b, d = .bool b ∧ Q0 (.p (.bool (!b)))) S h fun d v F1 H1 c g1 S1 st => ?_
  obtain ⟨k, rfl, c⟩ := c
  exact ⟨k, st.bool S1, q _ _ F1 H1 c g1 S1 (.bool _)⟩
theorem chain_rd {g g' : G2} {Q : VK} (h : rE X.K (eChain g g' A B C) σ H Q) : tChain (rD2 X.K g) (rD2 X.K g') (rE X.K A) (rE X.K B) (rE X.K C) σ H Q := by
  obtain ⟨F0, H0, F, ss, Q0, S, h, q⟩ := h
  refine rE_bind (C := fun d => B ss fun y => g d y.get fun z => ∃ b, z = .p (.bool b) ∧ if b = true then C ss fun w => g' y.get w.get Q0 else Q0 (.p (.bool false))) S h fun d1 v1 F1 H1 c1 g1 S1 st1 => ?_
  refine rE_bind (C := fun d => g d1 d fun z => ∃ b, z = .p (.bool b) ∧ if b = true then C ss fun w => g' d w.get Q0 else Q0 (.p (.bool false))) S1 c1 fun d2 v2 F2 H2 c2 g2 S2 st2 => ?_
  refine ⟨F2, d1, d2, _, S2.ef, (st1.mono g2.f).rd S2, st2.rd S2, c2, fun val v F3 H3 c3 g3 vd => ?_⟩
  obtain ⟨k, rfl, c3⟩ := c3
  cases vd
  have S3 := S2.grow g3
  have g03 := (g1.andThen S1 g2).andThen S2 g3.any
  refine ⟨k, rfl, ite_bl c3 (fun z => ?_) fun z => q _ _ F3 H3 z g03 S3 (.bool _)⟩
  refine rE_bind (C := fun d => g' d2 d Q0) S3 z fun d4 v4 F4 H4 c4 g4 S4 st4 => ?_
  exact ⟨F4, d2, d4, Q0, S4.ef, (st2.mono (g3.f.trans g4.f)).rd S4, st4.rd S4, c4, Ret.of (g03.andThen S3 g4) S4 q⟩
theorem de_chain {op op' : CmpOp} {g g' : G2} (ho : OpR X (compareOp op) (rD2 X.K g)) (ho' : OpR X (compareOp op') (rD2 X.K g')) (ha : DE X a A) (hb : DE X b B) (hc : DE X c C)
    (hm : lastMarks [op, op'] [b, c] = false := by with_unfolding_all rfl) : DE X (.Compare a [op, op'] [b, c] pos) (eChain g g' A B C) :=
  ⟨pe_wk (pe_chain ho ho' ha.pe hb.pe hc.pe hm) fun _ _ _ h => chain_rd h⟩
/-! as tests -/
theorem tV_rd {Q : Bool → Hp → Prop} (h : rT X.K (tV A) σ H Q) : rE X.K A σ H fun x H1 => ∃ k, x = .bl k ∧ Q k H1 := by
  obtain ⟨F0, H0, F, ss, Q0, S, h, q⟩ := h
  refine rE_bind (C := fun d => ∃ b, d = .bool b ∧ Q0 b) S h fun d v F1 H1 c g1 S1 st => ?_
  obtain ⟨k, rfl, c⟩ := c
  exact ⟨k, st.bool S1, q k F1 H1 c g1 S1⟩
theorem dt_val (ha : DE X a A) (he : ∀ whole, isTrue a X.env whole = (do let v ← whole; standAt a.pos; holding [v] (truthy v)) := by intro _; rfl) : DT X a (tV A) :=
  ⟨pt_wk (pt_val ha.pe he) fun _ _ _ h => tV_rd h⟩
theorem dt_cmp {op : CmpOp} {g : G2} (ho : OpR X (compareOp op) (rD2 X.K g)) (ha : DE X a A) (hb : DE X b B) (hm : behindInMarks op b = false) : DT X (.Compare a [op] [b] pos) (tV (eOp2 g A B)) := by
  refine ⟨pt_wk (pt_cmpR ho ha.pe hb.pe hm) fun σ H Q h => ?_⟩
  exact two_rd (fun _ _ _ _ z => z) (tV_rd h)
theorem dt_chain {op op' : CmpOp} {g g' : G2} (ho : OpR X (compareOp op) (rD2 X.K g)) (ho' : OpR X (compareOp op') (rD2 X.K g')) (ha : DE X a A) (hb : DE X b B) (hc : DE X c C)
    (hm : lastMarks [op, op'] [b, c] = false := by with_unfolding_all rfl) : DT X (.Compare a [op, op'] [b, c] pos) (tV (eChain g g' A B C)) := by
  refine ⟨pt_wk (pt_chain ho ho' ha.pe hb.pe hc.pe hm) fun σ H Q h => ?_⟩
  exact chain_rd (tV_rd h)
theorem dt_not (ha : DT X a T) : DT X (.UnaryOp .Not a pos) (tNt T) := by
  refine ⟨pt_wk (pt_not ha.pt) fun σ H Q h => ?_⟩
  obtain ⟨F0, H0, F, ss, Q0, S, h, q⟩ := h
  exact rT_bind S h fun k F1 H1 c g1 S1 => q _ F1 H1 c g1 S1
theorem DW.dt (h : DW X a T) : DT X a T := ⟨h.pw.pt⟩
theorem dw_and1 (ha : DT X a T) : DW X (.BoolOp .And [a] pos) T := ⟨pw_and1 ha.pt⟩
theorem dw_or1 (ha : DT X a T) : DW X (.BoolOp .Or [a] pos) T := ⟨pw_or1 ha.pt⟩
theorem dw_and (ha : DT X a T) (hb : DW X (.BoolOp .And (b :: rest) pos) U) : DW X (.BoolOp .And (a :: b :: rest) pos) (tAnd T U) := by
  refine ⟨pw_wk (pw_and ha.pt hb.pw) fun σ H Q h => ?_⟩
  obtain ⟨F0, H0, F, ss, Q0, S, h, q⟩ := h
  exact rT_bind S h fun k F1 H1 c g1 S1 => ite_bl c (fun z => rT_bind S1 z fun k F2 H2 c g2 S2 => q _ F2 H2 c (g1.andThen S1 g2) S2) fun z => q _ F1 H1 z g1 S1
theorem dw_or (ha : DT X a T) (hb : DW X (.BoolOp .Or (b :: rest) pos) U) : DW X (.BoolOp .Or (a :: b :: rest) pos) (tOr T U) := by
  refine ⟨pw_wk (pw_or ha.pt hb.pw) fun σ H Q h => ?_⟩
  obtain ⟨F0, H0, F, ss, Q0, S, h, q⟩ := h
  exact rT_bind S h fun k F1 H1 c g1 S1 => ite_bl c (fun z => q _ F1 H1 z g1 S1) fun z => rT_bind S1 z fun k F2 H2 c g2 S2 => q _ F2 H2 c (g1.andThen S1 g2) S2
end

/-! ### calls of defs -/
/-- a def's promise over data: n arguments, what it asks and hands back -/
abbrev Sd := List D → (D → Prop) → Prop
def SpD (K : PySem.W.Frag) (n : Nat) (P : Sd) : Sp := fun vs H Q _ => vs.length = n ∧ ∃ (F : Hp) (ds : List D) (Q0 : D → Prop), Ex F H ∧ RdDs K F H ds vs ∧ P ds Q0 ∧ ∀ d v F' H', Q0 d → Grow F H F' H' → Den K F' d v → Q v H'
def msk (H : Hp) (h : Addr) : Hp := fun b => if b = h then none else H b
/-- .. of a def whose first argument is the hand -/
def SpH (K : PySem.W.Frag) (n : Nat) (P : Sd) : Sp := fun vs H Q _ => ∃ (h : Addr) (rest : List V) (F : Hp) (ds : List D) (Q0 : D → Prop), vs = .ref h :: rest ∧ rest.length = n ∧ Ex F H ∧ F h = none ∧ HandAt K F H h ∧ RdDs K F (msk H h) ds rest ∧ P ds Q0 ∧
  ∀ d v F' H', Q0 d → GrowX (fun a => a = h) F H F' H' → HandAt K F' H' h → Den K F' d v → Q v H'
def eCall (n : Nat) (P : Sd) (A : EA) : E := fun ss Q => A ss fun ds => ds.length = n ∧ P ds fun d => Q (.p d)
def eCallH (i n : Nat) (P : Sd) (A : EA) : E := fun ss Q => (∃ h, ss[i]? = some (.hand h)) ∧ A ss fun ds => ds.length = n ∧ P ds fun d => Q (.p d)
section
variable {X : Cx} {K : PySem.W.Frag} {F F' F0 F1 H H' H0 H1 : Hp} {σ : L2.St} {ss : SS}
theorem Stbs.length : ∀ {ds : List D} {vs : List V}, Stbs K F σ ss ds vs → ds.length = vs.length
  | _, _, .nil => rfl
  | _, _, .cons _ r => by rw [List.length_cons, List.length_cons, Stbs.length r]
theorem de_call {k n : Nat} {f : Addr} {fd : FuncData} {ps : List Str} {P : Sd} {x : Str} {p pos : Pos} {e : Expr} {es : List Expr} {A : EA} (G : FnOk X.prog X.w X.K X.mg X.base CX0 k f fd ps (SpD X.K n P)) (hr : Room k X.A) (hg : Gl X x) (hm : X.mg x = some (.ref f))
    (hk : PySem.W.keepIn X.K (.ref f) = true) (hb : Binds X.K fd ps []) (ha : DA X (e :: es) A) (hdb : (x == ("__debug__" : Str)) = false := by decide)
    (he : starEach (e :: es) X.env = (false, eval e X.env) :: starEach es X.env := by rfl) (hpl : (backTo pos (starEach es X.env)).any (·.1) = false := by rfl) : DE X (.Call (.Name x p) (e :: es) [] pos) (eCall n P A) := by
  refine ⟨pe_wk (pe_call G hr hg hm hk hb .nil pass0 ha.pa hdb he hpl) fun σ H Q h => ?_⟩
  obtain ⟨F0, H0, F, ss, Q0, S, h, q⟩ := h
  refine rA_bind S h fun ds vs F1 H1 c g1 S1 st => ?_
  show SpD X.K n P (vs ++ []) H1 Q E0
  rw [List.append_nil]
  exact ⟨st.length.symm.trans c.1, F1, ds, _, S1.ef, st.rd S1, c.2, fun d v F' H' h0 g hd => q _ v F' H' h0 (g1.andThen S1 g.any) (S1.grow g) hd⟩
theorem msk_ne {H : Hp} {h b : Addr} (n : b ≠ h) : msk H h b = H b := by unfold msk; rw [if_neg n]
theorem msk_same {H : Hp} {h : Addr} : msk H h h = none := by unfold msk; rw [if_pos rfl]
theorem rdd_msk {d : D} {v : V} {h : Addr} (S : Sat K F0 H0 F H σ ss) {i : Nat} (hi : ss[i]? = some (.hand h)) (hs : σ[i]? = some (some (.ref h))) (st : Stb K F σ ss d v) : RdD K F (msk H h) d v := by
  rcases st with st | ⟨j, e, st | st⟩
  · exact .inl st
  · obtain ⟨a, e1, lc, _, _⟩ := S.ok j _ st
    rw [e] at e1
    cases e1
    have ne : a ≠ h := fun z => by
      subst z
      refine S.dist i j _ _ a (fun z => ?_) hi st rfl rfl hs e
      subst z
      rw [hi] at st
      cases st
    exact .inr ⟨a, rfl, (lc.at (msk_ne ne)).lr⟩
  · obtain ⟨w, e1, q⟩ := S.ok j _ st
    rw [e] at e1
    cases e1
    refine q.mono (Ex.refl _) fun b o eb => ?_
    rw [msk_ne (fun z => ?_)]
    · exact S.eh b o eb
    · subst z
      rw [(S.adr hi rfl hs).2.1] at eb
      cases eb
theorem rdds_msk {h : Addr} (S : Sat K F0 H0 F H σ ss) {i : Nat} (hi : ss[i]? = some (.hand h)) (hs : σ[i]? = some (some (.ref h))) : ∀ {ds : List D} {vs : List V}, Stbs K F σ ss ds vs → RdDs K F (msk H h) ds vs
  | _, _, .nil => .nil
  | _, _, .cons a b => .cons (rdd_msk S hi hs a) (rdds_msk S hi hs b)
/-- a step that may change the hand alone -/
theorem Sat.growH {h : Addr} (S : Sat K F0 H0 F H σ ss) {i : Nat} (hi : ss[i]? = some (.hand h)) (hs : σ[i]? = some (some (.ref h))) (g : GrowX (fun a => a = h) F H F' H') (hh : HandAt K F' H' h) : Sat K F0 H0 F' H' σ ss := by
  obtain ⟨hF, hH0, oh, hoh⟩ := S.adr hi rfl hs
  have fr : ∀ {a : Addr}, F a = none → (∃ o, H a = some o) → F' a = none := fun {a} n ⟨o, e⟩ => by
    cases z : F' a with
    | none => rfl
    | some u =>
      rcases g.n a (by rw [z]; exact fun q => nomatch q) with k | k
      · exact absurd n k
      · rw [e] at k
        cases k
  refine ⟨⟨fun a o e _ => g.h a o (S.eh a o e) fun z => ?_, S.gr.f.trans g.f, g.i, fun b hb => ?_⟩, S.len, fun j sv hj => ?_, S.dist, S.one⟩
  · subst z
    rw [hH0] at e
    cases e
  · rcases g.n b hb with q | q
    · exact S.gr.n b q
    · exact .inr (S.eh.none q)
  · have q := S.ok j sv hj
    cases sv with
    | any => trivial
    | p d =>
      obtain ⟨v, e1, h1⟩ := q
      exact ⟨v, e1, h1.mono g.f⟩
    | own d =>
      obtain ⟨a, e1, lc, h1, h2⟩ := q
      obtain ⟨o, ho⟩ := lc.obj
      have ne : a ≠ h := fun z => by
        subst z
        refine S.dist i j _ _ a (fun z => ?_) hi hj rfl rfl hs e1
        subst z
        rw [hi] at hj
        cases hj
      exact ⟨a, e1, (lc.mono g.f).at ((g.h a o ho ne).trans ho.symm), fr h1 ⟨o, ho⟩, h2⟩
    | r d =>
      obtain ⟨v, e1, h1⟩ := q
      exact ⟨v, e1, h1.mono g.f (Ex.refl _)⟩
    | hand a =>
      obtain ⟨e1, hd, h1, h2⟩ := q
      have ij := S.one i j _ _ hi hj
      subst ij
      have e2 : a = h := by
        rw [hs] at e1
        cases e1
        rfl
      subst e2
      exact ⟨e1, hh, fr h1 ⟨oh, hoh⟩, h2⟩
/-- f(hand, e, ..) -/
theorem de_callH {k n : Nat} {f : Addr} {fd : FuncData} {ps : List Str} {P : Sd} {x y : Str} {p py pos : Pos} {es : List Expr} {A : EA} (i : Nat) (G : FnOk X.prog X.w X.K X.mg X.base CX0 k f fd ps (SpH X.K n P)) (hr : Room k X.A) (hg : Gl X x) (hm : X.mg x = some (.ref f))
    (hk : PySem.W.keepIn X.K (.ref f) = true) (hb : Binds X.K fd ps []) (ha : DA X es A) (hN : X.N[i]? = some y := by rfl) (hv : Vis X.env.scope y := by first | exact Or.inl rfl | exact Or.inr (Or.inl rfl) | exact Or.inr (Or.inr rfl)) (hd : (y == ("__debug__" : Str)) = false := by decide)
    (hcd : (y == ("__classdict__" : Str)) = false := by decide) (hdb : (x == ("__debug__" : Str)) = false := by decide)
    (he : starEach (.Name y py :: es) X.env = (false, eval (.Name y py) X.env) :: starEach es X.env := by rfl) (hpl : (backTo pos (starEach es X.env)).any (·.1) = false := by rfl) : DE X (.Call (.Name x p) (.Name y py :: es) [] pos) (eCallH i n P A) := by
  refine ⟨pe_wk (pe_call G hr hg hm hk hb .nil pass0 (pa_cons (pe_var hN hv hd hcd) ha.pa he) hdb he hpl) fun σ H Q h => ?_⟩
  obtain ⟨F0, H0, F, ss, Q0, S, ⟨⟨a, hi⟩, h⟩, q⟩ := h
  obtain ⟨hs, _⟩ := S.ok i _ hi
  refine ⟨.ref a, hs, ?_⟩
  refine rA_bind S h fun ds vs F1 H1 c g1 S1 st => ?_
  show SpH X.K n P ((.ref a :: vs) ++ []) H1 Q E0
  rw [List.append_nil]
  obtain ⟨hs', hh, hF, _⟩ := S1.ok i _ hi
  refine ⟨a, vs, F1, ds, _, rfl, st.length.symm.trans c.1, S1.ef, hF, hh, rdds_msk S1 hi hs st, c.2, fun d v F' H' h0 g hh' hd' => ?_⟩
  have gx : GrowX (HX σ ss) F1 H1 F' H' := g.weak fun z ez => by
    rw [ez]
    exact ⟨i, hi, hs⟩
  exact q _ v F' H' h0 (g1.andThen S1 gx) (S1.growH hi hs g hh') hd'
end
end Z3

set_option maxRecDepth 100000
set_option maxHeartbeats 2000000
/-! Zd: statements at the data's level. -/
namespace Z3
open PySem PySem.Spec PyProof.Rows L2
open Evl (Ex ex_rd ex_l ex_t)

structure SEnds where
  nx : SS → Prop
  rt : D → SS → Prop
  bk : SS → Prop := fun _ => False
  ct : SS → Prop := fun _ => False
abbrev SE := SEnds → SS → Prop
structure Leads (K : PySem.W.Frag) (F0 H0 F : Hp) (M : SEnds) (De : Ends) : Prop where
  nx : ∀ ss' σ' F' H', M.nx ss' → Ex F F' → Sat K F0 H0 F' H' σ' ss' → De.nx σ' H'
  bk : ∀ ss' σ' F' H', M.bk ss' → Ex F F' → Sat K F0 H0 F' H' σ' ss' → De.bk σ' H'
  ct : ∀ ss' σ' F' H', M.ct ss' → Ex F F' → Sat K F0 H0 F' H' σ' ss' → De.ct σ' H'
  rt : ∀ d ss' v σ' F' H', M.rt d ss' → Ex F F' → Sat K F0 H0 F' H' σ' ss' → Den K F' d v → De.rt v H'
def rS (K : PySem.W.Frag) (T : SE) : TS := fun De σ H => ∃ (F0 H0 F : Hp) (ss : SS) (M : SEnds), Sat K F0 H0 F H σ ss ∧ T M ss ∧ Leads K F0 H0 F M De
structure DS (X : Cx) (st : Stmt) (T : SE) : Prop where
  ps : PS X st (rS X.K T)
structure DSs (X : Cx) (st : List Stmt) (T : SE) : Prop where
  ps : PSs X st (rS X.K T)
section
variable {K : PySem.W.Frag} {F0 H0 F F1 : Hp} {M : SEnds} {De : Ends}
theorem Leads.ex (L : Leads K F0 H0 F M De) (e : Ex F F1) : Leads K F0 H0 F1 M De :=
  ⟨fun ss σ F' H' m x S => L.nx ss σ F' H' m (e.trans x) S, fun ss σ F' H' m x S => L.bk ss σ F' H' m (e.trans x) S, fun ss σ F' H' m x S => L.ct ss σ F' H' m (e.trans x) S, fun d ss v σ F' H' m x S => L.rt d ss v σ F' H' m (e.trans x) S⟩
end
section
variable {X : Cx} {K : PySem.W.Frag} {F F' F0 F1 F2 H H' H0 H1 H2 : Hp} {σ : L2.St} {ss : SS} {v : V} {M : SEnds} {De : Ends} {st : Stmt} {sts : List Stmt}
theorem ps_wk {t t' : TS} (h : PS X st t) (w : ∀ De σ H, t' De σ H → t De σ H) : PS X st t' := ⟨fun pins s σ H De I q => h.run pins s σ H De I (w De σ H q)⟩
theorem pss_wk {t t' : TS} (h : PSs X sts t) (w : ∀ De σ H, t' De σ H → t De σ H) : PSs X sts t' := ⟨fun pins s σ H De I q => h.run pins s σ H De I (w De σ H q)⟩
/-! ### slots stored, lists changed -/
theorem Sat.set (S : Sat K F0 H0 F H σ ss) {i : Nat} {sv : SV} (hsv : SVOk K F0 H0 F H (some (some v)) sv) (nh : ∀ a, sv ≠ .hand a)
    (hex : sv.ex = true → ∀ (j : Nat) (sw : SV) (a : Addr), j ≠ i → ss[j]? = some sw → sw.ex = true → σ[j]? = some (some (.ref a)) → v ≠ .ref a) : Sat K F0 H0 F H (σ.set i (some v)) (ss.set i sv) where
  gr := S.gr
  len := by rw [List.length_set, List.length_set]; exact S.len
  ok := fun j sw h => by
    by_cases hj : i = j
    · subst hj
      by_cases hi : i < ss.length
      · rw [List.getElem?_set_self hi] at h
        cases h
        rw [List.getElem?_set_self (by rw [← S.len]; exact hi)]
        exact hsv
      · rw [List.getElem?_eq_none (by rw [List.length_set]; omega)] at h
        cases h
    · rw [List.getElem?_set_ne hj] at h ⊢
      exact S.ok j sw h
  dist := fun j k sw sx a ne h1 h2 x1 x2 e1 e2 => by
    have one : ∀ {j k : Nat} {sw sx : SV}, i = j → j ≠ k → (ss.set i sv)[j]? = some sw → (ss.set i sv)[k]? = some sx → sw.ex = true → sx.ex = true → (σ.set i (some v))[j]? = some (some (.ref a)) → (σ.set i (some v))[k]? = some (some (.ref a)) → False := by
      intro j k sw sx ej ne h1 h2 x1 x2 e1 e2
      subst ej
      by_cases hi : i < ss.length
      · rw [List.getElem?_set_self hi] at h1
        cases h1
        rw [List.getElem?_set_self (by rw [← S.len]; exact hi)] at e1
        rw [List.getElem?_set_ne ne] at h2 e2
        exact hex x1 k sx a (Ne.symm ne) h2 x2 e2 (Option.some.inj (Option.some.inj e1))
      · rw [List.getElem?_eq_none (by rw [List.length_set]; omega)] at h1
        cases h1
    by_cases hj : i = j
    · exact one hj ne h1 h2 x1 x2 e1 e2
    · by_cases hk : i = k
      · exact one hk (Ne.symm ne) h2 h1 x2 x1 e2 e1
      · rw [List.getElem?_set_ne hj] at h1 e1
        rw [List.getElem?_set_ne hk] at h2 e2
        exact S.dist j k sw sx a ne h1 h2 x1 x2 e1 e2
  one := fun j k a b h1 h2 => by
    have no : ∀ {j : Nat} {b : Addr}, (ss.set i sv)[j]? = some (.hand b) → ss[j]? = some (.hand b) := fun {j b} h => by
      by_cases hj : i = j
      · subst hj
        by_cases hi : i < ss.length
        · rw [List.getElem?_set_self hi] at h
          exact absurd (Option.some.inj h) (nh _)
        · rw [List.getElem?_eq_none (by rw [List.length_set]; omega)] at h
          cases h
      · rw [List.getElem?_set_ne hj] at h
        exact h
    exact S.one j k _ _ (no h1) (no h2)
/-- a slot forgotten -/
theorem Sat.drop (S : Sat K F0 H0 F H σ ss) (i : Nat) (sv : SV) (hsv : ∀ o, σ[i]? = o → SVOk K F0 H0 F H o sv) (nx : sv.ex = false) : Sat K F0 H0 F H σ (ss.set i sv) where
  gr := S.gr
  len := by rw [List.length_set]; exact S.len
  ok := fun j sw h => by
    by_cases hj : i = j
    · subst hj
      by_cases hi : i < ss.length
      · rw [List.getElem?_set_self hi] at h
        cases h
        exact hsv _ rfl
      · rw [List.getElem?_eq_none (by rw [List.length_set]; omega)] at h
        cases h
    · rw [List.getElem?_set_ne hj] at h
      exact S.ok j sw h
  dist := fun j k sw sx a ne h1 h2 x1 x2 e1 e2 => by
    have no : ∀ {j : Nat} {sw : SV}, (ss.set i sv)[j]? = some sw → sw.ex = true → ss[j]? = some sw := fun {j sw} h x => by
      by_cases hj : i = j
      · subst hj
        by_cases hi : i < ss.length
        · rw [List.getElem?_set_self hi] at h
          cases h
          rw [nx] at x
          cases x
        · rw [List.getElem?_eq_none (by rw [List.length_set]; omega)] at h
          cases h
      · rw [List.getElem?_set_ne hj] at h
        exact h
    exact S.dist j k sw sx a ne (no h1 x1) (no h2 x2) x1 x2 e1 e2
  one := fun j k a b h1 h2 => by
    have no : ∀ {j : Nat} {b : Addr}, (ss.set i sv)[j]? = some (.hand b) → ss[j]? = some (.hand b) := fun {j b} h => by
      by_cases hj : i = j
      · subst hj
        by_cases hi : i < ss.length
        · rw [List.getElem?_set_self hi] at h
          cases h
          cases nx
        · rw [List.getElem?_eq_none (by rw [List.length_set]; omega)] at h
          cases h
      · rw [List.getElem?_set_ne hj] at h
        exact h
    exact S.one j k _ _ (no h1) (no h2)
/-- the list or dict of slot j changed -/
theorem Sat.mut (S : Sat K F0 H0 F H σ ss) {j : Nat} {d d' : D} {a : Addr} {o : HO} (hj : ss[j]? = some (.own d)) (hs : σ[j]? = some (some (.ref a))) (lc : LC K F (upd H a o) d' a) : Sat K F0 H0 F (upd H a o) σ (ss.set j (.own d')) := by
  obtain ⟨hF, hH, _⟩ := S.adr hj rfl hs
  have hjl : j < ss.length := (List.getElem?_eq_some_iff.mp hj).1
  have ne : ∀ {i : Nat} {sv : SV} {b : Addr}, i ≠ j → ss[i]? = some sv → sv.ex = true → σ[i]? = some (some (.ref b)) → b ≠ a := fun {i sv b} n h x e z => by
    subst z
    exact S.dist i j sv _ b n h hj x rfl e hs
  refine ⟨⟨fun b u e _ => S.eh.updR hH b u e, S.gr.f, S.ef.updR hF, S.gr.n⟩, by rw [List.length_set]; exact S.len, fun i sv h => ?_, fun i k sv sw b n h1 h2 x1 x2 e1 e2 => ?_, fun i k a b h1 h2 => ?_⟩
  · by_cases hij : j = i
    · subst hij
      rw [List.getElem?_set_self hjl] at h
      cases h
      exact ⟨a, hs, lc, hF, hH⟩
    · rw [List.getElem?_set_ne hij] at h
      have q := S.ok i sv h
      cases sv with
      | any => trivial
      | p d => exact q
      | own d =>
        obtain ⟨b, e1, l1, k1, k2⟩ := q
        exact ⟨b, e1, l1.at (upd_ne (ne (Ne.symm hij) h rfl e1)), k1, k2⟩
      | r d => exact q
      | hand b =>
        obtain ⟨e1, ⟨ds, hc, l1⟩, k1, k2⟩ := q
        exact ⟨e1, ⟨ds, hc, l1.at (upd_ne (ne (Ne.symm hij) h rfl e1))⟩, k1, k2⟩
  · have back : ∀ {i : Nat} {sv : SV}, (ss.set j (.own d'))[i]? = some sv → sv.ex = true → ∃ sw, ss[i]? = some sw ∧ sw.ex = true := fun {i sv} h x => by
      by_cases hij : j = i
      · subst hij
        exact ⟨_, hj, rfl⟩
      · rw [List.getElem?_set_ne hij] at h
        exact ⟨sv, h, x⟩
    obtain ⟨s1, g1, y1⟩ := back h1 x1
    obtain ⟨s2, g2, y2⟩ := back h2 x2
    exact S.dist i k s1 s2 b n g1 g2 y1 y2 e1 e2
  · have no : ∀ {i : Nat} {b : Addr}, (ss.set j (.own d'))[i]? = some (.hand b) → ss[i]? = some (.hand b) := fun {i b} h => by
      by_cases hij : j = i
      · subst hij
        rw [List.getElem?_set_self hjl] at h
        cases h
      · rw [List.getElem?_set_ne hij] at h
        exact h
    exact S.one i k _ _ (no h1) (no h2)
/-- slot j's list or dict frozen -/
theorem Sat.freeze (S : Sat K F0 H0 F H σ ss) {j : Nat} {d : D} {a : Addr} (hj : ss[j]? = some (.own d)) (hs : σ[j]? = some (some (.ref a))) : ∃ F', Ex F F' ∧ Sat K F0 H0 F' H σ (ss.set j (.p d)) ∧ Den K F' d (.ref a) := by
  obtain ⟨b, e1, lc, hF, hH⟩ := S.ok j _ hj
  rw [hs] at e1
  cases e1
  obtain ⟨o, ho, hd⟩ := lc.freeze hF S.ef
  have e12 : Ex F (upd F a o) := Ex.new hF
  have S2 : Sat K F0 H0 F H σ (ss.set j .any) := S.drop j .any (fun _ _ => trivial) rfl
  have out : ∀ {i : Nat} {sv : SV}, (ss.set j .any)[i]? = some sv → sv.ex = true → σ[i]? ≠ some (some (.ref a)) := fun {i sv} h x e => by
    by_cases hij : j = i
    · subst hij
      rw [List.getElem?_set_self (List.getElem?_eq_some_iff.mp hj).1] at h
      cases h
      cases x
    · rw [List.getElem?_set_ne hij] at h
      exact S.dist i j sv _ a (Ne.symm hij) h hj x rfl e hs
  have S3 : Sat K F0 H0 (upd F a o) H σ (ss.set j .any) := by
    refine ⟨⟨S.gr.h, S.gr.f.trans e12, S.ef.add ho, fun b hb => ?_⟩, S2.len, fun i sv hi => ?_, S2.dist, S2.one⟩
    · by_cases q : b = a
      · exact .inr (by rw [q]; exact hH)
      · rw [upd_ne q] at hb
        exact S.gr.n b hb
    · have q := S2.ok i sv hi
      cases sv with
      | any => trivial
      | p d =>
        obtain ⟨v, e1, k1⟩ := q
        exact ⟨v, e1, k1.mono e12⟩
      | own d =>
        obtain ⟨b, e1, l1, k1, k2⟩ := q
        refine ⟨b, e1, l1.mono e12, ?_, k2⟩
        rw [upd_ne (fun z => out hi rfl (by rw [e1, z]))]
        exact k1
      | r d =>
        obtain ⟨v, e1, k1⟩ := q
        exact ⟨v, e1, k1.mono e12 (Ex.refl _)⟩
      | hand b =>
        obtain ⟨e1, ⟨ds, hc, l1⟩, k1, k2⟩ := q
        refine ⟨e1, ⟨ds, hc, l1.mono e12⟩, ?_, k2⟩
        rw [upd_ne (fun z => out hi rfl (by rw [e1, z]))]
        exact k1
  have e3 : ss.set j (.p d) = (ss.set j .any).set j (.p d) := by rw [List.set_set]
  rw [e3]
  exact ⟨_, e12, S3.drop j (.p d) (fun o e => ⟨.ref a, by rw [← e, hs], hd⟩) rfl, hd⟩
/-- what a store of a value into slot i leads to -/
def asg (i : Nat) (val : Val) (ss : SS) (Q : SS → Prop) : Prop := match val with
  | .p d => Q (ss.set i (.p d))
  | .f d => Q (ss.set i (.own d))
  | .o j d => match ss[j]? with
    | some (.own _) => Q ((ss.set j .any).set i (.own d))
    | some (.r _) => Q (ss.set i (.r d))
    | _ => False
theorem asg_ok {val : Val} {i : Nat} {Q : SS → Prop} (S1 : Sat K F0 H0 F1 H1 σ ss) (eh : ∀ a, H a = none → H0 a = none) (vd : VD K H F1 H1 σ ss val v) (h : asg i val ss Q) : ∃ ss', Q ss' ∧ Sat K F0 H0 F1 H1 (σ.set i (some v)) ss' := by
  cases val with
  | p d => exact ⟨_, h, S1.set ⟨v, rfl, vd⟩ (fun _ z => nomatch z) (fun z => nomatch z)⟩
  | f d =>
    obtain ⟨a, rfl, lc, h1, h2, h3⟩ := vd
    refine ⟨_, h, S1.set ⟨a, rfl, lc, h1, eh a h2⟩ (fun _ z => nomatch z) fun _ j sw b hj hs hx e z => ?_⟩
    rw [← z] at e
    exact h3 j sw hs hx e
  | o j d =>
    obtain ⟨e1, e2⟩ := vd
    unfold asg at h
    rcases e2 with e2 | e2
    · have h : Q ((ss.set j .any).set i (.own d)) := by
        have h' := h
        simp only [e2] at h'
        exact h'
      obtain ⟨a, e3, lc, hF, hH⟩ := S1.ok j _ e2
      rw [e1] at e3
      cases e3
      refine ⟨_, h, (S1.drop j .any (fun _ _ => trivial) rfl).set ⟨a, rfl, lc, hF, hH⟩ (fun _ z => nomatch z) fun _ k sw b hk hs hx e z => ?_⟩
      cases z
      by_cases hjk : j = k
      · subst hjk
        rw [List.getElem?_set_self (List.getElem?_eq_some_iff.mp e2).1] at hs
        cases hs
        cases hx
      · rw [List.getElem?_set_ne hjk] at hs
        exact S1.dist j k _ sw _ hjk e2 hs rfl hx e1 e
    · have h : Q (ss.set i (.r d)) := by
        have h' := h
        simp only [e2] at h'
        exact h'
      obtain ⟨w, e3, rd⟩ := S1.ok j _ e2
      rw [e1] at e3
      cases e3
      exact ⟨_, h, S1.set ⟨v, rfl, rd⟩ (fun _ z => nomatch z) (fun z => nomatch z)⟩
end

/-! ### readings of statements -/
def sNext : SE := fun M ss => M.nx ss
def sSeq (T U : SE) : SE := fun M ss => T { M with nx := U M } ss
def sAsg (i : Nat) (A : E) : SE := fun M ss => A ss fun val => asg i val ss M.nx
def sDrop (A : E) : SE := fun M ss => A ss fun _ => M.nx ss
def ret (val : Val) (ss : SS) (Q : D → SS → Prop) : Prop := match val with
  | .p d => Q d ss
  | .f d => Q d ss
  | .o j d => match ss[j]? with
    | some (.own _) => Q d (ss.set j (.p d))
    | _ => False
def sRet (A : E) : SE := fun M ss => A ss fun val => ret val ss M.rt
def sRetN : SE := fun M ss => M.rt .none ss
def sIf (T : ET) (A B : SE) : SE := fun M ss => T ss fun b => if b = true then A M ss else B M ss
def sNever : SE := fun _ _ => False
def sBreak : SE := fun M ss => M.bk ss
def sCont : SE := fun M ss => M.ct ss
def sWhile (T : ET) (B : SE) : SE := fun M ss => ∃ W : Nat → SS → Prop, (∃ m, W m ss) ∧ ∀ m ss, W m ss → T ss fun b => if b = true then B { M with nx := fun s => ∃ m', m' < m ∧ W m' s, ct := fun s => ∃ m', m' < m ∧ W m' s, bk := M.nx } ss else M.nx ss
def sAug (i : Nat) (g : G2) (A : E) : SE := fun M ss => ∃ d, ss[i]? = some (.p d) ∧ A ss fun y => g d y.get fun z => ∃ d', z = .p d' ∧ M.nx (ss.set i (.p d'))
def sPar (i j : Nat) (A B : E) : SE := fun M ss => A ss fun x => B ss fun y => x.fz ∧ y.fz ∧ asg i x ss fun s1 => asg j y s1 M.nx
section
variable {X : Cx} {K : PySem.W.Frag} {st : Stmt} {rest : List Stmt} {T U : SE} {A B : E} {C : ET} {e c : Expr} {pos : Pos}
theorem Sat.hs {F0 H0 F H : Hp} {σ : L2.St} {ss : SS} (S : Sat K F0 H0 F H σ ss) : ∀ a, H a = none → H0 a = none := fun _ h => S.eh.none h
theorem dss_nil : DSs X [] sNext := ⟨pss_wk pss_nil fun De σ H ⟨F0, H0, F, ss, M, S, h, L⟩ => L.nx ss σ F H h (Ex.refl F) S⟩
theorem seq_leads {F0 H0 F : Hp} {M : SEnds} {De : Ends} (L : Leads K F0 H0 F M De) : Leads K F0 H0 F { M with nx := U M } { De with nx := rS K U De } :=
  ⟨fun ss σ F' H' m x S => ⟨F0, H0, F', ss, M, S, m, L.ex x⟩, L.bk, L.ct, L.rt⟩
theorem dss_cons (h1 : DS X st T) (h2 : DSs X rest U) : DSs X (st :: rest) (sSeq T U) :=
  ⟨pss_wk (pss_cons h1.ps h2.ps) fun De σ H ⟨F0, H0, F, ss, M, S, h, L⟩ => ⟨F0, H0, F, ss, _, S, h, seq_leads L⟩⟩
theorem dss_one (h1 : DS X st T) : DSs X [st] T := ⟨pss_one h1.ps⟩
theorem ds_never : DS X st sNever := ⟨ps_wk ps_never fun De σ H ⟨F0, H0, F, ss, M, S, h, L⟩ => h⟩
theorem dss_never {sts : List Stmt} : DSs X sts sNever := ⟨pss_wk pss_never fun De σ H ⟨F0, H0, F, ss, M, S, h, L⟩ => h⟩
theorem ds_break : DS X (.Break pos) sBreak := ⟨ps_wk ps_break fun De σ H ⟨F0, H0, F, ss, M, S, h, L⟩ => L.bk ss σ F H h (Ex.refl F) S⟩
theorem ds_cont : DS X (.Continue pos) sCont := ⟨ps_wk ps_continue fun De σ H ⟨F0, H0, F, ss, M, S, h, L⟩ => L.ct ss σ F H h (Ex.refl F) S⟩
theorem ds_pass : DS X (.Pass pos) sNext := ⟨ps_wk ps_pass fun De σ H ⟨F0, H0, F, ss, M, S, h, L⟩ => L.nx ss σ F H h (Ex.refl F) S⟩
/-- name = e -/
theorem ds_set {i : Nat} {x : Str} {pos' : Pos} (hN : X.N.Nodup) (hi : X.N[i]? = some x) (hx : Loc X.env.scope x) (he : DE X e A) (hs : swapsWith e (some (.Name x pos')) pos.line X.env = pure false := by rfl)
    (hf : X.fn x = true ∨ X.env.scope.names.lookup x = some .local := by first | exact .inl rfl | exact .inr rfl | assumption) : DS X (.Assign [.Name x pos'] e pos) (sAsg i A) :=
  ⟨ps_wk (ps_set hN hi hx he.pe hs hf) fun De σ H ⟨F0, H0, F, ss, M, S, h, L⟩ => ⟨F0, H0, F, ss, _, S, h, fun val v F1 H1 h0 g S1 vd => by
    obtain ⟨ss', q, S2⟩ := asg_ok S1 S.hs vd h0
    exact L.nx ss' _ F1 H1 q g.f S2⟩⟩
/-- e, its value dropped -/
theorem ds_expr (he : DE X e A) (hs : swapsWith e none pos.line X.env = pure false := by rfl) : DS X (.Expr e pos) (sDrop A) :=
  ⟨ps_wk (ps_expr he.pe hs) fun De σ H ⟨F0, H0, F, ss, M, S, h, L⟩ => ⟨F0, H0, F, ss, _, S, h, fun val v F1 H1 h0 g S1 vd => L.nx ss σ F1 H1 h0 g.f S1⟩⟩
theorem ret_ok {F0 H0 F H F1 H1 : Hp} {σ : L2.St} {ss : SS} {val : Val} {v : V} {M : SEnds} {De : Ends} (S : Sat K F0 H0 F H σ ss) (L : Leads K F0 H0 F M De) (g : GrowX (HX σ ss) F H F1 H1) (S1 : Sat K F0 H0 F1 H1 σ ss) (vd : VD K H F1 H1 σ ss val v) (h : ret val ss M.rt) : De.rt v H1 := by
  cases val with
  | p d => exact L.rt d ss v σ F1 H1 h g.f S1 vd
  | f d =>
    obtain ⟨F2, g2, e, S2, dn⟩ := settleF S g S1 vd trivial
    exact L.rt d ss v σ F2 H1 h g2.f S2 dn
  | o j d =>
    obtain ⟨e1, e2⟩ := vd
    unfold ret at h
    rcases e2 with e2 | e2
    · have h : M.rt d (ss.set j (.p d)) := by
        have h' := h
        simp only [e2] at h'
        exact h'
      obtain ⟨a, e3, _⟩ := S1.ok j _ e2
      rw [e1] at e3
      cases e3
      obtain ⟨F2, e, S2, dn⟩ := S1.freeze e2 e1
      exact L.rt d _ _ σ F2 H1 h (g.f.trans e) S2 dn
    · simp only [e2] at h
theorem ds_ret (he : DE X e A) : DS X (.Return (some e) pos) (sRet A) :=
  ⟨ps_wk (ps_ret he.pe) fun De σ H ⟨F0, H0, F, ss, M, S, h, L⟩ => ⟨F0, H0, F, ss, _, S, h, fun val v F1 H1 h0 g S1 vd => ret_ok S L g S1 vd h0⟩⟩
theorem ds_retN : DS X (.Return none pos) sRetN := ⟨ps_wk ps_retN fun De σ H ⟨F0, H0, F, ss, M, S, h, L⟩ => L.rt .none ss _ σ F H h (Ex.refl F) S .none⟩
theorem ds_if {a b : List Stmt} (hc : DT X c C) (ha : DSs X a T) (hb : DSs X b U) : DS X (.If c a b pos) (sIf C T U) :=
  ⟨ps_wk (ps_if hc.pt ha.ps hb.ps) fun De σ H ⟨F0, H0, F, ss, M, S, h, L⟩ => rT_bind S h fun k F1 H1 z g S1 =>
    ite_bl z (fun z => ⟨F0, H0, F1, ss, M, S1, z, L.ex g.f⟩) fun z => ⟨F0, H0, F1, ss, M, S1, z, L.ex g.f⟩⟩
theorem ds_while {body : List Stmt} (hp : PassesOwn (model X.prog X.w) X.A X.env X.xe) (hc : DT X c C) (hb : DSs X body T) : DS X (.While c body [] pos) (sWhile C T) := by
  refine ⟨ps_wk (ps_while hp hc.pt hb.ps) fun De σ H ⟨F0, H0, F, ss, M, S, ⟨W, ⟨m0, w0⟩, turn⟩, L⟩ => ?_⟩
  refine ⟨fun m σ H => ∃ F' ss, Ex F F' ∧ Sat X.K F0 H0 F' H σ ss ∧ W m ss, ⟨m0, F, ss, Ex.refl F, S, w0⟩, ?_⟩
  rintro m σ1 H1 ⟨F1, ss1, e1, S1, w1⟩
  refine rT_bind S1 (turn m ss1 w1) fun k F2 H2 z g S2 => ite_bl z (fun z => ?_) fun z => L.nx ss1 σ1 F2 H2 z (e1.trans g.f) S2
  refine ⟨fun σ' H' => ∃ m', m' < m ∧ ∃ F' ss, Ex F F' ∧ Sat X.K F0 H0 F' H' σ' ss ∧ W m' ss, fun _ _ q => q, F0, H0, F2, ss1, _, S2, z, ?_⟩
  have e2 := e1.trans g.f
  exact ⟨fun ss' σ' F' H' ⟨m', l, w⟩ x S' => ⟨m', l, F', ss', e2.trans x, S', w⟩, fun ss' σ' F' H' q x S' => L.nx ss' σ' F' H' q (e2.trans x) S',
    fun ss' σ' F' H' ⟨m', l, w⟩ x S' => ⟨m', l, F', ss', e2.trans x, S', w⟩, fun d ss' v σ' F' H' q x => L.rt d ss' v σ' F' H' q (e2.trans x)⟩
/-- name op= e, of frozen data -/
theorem ds_aug {i : Nat} {x : Str} {op : Operator} {g : G2} {pos' : Pos} (ho : PIp X op (rD2 X.K g)) (hN : X.N.Nodup) (hi : X.N[i]? = some x) (hx : Loc X.env.scope x) (he : DE X e A)
    (hf : X.fn x = true ∨ X.env.scope.names.lookup x = some .local := by first | exact .inl rfl | exact .inr rfl | assumption) : DS X (.AugAssign (.Name x pos') op e pos) (sAug i g A) := by
  refine ⟨ps_wk (ps_aug hN hi hx he.pe ho hf) fun De σ H ⟨F0, H0, F, ss, M, S, ⟨d, hd, h⟩, L⟩ => ?_⟩
  obtain ⟨w, e1, hw⟩ := S.ok i _ hd
  refine ⟨w, e1, ?_⟩
  refine rE_bind (C := fun y => g d y fun z => ∃ d', z = .p d' ∧ M.nx (ss.set i (.p d'))) S h fun d2 v2 F1 H1 c1 g1 S1 st1 => ?_
  refine ⟨F1, d, d2, _, S1.ef, .inl (hw.mono g1.f), st1.rd S1, c1, fun val v F2 H2 h0 g2 vd => ?_⟩
  obtain ⟨d', rfl, h0⟩ := h0
  have S2 := S1.grow g2
  exact L.nx _ _ F2 H2 h0 (g1.f.trans g2.f) (S2.set ⟨v, rfl, vd⟩ (fun _ z => nomatch z) fun z => nomatch z)
end
end Z3

set_option maxRecDepth 100000
set_option maxHeartbeats 2000000
/-! Ze: targets, several stores at once, lists changed. -/
namespace Z3
open PySem PySem.Spec PyProof.Rows L2
open Evl (Ex ex_rd ex_l ex_t)

/-! ### targets -/
abbrev GT := D → SS → (SS → Prop) → Prop
abbrev GTs := List D → SS → (SS → Prop) → Prop
def gN (i : Nat) : GT := fun d ss Q => Q (ss.set i (.p d))
def gT (n : Nat) (g : GTs) : GT := fun d ss Q => ∃ ds, d = .tuple ds ∧ ds.length = n ∧ g ds ss Q
def gNl : GTs := fun ds ss Q => ds = [] ∧ Q ss
def gCn (g : GT) (h : GTs) : GTs := fun ds ss Q => ∃ d r, ds = d :: r ∧ g d ss fun s => h r s Q
/-- unlike at the places ts alone -/
def But {α : Type} (ts : List Nat) (a b : List α) : Prop := a.length = b.length ∧ ∀ i, i ∉ ts → a[i]? = b[i]?
theorem But.refl {α : Type} (ts : List Nat) (a : List α) : But ts a a := ⟨rfl, fun _ _ => rfl⟩
theorem But.trans {α : Type} {ts us : List Nat} {a b c : List α} (h : But ts a b) (k : But us b c) : But (ts ++ us) a c := ⟨h.1.trans k.1, fun i hi => by
  rw [List.mem_append, not_or] at hi
  exact (h.2 i hi.1).trans (k.2 i hi.2)⟩
theorem But.set {α : Type} (i : Nat) (x : α) (a : List α) : But [i] (a.set i x) a := ⟨List.length_set, fun j hj => List.getElem?_set_ne fun e => hj (by rw [e]; exact List.mem_cons_self)⟩
/-- .. and no hand is put there -/
def ButS (ts : List Nat) (a b : SS) : Prop := But ts a b ∧ ∀ i ∈ ts, ∀ b, a[i]? ≠ some (.hand b)
theorem ButS.refl (a : SS) : ButS [] a a := ⟨But.refl _ a, fun _ h => nomatch h⟩
theorem ButS.trans {ts us : List Nat} {a b c : SS} (h : ButS ts a b) (k : ButS us b c) : ButS (ts ++ us) a c := ⟨h.1.trans k.1, fun i hi => by
  by_cases q : i ∈ ts
  · exact h.2 i q
  · rw [h.1.2 i q]
    exact k.2 i ((List.mem_append.mp hi).resolve_left q)⟩
theorem ButS.set (i : Nat) (d : D) (a : SS) : ButS [i] (a.set i (.p d)) a := ⟨But.set i _ a, fun j hj b e => by
  rw [List.mem_singleton] at hj
  subst hj
  by_cases hl : j < a.length
  · rw [List.getElem?_set_self hl] at e
    cases e
  · rw [List.getElem?_eq_none (by rw [List.length_set]; omega)] at e
    cases e⟩
def rG (K : PySem.W.Frag) (ts : List Nat) (G : GT) : TG := fun v σ H QV => ∃ (F0 H0 F : Hp) (ss : SS) (d : D) (Q0 : SS → Prop), Sat K F0 H0 F H σ ss ∧ Den K F d v ∧ G d ss Q0 ∧ ∀ ss' σ', Q0 ss' → But ts σ' σ → ButS ts ss' ss → Sat K F0 H0 F H σ' ss' → QV σ' H
def rGs (K : PySem.W.Frag) (ts : List Nat) (G : GTs) : TGs := fun vs σ H QV => ∃ (F0 H0 F : Hp) (ss : SS) (ds : List D) (Q0 : SS → Prop), Sat K F0 H0 F H σ ss ∧ Dens K F ds vs ∧ G ds ss Q0 ∧ ∀ ss' σ', Q0 ss' → But ts σ' σ → ButS ts ss' ss → Sat K F0 H0 F H σ' ss' → QV σ' H
structure DG (X : Cx) (tg : Expr) (ts : List Nat) (G : GT) : Prop where
  pg : PG X tg (rG X.K ts G)
structure DGs (X : Cx) (tgs : List Expr) (ts : List Nat) (G : GTs) : Prop where
  pg : PGs X tgs (rGs X.K ts G)
def sUnp (A : E) (G : GT) : SE := fun M ss => A ss fun x => x.fz ∧ G x.get ss M.nx
section
variable {X : Cx} {pos : Pos} {tg e : Expr} {tgs : List Expr} {ts us : List Nat} {G : GT} {Gs : GTs} {A : E}
theorem pg_wk {t t' : TG} (h : PG X tg t) (w : ∀ v σ H Q, t' v σ H Q → t v σ H Q) : PG X tg t' := ⟨fun pins s σ H v u Q I r q => h.run pins s σ H v u Q I r (w v σ H Q q)⟩
theorem pgs_wk {t t' : TGs} (h : PGs X tgs t) (w : ∀ v σ H Q, t' v σ H Q → t v σ H Q) : PGs X tgs t' := ⟨fun pins s σ H v u Q I r q => h.run pins s σ H v u Q I r (w v σ H Q q)⟩
theorem dg_name {i : Nat} {x : Str} (hN : X.N.Nodup) (hi : X.N[i]? = some x) (hx : Loc X.env.scope x) (hf : X.fn x = true ∨ X.env.scope.names.lookup x = some .local := by first | exact .inl rfl | exact .inr rfl | assumption) : DG X (.Name x pos) [i] (gN i) :=
  ⟨pg_wk (pg_name hN hi hx hf) fun v σ H Q ⟨F0, H0, F, ss, d, Q0, S, hd, h, q⟩ => q _ _ h (But.set _ _ _) (ButS.set _ _ _) (S.set ⟨v, rfl, hd⟩ (fun _ z => nomatch z) fun z => nomatch z)⟩
theorem dgs_nil : DGs X [] [] gNl := ⟨pgs_wk pgs_nil fun vs σ H Q ⟨F0, H0, F, ss, ds, Q0, S, hd, ⟨e, h⟩, q⟩ => by
  subst e
  cases hd
  exact ⟨rfl, q _ _ h (But.refl _ _) (ButS.refl _) S⟩⟩
theorem dgs_cons (h1 : DG X tg ts G) (h2 : DGs X tgs us Gs) (hs : (assignEach (tg :: tgs) X.env).map (·.2) = assign tg X.env :: (assignEach tgs X.env).map (·.2) := by rfl) : DGs X (tg :: tgs) (us ++ ts) (gCn G Gs) :=
  ⟨pgs_wk (pgs_cons h1.pg h2.pg hs) fun vs σ H Q ⟨F0, H0, F, ss, ds, Q0, S, hd, ⟨d, r, e, h⟩, q⟩ => by
    subst e
    cases hd with
    | cons a b => exact ⟨_, _, rfl, F0, H0, F, ss, d, _, S, a, h, fun ss' σ' h' b1 b2 S' => ⟨F0, H0, F, ss', r, Q0, S', b, h', fun s2 σ2 h2 b3 b4 S2 => q s2 σ2 h2 (b3.trans b1) (b4.trans b2) S2⟩⟩⟩
theorem dg_tup {k n : Nat} (hc : X.calm = true) (h : DGs X tgs ts Gs) (hn : (assignEach tgs X.env).length = n := by rfl) (hst : (assignEach tgs X.env).findIdx? (·.1) = none := by rfl) : DG X (.Tuple tgs k pos) ts (gT n Gs) :=
  ⟨pg_wk (pg_tup hc h.pg hn hst) fun v σ H Q ⟨F0, H0, F, ss, d, Q0, S, hd, ⟨ds, e, hl, h⟩, q⟩ => by
    subst e
    cases hd with
    | tuple s r => exact ⟨_, _, rfl, ex_t S.ef s, by rw [← r.length]; exact hl, F0, H0, F, ss, ds, Q0, S, r, h, q⟩⟩
/-- target = e -/
theorem ds_unp (he : DE X e A) (hg : DG X tg ts G) (hs : swapsWithSole [tg] e pos.line X.env = pure false := by rfl) (hw : swappedStores [tg] e X.env = pure none := by rfl)
    (h1 : (assignEach [tg] X.env).map (·.2) = [assign tg X.env] := by rfl) : DS X (.Assign [tg] e pos) (sUnp A G) :=
  ⟨ps_wk (ps_asg he.pe hg.pg hs hw h1) fun De σ H ⟨F0, H0, F, ss, M, S, h, L⟩ => rE_bindF (C := fun d => G d ss M.nx) S h fun d v F1 H1 c g S1 dn =>
    ⟨F0, H0, F1, ss, d, _, S1, dn, c, fun ss' σ' q _ _ S2 => L.nx ss' σ' F1 H1 q g.f S2⟩⟩
end

/-! ### several values at once -/
abbrev EV := SS → (List Val → Prop) → Prop
def Val.fr : Val → Bool
  | .f _ => true
  | _ => false
inductive VDl (K : PySem.W.Frag) (Hs F H : Hp) (σ : L2.St) (ss : SS) : List Val → List V → Prop
  | nil : VDl K Hs F H σ ss [] []
  | cons {x : Val} {xs : List Val} {v : V} {vs : List V} : VD K Hs F H σ ss x v → x.fz → (x.fr = true → ∀ p ∈ xs.zip vs, p.1.fr = true → p.2 ≠ v) → VDl K Hs F H σ ss xs vs → VDl K Hs F H σ ss (x :: xs) (v :: vs)
def rV (K : PySem.W.Frag) (A : EV) : TA := fun σ H QV => ∃ (F0 H0 F : Hp) (ss : SS) (Q0 : List Val → Prop), Sat K F0 H0 F H σ ss ∧ A ss Q0 ∧
  ∀ xs vs F' H', Q0 xs → GrowX (HX σ ss) F H F' H' → Sat K F0 H0 F' H' σ ss → VDl K H F' H' σ ss xs vs → QV vs H'
structure DV (X : Cx) (es : List Expr) (A : EV) : Prop where
  pa : PA X es (rV X.K A)
def vNil : EV := fun _ Q => Q []
def vCons (A : E) (B : EV) : EV := fun ss Q => A ss fun x => x.fz ∧ B ss fun ys => Q (x :: ys)
def asgs : List Nat → List Val → SS → (SS → Prop) → Prop
  | [], [], ss, Q => Q ss
  | i :: is, x :: xs, ss, Q => asg i x ss fun s => asgs is xs s Q
  | _, _, _, _ => False
def sPars (is : List Nat) (A : EV) : SE := fun M ss => A ss fun xs => xs.length = is.length ∧ asgs is xs ss M.nx
section
variable {X : Cx} {K : PySem.W.Frag} {F F' F0 F1 F2 H H' H0 H1 H2 Hs : Hp} {σ : L2.St} {ss : SS} {v : V} {e : Expr} {es : List Expr} {A : E} {B : EV} {pos : Pos}
theorem VD.keep {val : Val} (S1 : Sat K F0 H0 F1 H1 σ ss) (z : val.fz) (h : VD K Hs F1 H1 σ ss val v) (g : GrowX (HX σ ss) F1 H1 F2 H2) : VD K Hs F2 H2 σ ss val v := by
  cases val with
  | p d => exact Den.mono g.f _ _ h
  | o j d => exact z.elim
  | f d =>
    obtain ⟨a, e, lc, h1, h2, h3⟩ := h
    obtain ⟨o, ho⟩ := lc.obj
    refine ⟨a, e, (lc.mono g.f).at ((g.h a o ho fun ⟨i, q1, q2⟩ => h3 i _ q1 rfl q2).trans ho.symm), ?_, h2, h3⟩
    cases q : F2 a with
    | none => rfl
    | some u =>
      rcases g.n a (by rw [q]; exact fun z => nomatch z) with k | k
      · exact absurd h1 k
      · rw [ho] at k
        cases k
theorem VDl.up (g : GrowX (HX σ ss) F H F1 H1) (S1 : Sat K F0 H0 F1 H1 σ ss) : ∀ {xs : List Val} {vs : List V}, VDl K H1 F' H' σ ss xs vs → VDl K H F' H' σ ss xs vs
  | _, _, .nil => .nil
  | _, _, .cons a z d r => .cons (a.up g S1) z d (VDl.up g S1 r)
theorem VDl.frs : ∀ {xs : List Val} {vs : List V}, VDl K Hs F H σ ss xs vs → ∀ p ∈ xs.zip vs, p.1.fr = true → ∃ a, p.2 = .ref a ∧ Hs a = none
  | _, _, .nil, p, hp, _ => by simp at hp
  | _, _, .cons (x := x) a z d r, p, hp, f => by
    rw [List.zip_cons_cons] at hp
    rcases List.mem_cons.mp hp with q | q
    · subst q
      cases x with
      | f d =>
        obtain ⟨a, e, _, _, h2, _⟩ := a
        exact ⟨a, e, h2⟩
      | _ => cases f
    · exact VDl.frs r p q f
theorem dv_nil : DV X [] vNil := by
  refine ⟨pa_wk pa_nil fun σ H Q h => ?_⟩
  obtain ⟨F0, H0, F, ss, Q0, S, h, q⟩ := h
  exact q [] [] F H h (Grow.refl S.ef).any S .nil
theorem dv_cons (ha : DE X e A) (hc : DV X es B) (hs : starEach (e :: es) X.env = (false, eval e X.env) :: starEach es X.env := by rfl) : DV X (e :: es) (vCons A B) := by
  refine ⟨pa_wk (pa_cons ha.pe hc.pa hs) fun σ H Q h => ?_⟩
  obtain ⟨F0, H0, F, ss, Q0, S, h, q⟩ := h
  refine ⟨F0, H0, F, ss, _, S, h, fun val v F1 H1 c g1 S1 vd => ?_⟩
  refine ⟨F0, H0, F1, ss, _, S1, c.2, fun xs vs F2 H2 c2 g2 S2 l2 => q (val :: xs) (v :: vs) F2 H2 c2 (g1.andThen S1 g2) S2 (.cons (vd.keep S1 c.1 g2) c.1 (fun f p hp pf z => ?_) (l2.up g1 S1))⟩
  cases val with
  | f d =>
    obtain ⟨a, rfl, lc, h1, h2, h3⟩ := vd
    obtain ⟨b, e1, hb⟩ := l2.frs p hp pf
    rw [e1] at z
    cases z
    obtain ⟨o, ho⟩ := lc.obj
    rw [hb] at ho
    cases ho
  | _ => cases f
def sets : List Nat → List V → L2.St → L2.St
  | i :: is, v :: vs, σ => sets is vs (σ.set i (some v))
  | _, _, σ => σ
theorem VD.set {val : Val} {i : Nat} {w : V} {sv : SV} (z : val.fz) (h : VD K Hs F H σ ss val v) (len : ss.length = σ.length) (ne : val.fr = true → sv.ex = true → v ≠ w) : VD K Hs F H (σ.set i (some w)) (ss.set i sv) val v := by
  cases val with
  | p d => exact h
  | o j d => exact z.elim
  | f d =>
    obtain ⟨a, rfl, lc, h1, h2, h3⟩ := h
    refine ⟨a, rfl, lc, h1, h2, fun j sw hj hx q => ?_⟩
    by_cases hij : i = j
    · subst hij
      by_cases hi : i < ss.length
      · rw [List.getElem?_set_self hi] at hj
        cases hj
        rw [List.getElem?_set_self (by rw [← len]; exact hi)] at q
        exact ne rfl hx (Option.some.inj (Option.some.inj q)).symm
      · rw [List.getElem?_eq_none (by rw [List.length_set]; omega)] at hj
        cases hj
    · rw [List.getElem?_set_ne hij] at hj q
      exact h3 j sw hj hx q
theorem VDl.set {i : Nat} {w : V} {sv : SV} (len : ss.length = σ.length) : ∀ {xs : List Val} {vs : List V}, VDl K Hs F H σ ss xs vs → (sv.ex = true → ∀ p ∈ xs.zip vs, p.1.fr = true → p.2 ≠ w) → VDl K Hs F H (σ.set i (some w)) (ss.set i sv) xs vs
  | _, _, .nil, _ => .nil
  | _, _, .cons a z d r, ne => .cons (a.set z len fun f x => ne x _ (by rw [List.zip_cons_cons]; exact List.mem_cons_self) f) z d (VDl.set len r fun x p hp => ne x p (by rw [List.zip_cons_cons]; exact List.mem_cons_of_mem _ hp))
theorem asgs_ok : ∀ (is : List Nat) (xs : List Val) (vs : List V) (σ : L2.St) (ss : SS) (Q : SS → Prop), Sat K F0 H0 F1 H1 σ ss → (∀ a, H a = none → H0 a = none) → VDl K H F1 H1 σ ss xs vs → xs.length = is.length → asgs is xs ss Q → ∃ ss', Q ss' ∧ Sat K F0 H0 F1 H1 (sets is vs σ) ss'
  | [], [], _, σ, ss, Q, S, _, l, _, h => by
    cases l
    exact ⟨ss, h, S⟩
  | i :: is, x :: xs, _, σ, ss, Q, S, eh, l, hl, h => by
    have hl2 : xs.length = is.length := by
      rw [List.length_cons, List.length_cons] at hl
      omega
    cases l with
    | cons a z dd r =>
      rename_i v vs
      have h : asg i x ss fun s => asgs is xs s Q := h
      cases x with
      | o j d => exact z.elim
      | p d' =>
        have S2 : Sat K F0 H0 F1 H1 (σ.set i (some v)) (ss.set i (.p d')) := S.set ⟨v, rfl, a⟩ (fun _ z => nomatch z) (fun z => nomatch z)
        have r2 : VDl K H F1 H1 (σ.set i (some v)) (ss.set i (.p d')) xs vs := r.set S.len (fun z => nomatch z)
        exact asgs_ok is xs vs _ _ Q S2 eh r2 hl2 h
      | f d' =>
        obtain ⟨b, rfl, lc, h1, h2, h3⟩ := a
        have S2 : Sat K F0 H0 F1 H1 (σ.set i (some (.ref b))) (ss.set i (.own d')) := S.set ⟨b, rfl, lc, h1, eh b h2⟩ (fun _ z => nomatch z) fun _ j sw c hj hs hx e z => by
          rw [← z] at e
          exact h3 j sw hs hx e
        have r2 : VDl K H F1 H1 (σ.set i (some (.ref b))) (ss.set i (.own d')) xs vs := r.set S.len fun _ p hp pf => dd rfl p hp pf
        exact asgs_ok is xs vs _ _ Q S2 eh r2 hl2 h
  | [], _ :: _, _, _, _, _, _, _, _, hl, _ => by cases hl
  | _ :: _, [], _, _, _, _, _, _, _, hl, _ => by cases hl
theorem VDl.length : ∀ {xs : List Val} {vs : List V}, VDl K Hs F H σ ss xs vs → xs.length = vs.length
  | _, _, .nil => rfl
  | _, _, .cons _ _ _ r => by rw [List.length_cons, List.length_cons, VDl.length r]
/-- a, b = x, y: the stores swapped -/
theorem ds_par2 {i j : Nat} {x y : Str} {a b : Expr} {px py pt : Pos} {kt k2 pt2} (hc : X.calm = true) (hN : X.N.Nodup) (hi : X.N[i]? = some x) (hj : X.N[j]? = some y) (hij : i ≠ j)
    (hx : X.env.scope.names.lookup x = some .local) (hy : X.env.scope.names.lookup y = some .local) (ha : DV X [a, b] B)
    (hw : swappedStores [.Tuple [.Name x px, .Name y py] kt pt] (.Tuple [a, b] k2 pt2) X.env = pure (some [x, y]))
    (hs : swapsWithSole [.Tuple [.Name x px, .Name y py] kt pt] (.Tuple [a, b] k2 pt2) pos.line X.env = pure false := by rfl) :
    DS X (.Assign [.Tuple [.Name x px, .Name y py] kt pt] (.Tuple [a, b] k2 pt2) pos) (sPars [i, j] B) :=
  ⟨ps_wk (ps_par hc hN hi hj hij hx hy ha.pa hw hs) fun De σ H ⟨F0, H0, F, ss, M, S, h, L⟩ => ⟨F0, H0, F, ss, _, S, h, fun xs vs F1 H1 h0 g S1 vl => by
    obtain ⟨ss', q, S2⟩ := asgs_ok _ _ _ _ _ _ S1 S.hs vl h0.1 h0.2
    have e := vl.length
    rw [h0.1] at e
    match vs, e with
    | [v, w], _ => exact ⟨v, w, rfl, L.nx ss' _ F1 H1 q g.f S2⟩⟩⟩
theorem ds_par3 {i j l : Nat} {x y z : Str} {a b c : Expr} {px py pz pt : Pos} {kt k2 pt2} (hc : X.calm = true) (hN : X.N.Nodup) (hi : X.N[i]? = some x) (hj : X.N[j]? = some y) (hl : X.N[l]? = some z) (hij : i ≠ j) (hil : i ≠ l) (hjl : j ≠ l)
    (hx : X.env.scope.names.lookup x = some .local) (hy : X.env.scope.names.lookup y = some .local) (hz : X.env.scope.names.lookup z = some .local) (ha : DV X [a, b, c] B)
    (hw : swappedStores [.Tuple [.Name x px, .Name y py, .Name z pz] kt pt] (.Tuple [a, b, c] k2 pt2) X.env = pure (some [x, y, z]))
    (hs : swapsWithSole [.Tuple [.Name x px, .Name y py, .Name z pz] kt pt] (.Tuple [a, b, c] k2 pt2) pos.line X.env = pure false := by rfl) :
    DS X (.Assign [.Tuple [.Name x px, .Name y py, .Name z pz] kt pt] (.Tuple [a, b, c] k2 pt2) pos) (sPars [i, j, l] B) :=
  ⟨ps_wk (ps_par3 hc hN hi hj hl hij hil hjl hx hy hz ha.pa hw hs) fun De σ H ⟨F0, H0, F, ss, M, S, h, L⟩ => ⟨F0, H0, F, ss, _, S, h, fun xs vs F1 H1 h0 g S1 vl => by
    obtain ⟨ss', q, S2⟩ := asgs_ok _ _ _ _ _ _ S1 S.hs vl h0.1 h0.2
    have e := vl.length
    rw [h0.1] at e
    match vs, e with
    | [v, w, u], _ => exact ⟨v, w, u, rfl, L.nx ss' _ F1 H1 q g.f S2⟩⟩⟩
/-! the tuple made, its items stored -/
def gSets : List Nat → TGs
  | [] => gNil
  | i :: is => gCons (gName i) (gSets is)
theorem gSets_ok {Q : L2.St → Hp → Prop} : ∀ {is : List Nat} {vs : List V} {σ : L2.St}, vs.length = is.length → Q (sets is vs σ) H → gSets is vs σ H Q
  | [], [], σ, _, q => ⟨rfl, q⟩
  | i :: is, v :: vs, σ, e, q => ⟨v, vs, rfl, gSets_ok (Nat.succ.inj e) q⟩
  | [], _ :: _, _, e, _ => by cases e
  | _ :: _, [], _, e, _ => by cases e
theorem ds_parT {is : List Nat} {tgs : List Expr} {kt k2 n : Nat} {pt pt2 : Pos} (hc : X.calm = true) (hg : PGs X tgs (gSets is)) (ha : DV X es B) (hn : (assignEach tgs X.env).length = n := by rfl) (hln : is.length = n := by rfl) (hst : (assignEach tgs X.env).findIdx? (·.1) = none := by rfl)
    (hs : swapsWithSole [.Tuple tgs kt pt] (.Tuple es k2 pt2) pos.line X.env = pure false := by rfl) (hw : swappedStores [.Tuple tgs kt pt] (.Tuple es k2 pt2) X.env = pure none := by rfl)
    (h1 : (assignEach [.Tuple tgs kt pt] X.env).map (·.2) = [assign (.Tuple tgs kt pt) X.env] := by rfl) (hsz : n ≤ sizeLine := by decide) : DS X (.Assign [.Tuple tgs kt pt] (.Tuple es k2 pt2) pos) (sPars is B) := by
  refine ⟨ps_wk (ps_asg (pe_tup ha.pa) (pg_tup hc hg hn hst) hs hw h1) fun De σ H ⟨F0, H0, F, ss, M, S, h, L⟩ => ⟨F0, H0, F, ss, _, S, h, fun xs vs F1 H1 h0 g S1 vl => ?_⟩⟩
  have e : vs.length = n := by rw [← vl.length, h0.1, hln]
  refine ⟨by rw [e]; exact hsz, fun p np => ⟨p, vs, rfl, .inl (.inl upd_same), e, gSets_ok (by rw [e, hln]) ?_⟩⟩
  have gn : Grow F1 H1 F1 (upd H1 p (.tup vs)) := Grow.newL S1.ef np
  have vl2 : VDl X.K H F1 (upd H1 p (.tup vs)) σ ss xs vs := by
    clear h0 e
    have keep2 : ∀ {xs : List Val} {ws : List V}, VDl X.K H F1 H1 σ ss xs ws → VDl X.K H F1 (upd H1 p (.tup vs)) σ ss xs ws := fun {xs ws} l => by
      induction l with
      | nil => exact .nil
      | cons a z d r ih =>
        refine .cons ?_ z d ih
        rename_i x xs v ws
        cases x with
        | p d => exact a
        | o j d => exact z.elim
        | f d =>
          obtain ⟨b, e, lc, h1, h2, h3⟩ := a
          obtain ⟨o, ho⟩ := lc.obj
          exact ⟨b, e, lc.at (upd_ne (ne_of_none ho np)), h1, h2, h3⟩
    exact keep2 vl
  obtain ⟨ss', q, S2⟩ := asgs_ok _ _ _ _ _ _ (S1.grow gn) S.hs vl2 h0.1 h0.2
  exact L.nx ss' _ F1 _ q g.f S2
end

/-! ### lists changed -/
def sApp (j : Nat) (A : E) : SE := fun M ss => ∃ ds, ss[j]? = some (.own (.list ds)) ∧ A ss fun x => x.fz ∧ ds.length < sizeLine ∧ M.nx (ss.set j (.own (.list (ds ++ [x.get]))))
def sExt (j : Nat) (A : E) : SE := fun M ss => ∃ ds, ss[j]? = some (.own (.list ds)) ∧ A ss fun x => ∃ es, x = .f (.list es) ∧ ds.length + es.length ≤ sizeLine ∧ M.nx (ss.set j (.own (.list (ds ++ es))))
def sSetIx (j : Nat) (I A : E) : SE := fun M ss => ∃ ds, ss[j]? = some (.own (.list ds)) ∧ A ss fun x => x.fz ∧ I ss fun y => ∃ i k, y.get = .int i ∧ ixN ds.length i = some k ∧ M.nx (ss.set j (.own (.list (ds.set k x.get))))
def sAugIx (j : Nat) (g : G2) (I A : E) : SE := fun M ss => ∃ ds, ss[j]? = some (.own (.list ds)) ∧ I ss fun y => ∃ i k d, y.get = .int i ∧ ixN ds.length i = some k ∧ ds[k]? = some d ∧ A ss fun x => g d x.get fun z => ∃ d', z = .p d' ∧ M.nx (ss.set j (.own (.list (ds.set k d'))))
def sPop (i j : Nat) : SE := fun M ss => ∃ ds d, ss[j]? = some (.own (.list ds)) ∧ ds[ds.length - 1]? = some d ∧ M.nx ((ss.set j (.own (.list ds.dropLast))).set i (.p d))
/-- found.append(rest.pop(e)) -/
def sAppPop (i j : Nat) (A : E) : SE := fun M ss => ∃ ds es, i ≠ j ∧ ss[i]? = some (.own (.list ds)) ∧ ss[j]? = some (.own (.list es)) ∧ A ss fun x => ∃ n k d, x.get = .int n ∧ 0 ≤ n ∧ n < 2 ^ 63 ∧ k = n.toNat ∧ es[k]? = some d ∧ ds.length < sizeLine ∧
  M.nx ((ss.set j (.own (.list (es.eraseIdx k)))).set i (.own (.list (ds ++ [d]))))
section
variable {X : Cx} {K : PySem.W.Frag} {F F' F0 F1 F2 H H' H0 H1 H2 Hs : Hp} {σ : L2.St} {ss : SS} {v : V} {e : Expr} {es : List Expr} {A I : E} {pos apos cpos : Pos}
theorem tyL {p : Addr} {xs : List V} (h : H p = some (.lst xs)) : tyV K "list" (.ref p) H := Or.inl ⟨rfl, _, Or.inl (Or.inl h)⟩
theorem Sat.own (S : Sat K F0 H0 F H σ ss) {j : Nat} {d : D} (h : ss[j]? = some (.own d)) : ∃ a, σ[j]? = some (some (.ref a)) ∧ LC K F H d a := by
  obtain ⟨a, e, lc, _, _⟩ := S.ok j _ h
  exact ⟨a, e, lc⟩
theorem Sat.own_at (S : Sat K F0 H0 F H σ ss) {j : Nat} {d : D} {a : Addr} (h : ss[j]? = some (.own d)) (e : σ[j]? = some (some (.ref a))) : LC K F H d a := by
  obtain ⟨b, e1, lc⟩ := S.own h
  rw [e] at e1
  cases e1
  exact lc
theorem Stb.int {i : Int} (S : Sat K F0 H0 F H σ ss) (h : Stb K F σ ss (.int i) v) : v = .int i := by
  rcases h.rd S with h | ⟨a, _, h⟩
  · cases h
    rfl
  · exact h.elim
/-- xs.append(e) -/
theorem ds_app (j : Nat) {y : Str} {py : Pos} (he : DE X e A) (hN : X.N[j]? = some y := by rfl) (hv : Vis X.env.scope y := by first | exact Or.inl rfl | exact Or.inr (Or.inl rfl) | exact Or.inr (Or.inr rfl)) (hd : (y == ("__debug__" : Str)) = false := by decide)
    (hcd : (y == ("__classdict__" : Str)) = false := by decide) (hbase : attributeBase (.Name y py) "append" X.env (eval (.Name y py) X.env) = eval (.Name y py) X.env := by rfl)
    (hfew : ((backTo cpos (starEach [e] X.env)).all (fun x => !x.1) && (backToKw cpos (keywordEach [] X.env)).all (fun x => x.1.isSome)
      && decide (([e] : List Expr).length + ([] : List Keyword).length + (if ([] : List Keyword).isEmpty then 0 else 1) < 30)) = true := by rfl)
    (hline : (apos.endLine == cpos.line) = true := by rfl) (hs : starEach [e] X.env = (false, eval e X.env) :: starEach [] X.env := by rfl) (hplain : (backTo cpos (starEach [] X.env)).any (·.1) = false := by rfl) :
    DS X (.Expr (.Call (.Attribute (.Name y py) "append" apos) [e] [] cpos) pos) (sApp j A) := by
  refine ⟨ps_wk (ps_expr (pe_bm PySem.F.plainAttrs_list PySem.F.slot_list_append PySem.F.type_list_append mt_append (pe_var hN hv hd hcd) (pa_cons he.pe pa_nil hs) hbase hfew hline hs hplain) rfl) fun De σ H ⟨F0, H0, F, ss, M, S, ⟨ds, hj, h⟩, L⟩ => ?_⟩
  obtain ⟨a, e1, vs, e2, r⟩ := S.own hj
  refine ⟨.ref a, e1, tyL e2, ?_⟩
  refine rE_bindF (C := fun d => ds.length < sizeLine ∧ M.nx (ss.set j (.own (.list (ds ++ [d]))))) S h fun d v F1 H1 c g S1 dn => ?_
  obtain ⟨ws, e3, r3⟩ := S1.own_at hj e1
  refine ⟨a, ws, v, rfl, rfl, e3, by rw [← r3.length]; exact c.1, ?_⟩
  exact L.nx _ σ F1 _ c.2 g.f (S1.mut hj e1 ⟨_, upd_same, r3.append (.cons dn .nil)⟩)
/-- xs.extend(e), e a new list -/
theorem ds_ext (j : Nat) {y : Str} {py : Pos} (he : DE X e A) (hN : X.N[j]? = some y := by rfl) (hv : Vis X.env.scope y := by first | exact Or.inl rfl | exact Or.inr (Or.inl rfl) | exact Or.inr (Or.inr rfl)) (hd : (y == ("__debug__" : Str)) = false := by decide)
    (hcd : (y == ("__classdict__" : Str)) = false := by decide) (hbase : attributeBase (.Name y py) "extend" X.env (eval (.Name y py) X.env) = eval (.Name y py) X.env := by rfl)
    (hfew : ((backTo cpos (starEach [e] X.env)).all (fun x => !x.1) && (backToKw cpos (keywordEach [] X.env)).all (fun x => x.1.isSome)
      && decide (([e] : List Expr).length + ([] : List Keyword).length + (if ([] : List Keyword).isEmpty then 0 else 1) < 30)) = true := by rfl)
    (hline : (apos.endLine == cpos.line) = true := by rfl) (hs : starEach [e] X.env = (false, eval e X.env) :: starEach [] X.env := by rfl) (hplain : (backTo cpos (starEach [] X.env)).any (·.1) = false := by rfl) :
    DS X (.Expr (.Call (.Attribute (.Name y py) "extend" apos) [e] [] cpos) pos) (sExt j A) := by
  refine ⟨ps_wk (ps_expr (pe_bm PySem.F.plainAttrs_list PySem.F.slot_list_extend PySem.F.type_list_extend mt_extend (pe_var hN hv hd hcd) (pa_cons he.pe pa_nil hs) hbase hfew hline hs hplain) rfl) fun De σ H ⟨F0, H0, F, ss, M, S, ⟨ds, hj, h⟩, L⟩ => ?_⟩
  obtain ⟨a, e1, vs, e2, r⟩ := S.own hj
  refine ⟨.ref a, e1, tyL e2, ?_⟩
  refine ⟨F0, H0, F, ss, _, S, h, fun val v F1 H1 c g S1 vd => ?_⟩
  obtain ⟨es, rfl, hl, c⟩ := c
  obtain ⟨b, rfl, ⟨zs, e4, r4⟩, h1, h2, h3⟩ := vd
  obtain ⟨ws, e3, r3⟩ := S1.own_at hj e1
  refine ⟨a, b, ws, zs, rfl, rfl, e3, e4, by rw [← r3.length, ← r4.length]; exact hl, ?_⟩
  exact L.nx _ σ F1 _ c g.f (S1.mut hj e1 ⟨_, upd_same, r3.append r4⟩)
/-- xs[i] = e -/
theorem ds_setIx (j : Nat) {y : Str} {i : Expr} {py tpos : Pos} (hi : DE X i I) (he : DE X e A) (hN : X.N[j]? = some y := by rfl) (hv : Vis X.env.scope y := by first | exact Or.inl rfl | exact Or.inr (Or.inl rfl) | exact Or.inr (Or.inr rfl)) (hd : (y == ("__debug__" : Str)) = false := by decide)
    (hcd : (y == ("__classdict__" : Str)) = false := by decide)
    (ha : ∀ v, assign (.Subscript (.Name y py) i tpos) X.env v = (do
      let ov ← holding [v] (eval (.Name y py) X.env)
      let iv ← holding [v, ov] (eval i X.env)
      standAt tpos
      holding [v, ov, iv] (setItem ov iv v)
      release [v, ov, iv] []) := by intro _; rfl)
    (hs : swapsWithSole [.Subscript (.Name y py) i tpos] e pos.line X.env = pure false := by rfl) (hw : swappedStores [.Subscript (.Name y py) i tpos] e X.env = pure none := by rfl)
    (h1 : (assignEach [.Subscript (.Name y py) i tpos] X.env).map (·.2) = [assign (.Subscript (.Name y py) i tpos) X.env] := by rfl) : DS X (.Assign [.Subscript (.Name y py) i tpos] e pos) (sSetIx j I A) := by
  refine ⟨ps_wk (ps_asg he.pe (pg_sub (pe_var hN hv hd hcd) hi.pe set_list ha) hs hw h1) fun De σ H ⟨F0, H0, F, ss, M, S, ⟨ds, hj, h⟩, L⟩ => ?_⟩
  refine rE_bindF (C := fun d => I ss fun y => ∃ i k, y.get = .int i ∧ ixN ds.length i = some k ∧ M.nx (ss.set j (.own (.list (ds.set k d))))) S h fun d v F1 H1 c g S1 dn => ?_
  obtain ⟨a, e1, _⟩ := S1.own hj
  refine ⟨.ref a, e1, ?_⟩
  refine rE_bind (C := fun y => ∃ i k, y = .int i ∧ ixN ds.length i = some k ∧ M.nx (ss.set j (.own (.list (ds.set k d))))) S1 c fun d2 v2 F2 H2 c2 g2 S2 st2 => ?_
  obtain ⟨n, k, rfl, hk, c2⟩ := c2
  obtain ⟨ws, e3, r3⟩ := S2.own_at hj e1
  have ev := st2.int S2
  refine ⟨a, ws, n, k, rfl, ev, e3, by rw [← r3.length]; exact hk, ?_⟩
  exact L.nx _ σ F2 _ c2 (g.f.trans g2.f) (S2.mut hj e1 ⟨_, upd_same, Dens.set (dn.mono g2.f) k r3⟩)
end
end Z3

set_option maxRecDepth 100000
set_option maxHeartbeats 4000000
/-! Zf: what is walked: lists and tuples in any mix, by zip and enumerate. -/
namespace Z3
open PySem PySem.Spec PyProof.Rows L2
open Evl (Ex ex_rd ex_l ex_t)

/-- a list (false) or a tuple (true) -/
def SqX (K : PySem.W.Frag) (b : Bool) (H : Hp) (a : Addr) (xs : List V) : Prop := match b with
  | true => SqT K H a xs
  | false => SqL K H a xs
def IsIt (b : Bool) (h : Heap) (it a : Addr) (i : Nat) : Prop := match b with
  | true => h.IsTupleIter it a i
  | false => h.IsListIter it a i
def IsSeq (b : Bool) (h : Heap) (a : Addr) (its : Array Value) : Prop := match b with
  | true => h.IsTuple a its
  | false => h.IsList a its
def itObj (b : Bool) (a : Addr) : Obj := match b with
  | true => { cls := .type "tuple_iterator", data := .fields #[.ref a, .int 0 0] }
  | false => { cls := .type "list_iterator", data := .fields #[.ref a, .int 0 0] }
theorem IsIt.at {b : Bool} {h h' : Heap} {it a : Addr} {i : Nat} (s : IsIt b h it a i) (k : ∀ o, h.get? it = some o → h'.get? it = some o) : IsIt b h' it a i := by
  cases b with
  | true => exact Heap.IsTupleIter.at s k
  | false => exact Heap.IsListIter.at s k
theorem IsIt.obj {b : Bool} {h : Heap} {it a : Addr} {i : Nat} (s : IsIt b h it a i) : ∃ o, h.get? it = some o ∧ ∀ v, o.data ≠ .cell v := by
  cases b with
  | true =>
    obtain ⟨o, e, _, d⟩ := s
    exact ⟨o, e, fun v q => by rw [d] at q; cases q⟩
  | false =>
    obtain ⟨o, e, _, d⟩ := s
    exact ⟨o, e, fun v q => by rw [d] at q; cases q⟩
theorem drawsX {prog : Program} {w : World} {A : Around} (hh : A.handled = none) (b : Bool) (it a : Addr) (hne : a ≠ it) (items : Array Value) :
    Draws prog w A it [it, a] items.size (fun i v => items[i]? = some v) (fun i h => IsIt b h it a i ∧ IsSeq b h a items) := by
  cases b with
  | true => exact Draws.tuple hh it a hne items
  | false => exact Draws.list hh it a hne items
theorem beginsX (b : Bool) (a : Addr) (items : Array Value) : Begins (.ref a) (itObj b a) (fun h => IsSeq b h a items) := by
  cases b with
  | true => exact begins_tuple a items
  | false => exact begins_list a items
theorem itObj_is {b : Bool} {h : Heap} {it a : Addr} (e : h.get? it = some (itObj b a)) : IsIt b h it a 0 := by
  cases b with
  | true => exact ⟨_, e, rfl, rfl⟩
  | false => exact ⟨_, e, rfl, rfl⟩
theorem seqX {X : Cx} {pins : List (Addr × Obj)} {σ : L2.St} {H : Hp} {s : Shared} {b : Bool} {a : Addr} {xs : List V} (I : Inv X pins σ H s) (h : SqX X.K b H a xs) : ∃ its : List Value, Vals xs its ∧ IsSeq b s.heap a its.toArray := by
  cases b with
  | true =>
    obtain ⟨its, rv, p, _⟩ := I.tuple h
    exact ⟨its, rv, p⟩
  | false =>
    obtain ⟨its, rv, p, _⟩ := I.list h
    exact ⟨its, rv, p.isList⟩
theorem seqX_inj {X : Cx} {pins : List (Addr × Obj)} {σ : L2.St} {H : Hp} {s : Shared} {b : Bool} {a : Addr} {xs ys : List V} (I : Inv X pins σ H s) (h : SqX X.K b H a xs) (h' : SqX X.K b H a ys) : xs = ys := by
  cases b with
  | true => exact I.tuple_inj h h'
  | false => exact I.list_inj h h'
theorem seqX_lt {b : Bool} {h : Heap} {a : Addr} {its : Array Value} (p : IsSeq b h a its) : a < h.objs.size := by
  cases b with
  | true =>
    obtain ⟨o, e, _⟩ := p
    exact Heap.lt_size e
  | false =>
    obtain ⟨o, e, _⟩ := p
    exact Heap.lt_size e

/-! ### zip -/
def ItzX (K : PySem.W.Frag) (b1 b2 : Bool) (a b : Addr) : It :=
  ⟨fun i H => ∃ (xs ys : List V) (x y : V), SqX K b1 H a xs ∧ SqX K b2 H b ys ∧ xs[i]? = some x ∧ ys[i]? = some y,
    fun i H v H' => ∃ T x y, v = .ref T ∧ H T = none ∧ H' = upd H T (.tup [x, y]) ∧ (∀ xs, SqX K b1 H a xs → xs[i]? = some x) ∧ ∀ ys, SqX K b2 H b ys → ys[i]? = some y,
    fun i H => ∃ xs ys : List V, SqX K b1 H a xs ∧ SqX K b2 H b ys ∧ i ≤ xs.length ∧ i ≤ ys.length ∧ (i = xs.length ∨ i = ys.length)⟩
/-- a property of five addresses, one by one -/
theorem all5 {p : Addr → Prop} {a b c d e : Addr} (ha : p a) (hb : p b) (hc : p c) (hd : p d) (he : p e) : ∀ x, x ∈ [a, b, c, d, e] → p x := fun x hx => by
  simp only [List.mem_cons, List.not_mem_nil, or_false] at hx
  rcases hx with rfl | rfl | rfl | rfl | rfl <;> assumption
theorem all2 {p : Addr → Prop} {a b : Addr} (ha : p a) (hb : p b) : ∀ x, x ∈ [a, b] → p x := fun x hx => by
  simp only [List.mem_cons, List.not_mem_nil, or_false] at hx
  rcases hx with rfl | rfl <;> assumption
theorem stay5 {p : Addr → Prop} {a b c d e : Addr} (k : ∀ x, x ∈ [a, b, c, d, e] → p x) : p a ∧ p b ∧ p c ∧ p d ∧ p e :=
  ⟨k a (by simp), k b (by simp), k c (by simp), k d (by simp), k e (by simp)⟩
theorem not5 {a b c d e x : Addr} (h : x ∉ [a, b, c, d, e]) : x ≠ a ∧ x ≠ b ∧ x ≠ c ∧ x ≠ d ∧ x ≠ e := by
  simp only [List.mem_cons, List.not_mem_nil, or_false, not_or] at h
  exact h
/-- the item that a list or a tuple gives at a place -/
theorem drawn_is {us : List Value} {i : Nat} {u v : Value} (h : us[i]? = some u) (e : us.toArray[i]? = some v) : v = u := by
  rw [List.getElem?_toArray, h] at e
  cases e
  rfl
theorem drawn_lt {us : List Value} {i : Nat} {u : Value} (h : us[i]? = some u) : i < us.toArray.size := by
  rw [List.size_toArray]
  exact (List.getElem?_eq_some_iff.mp h).1
theorem vals_size {vs : List V} {us : List Value} (r : Vals vs us) : us.toArray.size = vs.length := by rw [List.size_toArray, ← r.length]
theorem turn_zipX {P : Program} {w : World} {K : PySem.W.Frag} {elts : List Expr} {kk : Nat} {tpos : Pos} {b1 b2 : Bool} {a b z TI TO i1 i2 : Addr} (D : ZipSep2 z TI TO i1 i2 [i1, a] [i2, b]) (n1 : a ≠ i1) (n2 : b ≠ i2) :
    Turn P w K (.Tuple elts kk tpos) (ItzX K b1 b2 a b) [z, TI, TO, i1, i2] z (fun i h => IsZip h z TI TO .none ∧ IsTupOf2 h TI (.ref i1) (.ref i2) ∧ (∃ x y, IsTupOf2 h TO x y) ∧ IsIt b1 h i1 a i ∧ IsIt b2 h i2 b i) where
  mem := by simp
  obj := fun i h st => all5 ⟨_, st.1, fun _ => nofun⟩ ⟨_, st.2.1, fun _ => nofun⟩ (st.2.2.1.elim fun _ t => t.elim fun _ u => ⟨_, u, fun _ => nofun⟩) st.2.2.2.1.obj st.2.2.2.2.obj
  keep := fun i h h' ⟨at0, at1, ⟨v, u, at2⟩, at3, at4⟩ stay =>
    have st := stay5 stay
    ⟨st.1 _ at0, st.2.1 _ at1, ⟨v, u, st.2.2.1 _ at2⟩, at3.at fun o => st.2.2.2.1 o, at4.at fun o => st.2.2.2.2 o⟩
  item := by
    rintro X rfl rfl rfl calm i pins s σ H E Iv free ⟨at0, at1, ⟨o1, o2, at2⟩, at3, at4⟩ ⟨xs, ys, x, y, sx, sy, gx, gy⟩
    obtain ⟨us, rx, px⟩ := seqX Iv sx
    obtain ⟨ws, ry, py⟩ := seqX Iv sy
    obtain ⟨u, eu, ru⟩ := rx.get gx
    obtain ⟨v, ev, rv⟩ := ry.get gy
    have hd := Iv.ok.hd calm
    refine wpAny_pyNext_zipD2_item D (drawsX (A := X.A.in1) hd b1 i1 a n1 us.toArray) (drawsX (A := X.A.in1) hd b2 i2 b n2 ws.toArray) at0 at1 at2 ⟨at3, px⟩ ⟨at4, py⟩ (drawn_lt eu) (drawn_lt ev) fun u' v' h1 tk eu' ev' n0 n2' n3 n4 nT _ old => ?_
    obtain rfl := drawn_is eu eu'
    obtain rfl := drawn_is ev ev'
    refine ⟨_, rfl, wpAny_letOwnedTupleGo_zip (s := { s with heap := h1, toks := tk }) n0 fun h2 m0 same => ?_⟩
    have below : ∀ c, c ∈ [z, TI, TO, i1, i2] → c < s.heap.objs.size := all5 (Heap.lt_size at0) (Heap.lt_size at1) (Heap.lt_size at2) (at3.obj.elim fun _ k => Heap.lt_size k.1) (at4.obj.elim fun _ k => Heap.lt_size k.1)
    have top := same.2 s.heap.objs.size (Nat.ne_of_gt (below z (by simp)))
    have Iw : Inv X pins σ (upd H s.heap.objs.size (.tup [x, y])) { s with heap := h2, toks := tk } := Iv.turnedNew (t' := tk) (ch := [z, TI, TO, i1, i2]) (fun c ob hc q => (same.2 c (not5 hc).1).trans (old c ob (not5 hc).1 (not5 hc).2.2.1 (not5 hc).2.2.2.1 (not5 hc).2.2.2.2 q)) free (Nat.le_refl _)
      (show ObjOk X.prog X.w _ h2 s.heap.objs.size (.tup [x, y]) from ⟨by show 2 ≤ sizeLine; decide, [u', v'], .cons ru (.cons rv .nil), _, top.trans nT, rfl, _, rfl⟩)
    refine ⟨.ref s.heap.objs.size, _, Iw, rfl, ⟨_, x, y, rfl, Iv.hok.fresh (Nat.le_refl _), rfl, fun l hl => (seqX_inj Iv hl sx).symm ▸ gx, fun l hl => (seqX_inj Iv hl sy).symm ▸ gy⟩,
      ⟨m0, (same.2 TI D.TIz).trans (old _ _ D.TIz D.TITO D.TIi1 D.TIi2 at1), ⟨_, _, (same.2 TO D.TOz).trans n2'⟩, n3.1.at fun o q => (same.2 i1 (Ne.symm D.zi1)).trans q, n4.1.at fun o q => (same.2 i2 (Ne.symm D.zi2)).trans q⟩, fun c hc => ?_⟩
    rw [upd_ne (Nat.ne_of_lt (below c hc))]
    exact (free c hc).1
  done := by
    rintro X rfl rfl rfl calm i pins s σ H E Iv free ⟨at0, at1, ⟨o1, o2, at2⟩, at3, at4⟩ ⟨xs, ys, sx, sy, le1, le2, fin⟩
    obtain ⟨us, rx, px⟩ := seqX Iv sx
    obtain ⟨ws, ry, py⟩ := seqX Iv sy
    have hd := Iv.ok.hd calm
    have k1 := vals_size rx
    have k2 := vals_size ry
    refine wpAny_pyNext_zipD2_end D (drawsX (A := X.A.in1) hd b1 i1 a n1 us.toArray) (drawsX (A := X.A.in1) hd b2 i2 b n2 ws.toArray) at0 at1 at2 ⟨at3, px⟩ ⟨at4, py⟩ (by omega) (by omega) (by omega) fun h1 tk old => ⟨rfl, ?_⟩
    exact Iv.turnedL (t' := tk) (ch := [z, TI, TO, i1, i2]) (fun c ob hc => old c ob (not5 hc).1 (not5 hc).2.2.1 (not5 hc).2.2.2.1 (not5 hc).2.2.2.2) free
  self := fun A i s Q E st h => wpAny_pyIter_zip st.1 h
def iZipX (K : PySem.W.Frag) (ta : TA) : TI := fun σ H R => ta σ H fun vs H1 => ∃ a b b1 b2 xs ys, vs = [.ref a, .ref b] ∧ SqX K b1 H1 a xs ∧ SqX K b2 H1 b ys ∧ R (ItzX K b1 b2 a b) H1
theorem pi_zipX {X : Cx} {e e2 : Expr} {ta : TA} {p pos tpos : Pos} {elts : List Expr} {kk : Nat} (hg : Gl X "zip") (hm : X.mg "zip" = none) (ha : PA X [e, e2] ta)
    (hs : starEach [e, e2] X.env = (false, eval e X.env) :: starEach [e2] X.env := by rfl) (hpl : (backTo pos (starEach [e2] X.env)).any (·.1) = false := by rfl) :
    PI X (.Tuple elts kk tpos) (.Call (.Name "zip" p) [e, e2] [] pos) (iZipX X.K ta) := by
  constructor
  intro pins s σ H R Iv red
  refine Call_ (ld_blt Iv hg hm PyProof.Rows.boot_zip (PyProof.Rows.callWith_type1 (thn (ha.run pos pins s σ H _ Iv red) ?_) hs hpl))
  rintro us t ⟨vs, G, Iw, rel, a, b, b1, b2, xs, ys, rfl, sx, sy, go⟩
  obtain ⟨u, v, rfl, ⟨⟩, ⟨⟩⟩ := vals2 rel
  obtain ⟨is, rx, px⟩ := seqX Iw sx
  obtain ⟨js, ry, py⟩ := seqX Iw sy
  have la := seqX_lt px
  have lb := seqX_lt py
  have ok : ∀ c, t.heap.objs.size ≤ c → FpOk X pins G c := fun c le => Iw.fpOk le (Iw.hok.fresh le)
  refine zip_begins2 (beginsX b1 a is.toArray) (beginsX b2 b js.toArray) px py fun g n0 n1 n2 n3 n4 _ old => wpAny_pyIter_zip n0 ?_
  have sep : ∀ {k c : Addr}, k < t.heap.objs.size → c ∈ [k] → c < t.heap.objs.size := fun {k c} lk hc => by
    cases List.mem_singleton.mp hc
    exact lk
  exact ⟨_, _, _, _, G, rfl, Iw.kept (t' := t.toks) old, turn_zipX (zip_sep2 (fp1 := [a]) (fp2 := [b]) (fun c => sep la) fun c => sep lb) (Nat.ne_of_lt la) (Nat.ne_of_lt (Nat.lt_succ_of_lt lb)), ⟨n0, n1, ⟨_, _, n2⟩, itObj_is n3, itObj_is n4⟩,
    all5 (ok _ (by omega)) (ok _ (by omega)) (ok _ (by omega)) (ok _ (by omega)) (ok _ (by omega)), go⟩

/-! ### enumerate -/
set_option maxHeartbeats 4000000 in
theorem meets_enumerate_new1 {v : Value} {it : Obj} {At : Heap → Prop} (B : Begins v it At) :
    Meets (Builtin.«enumerate.__new__» ⟨[.type "enumerate", v], []⟩) fun _ R t => At t.heap ∧
      R (.ok (.ret (.ref (t.heap.push it).objs.size))) { t with heap := (t.heap.push it).push { cls := .type "enumerate", data := .fields #[.none, .bool false, .ref t.heap.objs.size, rawInt 0, .none, .none] } } := by
  refine .of_wp fun prog w A R t ⟨at1, fin⟩ => ?_
  cases t with
  | mk hp gn dr tk os =>
    have sub := sub_enumerate
    have step : ∀ {A' : Around} {E : Value → Shared → Prop} {Q : Value → Shared → Prop}, Q (.ref hp.objs.size) ⟨hp.push it, gn, dr, tk, os⟩ → wpAny (model prog w) A' (pyIter v) Q E ⟨hp, gn, dr, tk, os⟩ := fun {A' E Q} => B.iter prog w A' E ⟨hp, gn, dr, tk, os⟩ Q at1
    wp_walk using step
    refine wpAny_stack_any fun frames => ?_
    refine wpAny_pure ?_
    split
    · rename_i c _ _ _ _ _
      cases (c == Value.type "enumerate") <;> (wp_walk using step; exact ⟨_, rfl, fin⟩)
    · wp_walk using step
      exact ⟨_, rfl, fin⟩
theorem enum_begins1 {prog : Program} {w : World} {A : Around} {E : Value → Shared → Prop} {t : Shared} {v : Value} {it : Obj} {At : Heap → Prop} {Q : Value → Shared → Prop} (B : Begins v it At) (at1 : At t.heap)
    (fin : ∀ g, IsEnum g (t.heap.objs.size + 1) t.heap.objs.size 0 .none → g.get? t.heap.objs.size = some it → g.objs.size = t.heap.objs.size + 2 → (∀ b o, t.heap.get? b = some o → g.get? b = some o) → Q (.ref (t.heap.objs.size + 1)) { t with heap := g }) :
    wpAny (model prog w) A (call (.type "enumerate") [v]) Q E t := by
  have len : (t.heap.push it).objs.size = t.heap.objs.size + 1 := Heap.size_push ..
  refine callType_new F.called_enumerate (by decide) (F.typeCall_enumerate_1 _) (F.newCall_enumerate_1 _) (fun x => F.args_object_init_2 x _) F.entry_enumerate_new (meets_enumerate_new1 B) ⟨at1, ?_⟩
  show (Shared.TypeIs _ _ _) ∧ _
  have mk : IsEnum ((t.heap.push it).push { cls := .type "enumerate", data := .fields #[.none, .bool false, .ref t.heap.objs.size, rawInt 0, .none, .none] }) (t.heap.objs.size + 1) t.heap.objs.size 0 .none := by
    rw [← len]
    exact Heap.get?_push_size (t.heap.push it) rfl
  rw [len]
  refine ⟨⟨_, mk, rfl⟩, fin _ mk (Heap.get?_push_of_some _ (Heap.get?_push_size _ B.free)) ?_ fun b o q => Heap.get?_push_of_some _ (Heap.get?_push_of_some _ q)⟩
  rw [Heap.size_push, len]
def IteX (K : PySem.W.Frag) (b : Bool) (a : Addr) : It :=
  ⟨fun i H => ∃ (xs : List V) (x : V), SqX K b H a xs ∧ xs[i]? = some x,
    fun i H v H' => ∃ T x, v = .ref T ∧ H T = none ∧ H' = upd H T (.tup [.int (i : Nat), x]) ∧ ∀ xs, SqX K b H a xs → xs[i]? = some x,
    fun i H => ∃ xs : List V, SqX K b H a xs ∧ i = xs.length⟩
theorem turn_enumX {P : Program} {w : World} {K : PySem.W.Frag} {elts : List Expr} {kk : Nat} {tpos : Pos} {b : Bool} {a e it : Addr} (hne : e ≠ it) (hea : e ≠ a) (hia : a ≠ it) :
    Turn P w K (.Tuple elts kk tpos) (IteX K b a) [e, it] e (fun i h => (∃ old, IsEnum h e it (i : Nat) old) ∧ IsIt b h it a i) where
  mem := by simp
  obj := fun i h st => all2 (st.1.elim fun _ k => ⟨_, k, fun _ => nofun⟩) st.2.obj
  keep := fun i h h' ⟨⟨old, at0⟩, at1⟩ stay => ⟨⟨old, stay e (List.mem_cons_self ..) _ at0⟩, at1.at fun o => stay it (List.mem_cons_of_mem _ (List.mem_cons_self ..)) o⟩
  item := by
    rintro X rfl rfl rfl calm i pins s σ H E Iv free ⟨⟨old, at0⟩, at1⟩ ⟨xs, x, sx, gx⟩
    obtain ⟨us, rx, px⟩ := seqX Iv sx
    obtain ⟨u, eu, ru⟩ := rx.get gx
    refine wpAny_pyNext_enum_itemC (drawsX (A := X.A.in1) (Iv.ok.hd calm) b it a hia us.toArray) at0 ⟨at1, px⟩ (drawn_lt eu) hne (by simp [hne, hea]) fun u' h1 tk eu' n0 n1 nT _ kept => ?_
    obtain rfl := drawn_is eu eu'
    refine ⟨_, rfl, wpAny_letOwnedTupleGo_enum (s := { s with heap := h1, toks := tk + 1 }) n0 fun h2 m0 same => ?_⟩
    have below : ∀ c, c ∈ [e, it] → c < s.heap.objs.size := all2 (Heap.lt_size at0) (at1.obj.elim fun _ k => Heap.lt_size k.1)
    have top := same.2 s.heap.objs.size (Nat.ne_of_gt (Heap.lt_size at0))
    have two : ∀ {c : Addr}, c ∉ [e, it] → c ≠ e ∧ c ≠ it := fun {c} hc => by
      simp only [List.mem_cons, List.not_mem_nil, or_false, not_or] at hc
      exact hc
    have Iw : Inv X pins σ (upd H s.heap.objs.size (.tup [.int (i : Nat), x])) { s with heap := h2, toks := tk + 1 } :=
      Iv.turnedNew (ch := [e, it]) (fun c ob hc q => (same.2 c (two hc).1).trans (kept c ob (two hc).1 (two hc).2 q)) free (Nat.le_refl _)
        (show ObjOk X.prog X.w _ h2 s.heap.objs.size (.tup [.int (i : Nat), x]) from ⟨by show 2 ≤ sizeLine; decide, [.int i tk, u'], .cons ⟨tk, rfl⟩ (.cons ru .nil), _, top.trans nT, rfl, _, rfl⟩)
    refine ⟨.ref s.heap.objs.size, _, Iw, rfl, ⟨_, x, rfl, Iv.hok.fresh (Nat.le_refl _), rfl, fun l hl => (seqX_inj Iv hl sx).symm ▸ gx⟩, ⟨⟨u', by rw [Int.natCast_add]; exact m0⟩, n1.1.at fun o q => (same.2 it (Ne.symm hne)).trans q⟩, fun c hc => ?_⟩
    rw [upd_ne (Nat.ne_of_lt (below c hc))]
    exact (free c hc).1
  done := by
    rintro X rfl rfl rfl calm i pins s σ H E Iv free ⟨⟨old, at0⟩, at1⟩ ⟨xs, sx, fin⟩
    obtain ⟨us, rx, px⟩ := seqX Iv sx
    have last : IsIt b s.heap it a us.toArray.size := by
      rw [vals_size rx, ← fin]
      exact at1
    have fr := free it (List.mem_cons_of_mem _ (List.mem_cons_self ..))
    exact wpAny_pyNext_enum_endD (drawsX (A := X.A.in1) (Iv.ok.hd calm) b it a hia us.toArray) at0 ⟨last, px⟩ fun h1 kept => ⟨rfl, Iv.turned (t' := s.toks) (fun c ob hc q => kept c ob hc q) fr.1 fr.2.1 fr.2.2.2.1 fr.2.2.2.2.1 fr.2.2.2.2.2⟩
  self := fun A i s Q E st h => let ⟨⟨_, he⟩, _⟩ := st; wpAny_pyIter_enum he h
def iEnumX (K : PySem.W.Frag) (ta : TA) : TI := fun σ H R => ta σ H fun vs H1 => ∃ a b xs, vs = [.ref a] ∧ SqX K b H1 a xs ∧ R (IteX K b a) H1
theorem pi_enumX {X : Cx} {e : Expr} {ta : TA} {p pos tpos : Pos} {elts : List Expr} {kk : Nat} (hg : Gl X "enumerate") (hm : X.mg "enumerate" = none) (ha : PA X [e] ta) (hs : starEach [e] X.env = [(false, eval e X.env)] := by rfl) :
    PI X (.Tuple elts kk tpos) (.Call (.Name "enumerate" p) [e] [] pos) (iEnumX X.K ta) := by
  constructor
  intro pins s σ H R Iv red
  refine Call_ (ld_blt Iv hg hm boot_enumerate (PyProof.Rows.callWith_type1 (thn (ha.run pos pins s σ H _ Iv red) ?_) hs rfl))
  rintro us t ⟨vs, G, Iw, rel, a, b, xs, rfl, sx, go⟩
  obtain ⟨u, rfl, ⟨⟩⟩ := vals1 rel
  obtain ⟨is, rx, px⟩ := seqX Iw sx
  have la := seqX_lt px
  have ok : ∀ c, t.heap.objs.size ≤ c → FpOk X pins G c := fun c le => Iw.fpOk le (Iw.hok.fresh le)
  refine enum_begins1 (beginsX b a is.toArray) px fun g n0 n1 _ old => wpAny_pyIter_enum n0 ?_
  exact ⟨_, _, _, _, G, rfl, Iw.kept (t' := t.toks) old, turn_enumX (Nat.succ_ne_self _) (Nat.ne_of_gt (Nat.lt_succ_of_lt la)) (Nat.ne_of_lt la), ⟨⟨.none, n0⟩, itObj_is n1⟩, all2 (ok _ (by omega)) (ok _ (by omega)), go⟩

/-! ### a list or a tuple itself -/
def ItX (K : PySem.W.Frag) (b : Bool) (a : Addr) : It := match b with
  | true => Itt K a
  | false => Itl K a
def iSeq (K : PySem.W.Frag) (te : TE) : TI := fun σ H R => te σ H fun x H1 => ∃ a b xs, x = .ref a ∧ SqX K b H1 a xs ∧ R (ItX K b a) H1
theorem pi_seq {X : Cx} {tg l : Expr} {tl : TE} (hl : PE X l tl) : PI X tg l (iSeq X.K tl) := by
  constructor
  intro pins s σ H R Iv red
  refine thn (hl.run pins s σ H _ Iv red) ?_
  rintro u t ⟨x, G, Iw, rel, a, b, xs, rfl, sx, go⟩
  cases rel
  have free : ∀ c, c ∈ [t.heap.objs.size] → FpOk X pins G c := fun c hc => by
    cases List.mem_singleton.mp hc
    exact Iw.fpOk (Nat.le_refl _) (Iw.hok.fresh (Nat.le_refl _))
  have stay : ∀ ob : Obj, Inv X pins σ G { t with heap := t.heap.push ob } := fun ob => Iw.kept (t' := t.toks) fun _ _ => Heap.get?_push_of_some ob
  cases b with
  | false =>
    obtain ⟨us, _, pl, _⟩ := Iw.list sx
    exact wpAny_pyIter_list pl.isList ⟨_, _, _, _, G, rfl, stay _, turn_list a _, ⟨_, Heap.get?_push_size _ rfl, rfl, rfl⟩, free, go⟩
  | true =>
    obtain ⟨us, _, pl, _⟩ := Iw.tuple sx
    exact wpAny_pyIter_tuple (show t.heap.IsTuple a us.toArray from pl) ⟨_, _, _, _, G, rfl, stay _, turn_tuple a _, ⟨_, Heap.get?_push_size _ rfl, rfl, rfl⟩, free, go⟩
end Z3

set_option maxRecDepth 100000
set_option maxHeartbeats 4000000
/-! Zg: loops and comprehensions at the data's level. -/
namespace Z3
open PySem PySem.Spec PyProof.Rows L2
open Evl (Ex ex_rd ex_l ex_t)

/-- J walks the data ds, by what is frozen in F, in heaps that G holds of -/
structure ItD (K : PySem.W.Frag) (J : It) (ds : List D) (F : Hp) (G : Hp → Prop) : Prop where
  go : ∀ (F' H : Hp) (i : Nat), Ex F F' → Ex F' H → G H → i < ds.length → J.go i H
  stop : ∀ (F' H : Hp), Ex F F' → Ex F' H → G H → J.stop ds.length H
  yld : ∀ (F' H : Hp) (i : Nat) (x : V) (H' : Hp), Ex F F' → Ex F' H → G H → i < ds.length → J.yld i H x H' → ∃ F'' d, ds[i]? = some d ∧ Grow F' H F'' H' ∧ Den K F'' d x
def RdG (K : PySem.W.Frag) (F : Hp) (G : Hp → Prop) (d : D) (v : V) : Prop := ∀ F' H, Ex F F' → Ex F' H → G H → RdD K F' H d v
def seqD : D → Option (List D)
  | .list ds => some ds
  | .tuple ds => some ds
  | _ => none
def isT : D → Bool
  | .tuple _ => true
  | _ => false
def rangeD (lo : Int) (n : Nat) : List D := (List.range n).map fun (i : Nat) => .int (lo + i)
def enumD (ds : List D) : List D := ds.mapIdx fun (i : Nat) d => .tuple [.int (i : Int), d]
def zipD (ds es : List D) : List D := List.zipWith (fun d e => .tuple [d, e]) ds es
section
variable {K : PySem.W.Frag} {F F' H : Hp} {G : Hp → Prop} {d e : D} {ds es : List D} {v : V} {a b : Addr}
theorem RdD.seq (x : Ex F H) (h : RdD K F H d v) (s : seqD d = some ds) : ∃ a vs, v = .ref a ∧ SqX K (isT d) H a vs ∧ Dens K F ds vs := by
  rcases h with h | ⟨a, e, h⟩
  · cases h with
    | list q r =>
      cases s
      exact ⟨_, _, rfl, ex_l x q, r⟩
    | tuple q r =>
      cases s
      exact ⟨_, _, rfl, ex_t x q, r⟩
    | _ => cases s
  · cases d with
    | list es =>
      cases s
      obtain ⟨vs, q, r⟩ := h
      exact ⟨a, vs, e, .inl q, r⟩
    | dict _ => cases s
    | none => cases s
    | bool _ => cases s
    | int _ => cases s
    | str _ => cases s
    | tuple _ => exact h.elim
theorem RdG.at (h : RdG K F G d (.ref a)) (s : seqD d = some ds) (x : Ex F F') (y : Ex F' H) (g : G H) : ∃ vs, SqX K (isT d) H a vs ∧ Dens K F' ds vs := by
  obtain ⟨b, vs, e, q, r⟩ := (h F' H x y g).seq y s
  cases e
  exact ⟨vs, q, r⟩
theorem itd_seq (h : RdG K F G d (.ref a)) (s : seqD d = some ds) : ItD K (ItX K (isT d) a) ds F G where
  go := fun F' H i x y g hi => by
    obtain ⟨vs, q, r⟩ := h.at s x y g
    have e := r.length
    have hv : vs[i]? = some (vs[i]'(by omega)) := List.getElem?_eq_getElem (by omega)
    cases hb : isT d with
    | true =>
      rw [hb] at q
      exact ⟨vs, _, q, hv⟩
    | false =>
      rw [hb] at q
      exact ⟨vs, _, q, hv⟩
  stop := fun F' H x y g => by
    obtain ⟨vs, q, r⟩ := h.at s x y g
    have e := r.length
    cases hb : isT d with
    | true =>
      rw [hb] at q
      exact ⟨vs, q, by omega⟩
    | false =>
      rw [hb] at q
      exact ⟨vs, q, by omega⟩
  yld := fun F' H i x H' ex y g hi k => by
    obtain ⟨vs, q, r⟩ := h.at s ex y g
    have hd : ds[i]? = some (ds[i]'hi) := List.getElem?_eq_getElem hi
    obtain ⟨w, hw, dn⟩ := r.get hd
    cases hb : isT d with
    | true =>
      rw [hb] at q k
      obtain ⟨e, k⟩ := k
      subst e
      have := k vs q
      rw [hw] at this
      cases this
      exact ⟨F', _, hd, Grow.refl y, dn⟩
    | false =>
      rw [hb] at q k
      obtain ⟨e, k⟩ := k
      subst e
      have := k vs q
      rw [hw] at this
      cases this
      exact ⟨F', _, hd, Grow.refl y, dn⟩
theorem zipD_len : (zipD ds es).length = min ds.length es.length := by unfold zipD; rw [List.length_zipWith]
theorem itd_zip (h : RdG K F G d (.ref a)) (h2 : RdG K F G e (.ref b)) (s : seqD d = some ds) (s2 : seqD e = some es) : ItD K (ItzX K (isT d) (isT e) a b) (zipD ds es) F G where
  go := fun F' H i x y g hi => by
    obtain ⟨vs, q, r⟩ := h.at s x y g
    obtain ⟨ws, q2, r2⟩ := h2.at s2 x y g
    have e1 := r.length
    have e2 := r2.length
    rw [zipD_len] at hi
    exact ⟨vs, ws, _, _, q, q2, List.getElem?_eq_getElem (by omega), List.getElem?_eq_getElem (by omega)⟩
  stop := fun F' H x y g => by
    obtain ⟨vs, q, r⟩ := h.at s x y g
    obtain ⟨ws, q2, r2⟩ := h2.at s2 x y g
    have e1 := r.length
    have e2 := r2.length
    rw [zipD_len]
    exact ⟨vs, ws, q, q2, by omega, by omega, by omega⟩
  yld := fun F' H i x H' ex y g hi k => by
    obtain ⟨vs, q, r⟩ := h.at s ex y g
    obtain ⟨ws, q2, r2⟩ := h2.at s2 ex y g
    rw [zipD_len] at hi
    have hd : ds[i]? = some (ds[i]'(by omega)) := List.getElem?_eq_getElem (by omega)
    have he : es[i]? = some (es[i]'(by omega)) := List.getElem?_eq_getElem (by omega)
    obtain ⟨w, hw, dn⟩ := r.get hd
    obtain ⟨w2, hw2, dn2⟩ := r2.get he
    obtain ⟨T, x1, x2, rfl, nT, rfl, f1, f2⟩ := k
    have g1 := f1 vs q
    rw [hw] at g1
    cases g1
    have g2 := f2 ws q2
    rw [hw2] at g2
    cases g2
    have eF : Ex F' (upd F' T (.tup [w, w2])) := Ex.new (y.none nT)
    refine ⟨upd F' T (.tup [w, w2]), .tuple [ds[i]'(by omega), es[i]'(by omega)], ?_, Grow.new y nT, .tuple (.inl (.inl upd_same)) (.cons (dn.mono eF) (.cons (dn2.mono eF) .nil))⟩
    unfold zipD
    rw [List.getElem?_zipWith, hd, he]
theorem itd_enum (h : RdG K F G d (.ref a)) (s : seqD d = some ds) : ItD K (IteX K (isT d) a) (enumD ds) F G where
  go := fun F' H i x y g hi => by
    obtain ⟨vs, q, r⟩ := h.at s x y g
    have e1 := r.length
    unfold enumD at hi
    rw [List.length_mapIdx] at hi
    exact ⟨vs, _, q, List.getElem?_eq_getElem (by omega)⟩
  stop := fun F' H x y g => by
    obtain ⟨vs, q, r⟩ := h.at s x y g
    have e1 := r.length
    refine ⟨vs, q, ?_⟩
    unfold enumD
    rw [List.length_mapIdx]
    omega
  yld := fun F' H i x H' ex y g hi k => by
    obtain ⟨vs, q, r⟩ := h.at s ex y g
    unfold enumD at hi
    rw [List.length_mapIdx] at hi
    have hd : ds[i]? = some (ds[i]'(by omega)) := List.getElem?_eq_getElem (by omega)
    obtain ⟨w, hw, dn⟩ := r.get hd
    obtain ⟨T, x1, rfl, nT, rfl, f1⟩ := k
    have g1 := f1 vs q
    rw [hw] at g1
    cases g1
    have eF : Ex F' (upd F' T (.tup [.int (i : Nat), w])) := Ex.new (y.none nT)
    refine ⟨upd F' T (.tup [.int (i : Nat), w]), .tuple [.int (i : Int), ds[i]'(by omega)], ?_, Grow.new y nT, .tuple (.inl (.inl upd_same)) (.cons (.int _) (.cons (dn.mono eF) .nil))⟩
    unfold enumD
    rw [List.getElem?_mapIdx, hd]
    rfl
theorem itd_range {lo : Int} {n : Nat} : ItD K (Itr lo n) (rangeD lo n) F G where
  go := fun F' H i x y g hi => by
    unfold rangeD at hi
    rw [List.length_map, List.length_range] at hi
    exact hi
  stop := fun F' H x y g => by
    unfold rangeD
    rw [List.length_map, List.length_range]
    exact Nat.le_refl n
  yld := fun F' H i x H' ex y g hi k => by
    unfold rangeD at hi
    rw [List.length_map, List.length_range] at hi
    obtain ⟨rfl, rfl⟩ := k
    refine ⟨F', .int (lo + i), ?_, Grow.refl y, .int _⟩
    unfold rangeD
    rw [List.getElem?_map, List.getElem?_range hi]
    rfl
end

/-! ### what is walked, as data -/
abbrev EI := SS → (List D → List Nat → Prop) → Prop
def Val.js : Val → List Nat
  | .o j _ => [j]
  | _ => []
/-- G keeps what the slots js (and those that are read alone) hold -/
structure Keeps (K : PySem.W.Frag) (F : Hp) (G : Hp → Prop) (σ : L2.St) (ss : SS) (js : List Nat) : Prop where
  r : ∀ (j : Nat) (d : D) (v : V), σ[j]? = some (some v) → ss[j]? = some (.r d) → RdG K F G d v
  own : ∀ (j : Nat) (d : D) (v : V), j ∈ js → σ[j]? = some (some v) → ss[j]? = some (.own d) → RdG K F G d v
def rI (K : PySem.W.Frag) (I : EI) : TI := fun σ H R => ∃ (F0 H0 F : Hp) (ss : SS) (Q0 : List D → List Nat → Prop), Sat K F0 H0 F H σ ss ∧ I ss Q0 ∧
  ∀ ds js F' H' J, Q0 ds js → GrowX (HX σ ss) F H F' H' → Sat K F0 H0 F' H' σ ss → (∀ F'' G, Ex F' F'' → Keeps K F'' G σ ss js → ItD K J ds F'' G) → R J H'
structure DI (X : Cx) (tg e : Expr) (I : EI) : Prop where
  pi : PI X tg e (rI X.K I)
/-- a source of a walk: frozen, or the thing of a slot -/
def Src (K : PySem.W.Frag) (F : Hp) (σ : L2.St) (ss : SS) (js : List Nat) (d : D) (v : V) : Prop := Den K F d v ∨ ∃ j, j ∈ js ∧ σ[j]? = some (some v) ∧ (ss[j]? = some (.own d) ∨ ss[j]? = some (.r d))
section
variable {X : Cx} {K : PySem.W.Frag} {F F' F0 F1 F2 H H' H0 H1 H2 : Hp} {G : Hp → Prop} {σ : L2.St} {ss : SS} {js : List Nat} {d : D} {v : V} {tg e e2 : Expr} {A B : E}
theorem pi_wk {t t' : TI} (h : PI X tg e t) (w : ∀ σ H R, t' σ H R → t σ H R) : PI X tg e t' := ⟨fun pins s σ H R I q => h.run pins s σ H R I (w σ H R q)⟩
theorem Src.rdg (s : Src K F σ ss js d v) (k : Keeps K F G σ ss js) : RdG K F G d v := by
  rcases s with s | ⟨j, hj, e, s | s⟩
  · exact fun F' H x y g => .inl (s.mono x)
  · exact k.own j d v hj e s
  · exact k.r j d v e s
theorem Src.mono (x : Ex F F') (s : Src K F σ ss js d v) : Src K F' σ ss js d v := by
  rcases s with s | s
  · exact .inl (s.mono x)
  · exact .inr s
theorem Src.more {ks : List Nat} (s : Src K F σ ss js d v) (m : ∀ j, j ∈ js → j ∈ ks) : Src K F σ ss ks d v := by
  rcases s with s | ⟨j, hj, s⟩
  · exact .inl s
  · exact .inr ⟨j, m j hj, s⟩
theorem Src.rd (S : Sat K F0 H0 F H σ ss) (s : Src K F σ ss js d v) : RdD K F H d v := by
  rcases s with s | ⟨j, _, e, s⟩
  · exact .inl s
  · exact Stb.rd S (.inr ⟨j, e, s⟩)
theorem rE_bindJ {A : E} {T : VK} {C : D → List Nat → Prop} (S : Sat K F0 H0 F H σ ss) (h : A ss fun x => C x.get x.js)
    (k : ∀ d js v F' H', C d js → GrowX (HX σ ss) F H F' H' → Sat K F0 H0 F' H' σ ss → Src K F' σ ss js d v → T v H') : rE K A σ H T :=
  ⟨F0, H0, F, ss, _, S, h, fun val v F1 H1 c g S1 vd => by
    cases val with
    | p d => exact k _ _ v F1 H1 c g S1 (.inl vd)
    | o j d => exact k _ _ v F1 H1 c g S1 (.inr ⟨j, List.mem_cons_self, vd.1, vd.2⟩)
    | f d =>
      obtain ⟨F2, g2, _, S2, dn⟩ := settleF S g S1 vd trivial
      exact k _ _ v F2 H1 c g2 S2 (.inl dn)⟩
def iSq (A : E) : EI := fun ss Q => A ss fun x => ∃ ds, seqD x.get = some ds ∧ Q ds x.js
def iEn (A : E) : EI := fun ss Q => A ss fun x => ∃ ds, seqD x.get = some ds ∧ Q (enumD ds) x.js
def iZp (A B : E) : EI := fun ss Q => A ss fun x => B ss fun y => ∃ ds es, seqD x.get = some ds ∧ seqD y.get = some es ∧ Q (zipD ds es) (x.js ++ y.js)
def iR1 (A : E) : EI := fun ss Q => A ss fun x => ∃ n, x.get = .int n ∧ -(2 ^ 62) ≤ n ∧ n < 2 ^ 62 ∧ Q (rangeD 0 n.toNat) []
def iR2 (A B : E) : EI := fun ss Q => A ss fun x => B ss fun y => ∃ a n, x.get = .int a ∧ y.get = .int n ∧ -(2 ^ 62) ≤ a ∧ a < 2 ^ 62 ∧ -(2 ^ 62) ≤ n ∧ n < 2 ^ 62 ∧ Q (rangeD a (n - a).toNat) []
theorem di_seq (h : DE X e A) : DI X tg e (iSq A) := by
  refine ⟨pi_wk (pi_seq h.pe) fun σ H R ⟨F0, H0, F, ss, Q0, S, h, q⟩ => ?_⟩
  refine rE_bindJ (C := fun d js => ∃ ds, seqD d = some ds ∧ Q0 ds js) S h fun d js v F1 H1 c g S1 sr => ?_
  obtain ⟨ds, s, c⟩ := c
  obtain ⟨a, vs, rfl, hq, r⟩ := (sr.rd S1).seq S1.ef s
  exact ⟨a, isT d, vs, rfl, hq, q ds js F1 H1 _ c g S1 fun F2 G x k => itd_seq ((sr.mono x).rdg k) s⟩
theorem di_enum {p pos tpos : Pos} {elts : List Expr} {kk : Nat} (hg : Gl X "enumerate") (hm : X.mg "enumerate" = none) (h : DE X e A) (hs : starEach [e] X.env = [(false, eval e X.env)] := by rfl) (hs2 : starEach [e] X.env = (false, eval e X.env) :: starEach [] X.env := by rfl) :
    DI X (.Tuple elts kk tpos) (.Call (.Name "enumerate" p) [e] [] pos) (iEn A) := by
  refine ⟨pi_wk (pi_enumX hg hm (pa_cons h.pe pa_nil hs2) hs) fun σ H R ⟨F0, H0, F, ss, Q0, S, h, q⟩ => ?_⟩
  refine rE_bindJ (C := fun d js => ∃ ds, seqD d = some ds ∧ Q0 (enumD ds) js) S h fun d js v F1 H1 c g S1 sr => ?_
  obtain ⟨ds, s, c⟩ := c
  obtain ⟨a, vs, rfl, hq, r⟩ := (sr.rd S1).seq S1.ef s
  exact ⟨a, isT d, vs, rfl, hq, q _ js F1 H1 _ c g S1 fun F2 G x k => itd_enum ((sr.mono x).rdg k) s⟩
theorem Keeps.left {ks : List Nat} (k : Keeps K F G σ ss (js ++ ks)) : Keeps K F G σ ss js := ⟨k.r, fun j d v hj => k.own j d v (List.mem_append_left _ hj)⟩
theorem Keeps.right {ks : List Nat} (k : Keeps K F G σ ss (js ++ ks)) : Keeps K F G σ ss ks := ⟨k.r, fun j d v hj => k.own j d v (List.mem_append_right _ hj)⟩
theorem di_zip {p pos tpos : Pos} {elts : List Expr} {kk : Nat} (hg : Gl X "zip") (hm : X.mg "zip" = none) (ha : DE X e A) (hb : DE X e2 B) (hs : starEach [e, e2] X.env = (false, eval e X.env) :: starEach [e2] X.env := by rfl)
    (hs2 : starEach [e2] X.env = (false, eval e2 X.env) :: starEach [] X.env := by rfl) (hpl : (backTo pos (starEach [e2] X.env)).any (·.1) = false := by rfl) : DI X (.Tuple elts kk tpos) (.Call (.Name "zip" p) [e, e2] [] pos) (iZp A B) := by
  refine ⟨pi_wk (pi_zipX hg hm (pa_cons ha.pe (pa_cons hb.pe pa_nil hs2) hs) hs hpl) fun σ H R ⟨F0, H0, F, ss, Q0, S, h, q⟩ => ?_⟩
  refine rE_bindJ (C := fun d js => B ss fun y => ∃ ds es, seqD d = some ds ∧ seqD y.get = some es ∧ Q0 (zipD ds es) (js ++ y.js)) S h fun d js v F1 H1 c g S1 sr => ?_
  refine rE_bindJ (C := fun e ks => ∃ ds es, seqD d = some ds ∧ seqD e = some es ∧ Q0 (zipD ds es) (js ++ ks)) S1 c fun e ks w F2 H2 c2 g2 S2 sr2 => ?_
  obtain ⟨ds, es, s1, s2, c2⟩ := c2
  have sr' := sr.mono g2.f
  obtain ⟨a, vs, rfl, hq, r⟩ := (sr'.rd S2).seq S2.ef s1
  obtain ⟨b, ws, rfl, hq2, r2⟩ := (sr2.rd S2).seq S2.ef s2
  exact ⟨a, b, isT d, isT e, vs, ws, rfl, hq, hq2, q _ _ F2 H2 _ c2 (g.andThen S1 g2) S2 fun F3 G x k => itd_zip ((sr'.mono x).rdg k.left) ((sr2.mono x).rdg k.right) s1 s2⟩
theorem di_range1 {p pos : Pos} (hg : Gl X "range") (hm : X.mg "range" = none) (h : DE X e A) (hs : starEach [e] X.env = [(false, eval e X.env)] := by rfl) (hs2 : starEach [e] X.env = (false, eval e X.env) :: starEach [] X.env := by rfl) :
    DI X tg (.Call (.Name "range" p) [e] [] pos) (iR1 A) := by
  refine ⟨pi_wk (pi_range1 hg hm (pa_cons h.pe pa_nil hs2) hs) fun σ H R ⟨F0, H0, F, ss, Q0, S, h, q⟩ => ?_⟩
  refine rE_bind (C := fun d => ∃ n, d = .int n ∧ -(2 ^ 62) ≤ n ∧ n < 2 ^ 62 ∧ Q0 (rangeD 0 n.toNat) []) S h fun d v F1 H1 c g S1 sr => ?_
  obtain ⟨n, rfl, h1, h2, c⟩ := c
  have e := sr.int S1
  exact ⟨n, by rw [e], by omega, by omega, q _ _ F1 H1 _ c g S1 fun F2 G x k => itd_range⟩
theorem di_range2 {p pos : Pos} (hg : Gl X "range") (hm : X.mg "range" = none) (ha : DE X e A) (hb : DE X e2 B) (hs : starEach [e, e2] X.env = [(false, eval e X.env), (false, eval e2 X.env)] := by rfl) (hs2 : starEach [e2] X.env = [(false, eval e2 X.env)] := by rfl)
    (hs3 : starEach [e, e2] X.env = (false, eval e X.env) :: starEach [e2] X.env := by rfl) (hs4 : starEach [e2] X.env = (false, eval e2 X.env) :: starEach [] X.env := by rfl) : DI X tg (.Call (.Name "range" p) [e, e2] [] pos) (iR2 A B) := by
  refine ⟨pi_wk (pi_range2 hg hm (pa_cons ha.pe (pa_cons hb.pe pa_nil hs4) hs3) hs hs2) fun σ H R ⟨F0, H0, F, ss, Q0, S, h, q⟩ => ?_⟩
  refine rE_bind (C := fun d => B ss fun y => ∃ a n, d = .int a ∧ y.get = .int n ∧ -(2 ^ 62) ≤ a ∧ a < 2 ^ 62 ∧ -(2 ^ 62) ≤ n ∧ n < 2 ^ 62 ∧ Q0 (rangeD a (n - a).toNat) []) S h fun d v F1 H1 c g S1 sr => ?_
  refine rE_bind (C := fun e => ∃ a n, d = .int a ∧ e = .int n ∧ -(2 ^ 62) ≤ a ∧ a < 2 ^ 62 ∧ -(2 ^ 62) ≤ n ∧ n < 2 ^ 62 ∧ Q0 (rangeD a (n - a).toNat) []) S1 c fun d2 v2 F2 H2 c2 g2 S2 sr2 => ?_
  obtain ⟨a, n, rfl, rfl, h1, h2, h3, h4, c2⟩ := c2
  have e := (sr.mono g2.f).int S2
  have e2 := sr2.int S2
  exact ⟨a, n, by rw [e, e2], ⟨by omega, by omega, by omega, by omega⟩, q _ _ F2 H2 _ c2 (g.andThen S1 g2) S2 fun F3 G x k => itd_range⟩
end

/-! ### for -/
def frz : List Nat → SS → SS
  | [], ss => ss
  | j :: js, ss => frz js (match ss[j]? with
    | some (.own d) => ss.set j (.p d)
    | _ => ss)
def forK (G : GT) (B : SE) (M : SEnds) : List D → SS → Prop
  | [], ss => M.nx ss
  | d :: ds, ss => G d ss fun s => B { M with nx := forK G B M ds, ct := forK G B M ds, bk := M.nx } s
def sFor (I : EI) (G : GT) (B : SE) : SE := fun M ss => I ss fun ds js => forK G B M ds (frz js ss)
section
variable {X : Cx} {K : PySem.W.Frag} {F F' F0 F1 F2 H H' H0 H1 H2 : Hp} {σ : L2.St} {ss : SS} {M : SEnds} {De : Ends} {tg iter : Expr} {ts : List Nat} {G : GT} {I : EI} {B : SE} {pos : Pos}
theorem Sat.frzs : ∀ (js : List Nat) (F : Hp) (ss : SS), Sat K F0 H0 F H σ ss → ∃ F', Ex F F' ∧ Sat K F0 H0 F' H σ (frz js ss) ∧ (∀ j d v, j ∈ js → ss[j]? = some (.own d) → σ[j]? = some (some v) → Den K F' d v) ∧ ∀ (j : Nat) (d : D), ss[j]? = some (SV.r d) → (frz js ss)[j]? = some (SV.r d)
  | [], F, ss, S => ⟨F, Ex.refl F, S, fun j d v h => (List.not_mem_nil h).elim, fun _ _ h => h⟩
  | j :: js, F, ss, S => by
    by_cases q : ∃ d, ss[j]? = some (.own d)
    · obtain ⟨d, q⟩ := q
      obtain ⟨a, e1, _⟩ := S.own q
      obtain ⟨F1, x1, S1, dn⟩ := S.freeze q e1
      obtain ⟨F2, x2, S2, h1, h2⟩ := Sat.frzs js F1 _ S1
      have e : frz (j :: js) ss = frz js (ss.set j (.p d)) := by
        show frz js (match ss[j]? with
          | some (.own d) => ss.set j (.p d)
          | _ => ss) = _
        rw [q]
      rw [e]
      refine ⟨F2, x1.trans x2, S2, fun i d' v hi hs hv => ?_, fun i d' hs => h2 i d' ?_⟩
      · by_cases hij : j = i
        · subst hij
          rw [q] at hs
          cases hs
          rw [e1] at hv
          cases hv
          exact dn.mono x2
        · rcases List.mem_cons.mp hi with z | z
          · exact absurd z.symm hij
          · exact h1 i d' v z (by rw [List.getElem?_set_ne hij]; exact hs) hv
      · rw [List.getElem?_set_ne (fun z => by subst z; rw [q] at hs; cases hs)]
        exact hs
    · have e : frz (j :: js) ss = frz js ss := by
        show frz js (match ss[j]? with
          | some (.own d) => ss.set j (.p d)
          | _ => ss) = _
        split
        · rename_i d z
          exact absurd ⟨d, z⟩ q
        · rfl
      rw [e]
      obtain ⟨F2, x2, S2, h1, h2⟩ := Sat.frzs js F ss S
      refine ⟨F2, x2, S2, fun i d' v hi hs hv => ?_, h2⟩
      rcases List.mem_cons.mp hi with z | z
      · subst z
        exact absurd ⟨d', hs⟩ q
      · exact h1 i d' v z hs hv
theorem ds_for {body : List Stmt} (hp : PassesOwn (model X.prog X.w) X.A X.env X.xe) (hc : X.calm = true) (hi : DI X tg iter I) (hg : DG X tg ts G) (hb : DSs X body B)
    (hs : ∀ x, foldedSetIterable iter X.env x = pure x := by intro _; rfl) : DS X (.For tg iter body [] pos) (sFor I G B) := by
  refine ⟨ps_wk (ps_for hp hc hi.pi hg.pg hb.ps hs) fun De σ H ⟨F0, H0, F, ss, M, S, h, L⟩ => ?_⟩
  refine ⟨F0, H0, F, ss, _, S, h, fun ds js F1 H1 J c g S1 it => ?_⟩
  obtain ⟨F2, x2, S2, own, rr⟩ := Sat.frzs js F1 ss S1
  have itd : ItD X.K J ds F2 (Ex H0) := it F2 (Ex H0) x2 ⟨fun j d v e1 e2 => by
      obtain ⟨w, e3, rd⟩ := S1.ok j _ e2
      rw [e1] at e3
      cases e3
      exact fun F' H x y g => rd.mono (x2.trans x) g, fun j d v hj e1 e2 F' H x y g => .inl ((own j d v hj e2 e1).mono x)⟩
  have x02 : Ex F F2 := g.f.trans x2
  refine ⟨fun i m σ H => m = ds.length - i ∧ i ≤ ds.length ∧ ∃ F' ss', Ex F2 F' ∧ Sat X.K F0 H0 F' H σ ss' ∧ forK G B M (ds.drop i) ss', ⟨ds.length, by simp, Nat.zero_le _, F2, _, Ex.refl _, S2, by rw [List.drop_zero]; exact c⟩, ?_⟩
  rintro i m σ3 H3 ⟨rfl, hi, F3, s3, x3, S3, f3⟩
  by_cases hlt : i < ds.length
  · refine .inr ⟨itd.go F3 H3 i x3 S3.ef S3.eh hlt, fun σ' H' => ∃ F' ss', Ex F2 F' ∧ Sat X.K F0 H0 F' H' σ' ss' ∧ forK G B M (ds.drop (i + 1)) ss', fun σ' H' p => ⟨ds.length - (i + 1), by omega, rfl, hlt, p⟩, fun x H4 y => ?_⟩
    obtain ⟨F4, d, hd, g4, dn⟩ := itd.yld F3 H3 i x H4 x3 S3.ef S3.eh hlt y
    have e : ds.drop i = d :: ds.drop (i + 1) := by
      rw [List.drop_eq_getElem_cons hlt]
      rw [List.getElem?_eq_getElem hlt] at hd
      cases hd
      rfl
    rw [e] at f3
    have S4 := S3.grow g4
    refine ⟨F0, H0, F4, s3, d, _, S4, dn, f3, fun s5 σ5 q _ _ S5 => ?_⟩
    have x4 : Ex F2 F4 := x3.trans g4.f
    exact ⟨F0, H0, F4, s5, _, S5, q, ⟨fun s6 σ6 F6 H6 p x S6 => ⟨F6, s6, x4.trans x, S6, p⟩, fun s6 σ6 F6 H6 p x S6 => L.nx s6 σ6 F6 H6 p ((x02.trans x4).trans x) S6,
      fun s6 σ6 F6 H6 p x S6 => ⟨F6, s6, x4.trans x, S6, p⟩, fun d s6 v σ6 F6 H6 p x => L.rt d s6 v σ6 F6 H6 p ((x02.trans x4).trans x)⟩⟩
  · have e : i = ds.length := by omega
    subst e
    rw [List.drop_length] at f3
    exact .inl ⟨itd.stop F3 H3 x3 S3.ef S3.eh, L.nx s3 σ3 F3 H3 f3 (x02.trans x3) S3⟩
end

/-! ### comprehensions -/
def wipeS (ss : SS) : List Nat → SS
  | [] => ss
  | v :: vs => (wipeS ss vs).set v .any
def lcK (G : GT) (T : ET) (A : E) (s0 : SS) : List D → List D → (List D → Prop) → Prop
  | [], acc, Q => Q acc
  | d :: ds, acc, Q => G d s0 fun s => T s fun b => if b = true then A s fun x => x.fz ∧ acc.length < sizeLine ∧ lcK G T A s0 ds (acc ++ [x.get]) Q else lcK G T A s0 ds acc Q
def tYs : ET := fun _ Q => Q true
def eLc (vs : List Nat) (I : EI) (G : GT) (T : ET) (A : E) : E := fun ss Q => (∀ i ∈ vs, ∀ b, ss[i]? ≠ some (.hand b)) ∧ I ss fun ds _ => lcK G T A (wipeS ss vs) ds [] fun out => Q (.f (.list out))
structure DTs (X : Cx) (ifs : List Expr) (T : ET) : Prop where
  pt : PTs X ifs (rT X.K T)
section
variable {X : Cx} {K : PySem.W.Frag} {F F' F0 F1 F2 H H' H0 H1 H2 : Hp} {σ : L2.St} {ss : SS} {tg iter elt c : Expr} {ts vs : List Nat} {G : GT} {I : EI} {T : ET} {A : E} {pos : Pos}
theorem dts_nil : DTs X [] tYs := ⟨⟨fun pins s σ H Q Iv ⟨F0, H0, F, ss, Q0, S, h, q⟩ => wpAny_tests_nil ⟨H, Iv, q true F H h (Grow.refl S.ef).any S⟩⟩⟩
theorem dts_one (h : DT X c T) : DTs X [c] T := ⟨pts_one h.pt⟩
theorem wipeS_len (ss : SS) : ∀ vs : List Nat, (wipeS ss vs).length = ss.length
  | [] => rfl
  | v :: vs => by unfold wipeS; rw [List.length_set, wipeS_len ss vs]
theorem wipeS_out {i : Nat} : ∀ {vs : List Nat}, i ∉ vs → (wipeS ss vs)[i]? = ss[i]?
  | [], _ => rfl
  | v :: vs, h => by
    rw [List.mem_cons, not_or] at h
    unfold wipeS
    rw [List.getElem?_set_ne (Ne.symm h.1), wipeS_out h.2]
theorem wipeS_in {i : Nat} {sv : SV} : ∀ {vs : List Nat}, i ∈ vs → (wipeS ss vs)[i]? = some sv → sv = .any
  | v :: vs, h, e => by
    unfold wipeS at e
    by_cases hv : v = i
    · subst hv
      by_cases hl : v < (wipeS ss vs).length
      · rw [List.getElem?_set_self hl] at e
        cases e
        rfl
      · rw [List.getElem?_eq_none (by rw [List.length_set]; omega)] at e
        cases e
    · rw [List.getElem?_set_ne hv] at e
      rcases List.mem_cons.mp h with z | z
      · exact absurd z.symm hv
      · exact wipeS_in z e
theorem wipe_in {i : Nat} {o : Option V} : ∀ {vs : List Nat}, i ∈ vs → (wipe σ vs)[i]? = some o → o = none
  | v :: vs, h, e => by
    unfold wipe at e
    by_cases hv : v = i
    · subst hv
      by_cases hl : v < (wipe σ vs).length
      · rw [List.getElem?_set_self hl] at e
        cases e
        rfl
      · rw [List.getElem?_eq_none (by rw [List.length_set]; omega)] at e
        cases e
    · rw [List.getElem?_set_ne hv] at e
      rcases List.mem_cons.mp h with z | z
      · exact absurd z.symm hv
      · exact wipe_in z e
theorem wipe_set {i : Nat} {x : Option V} : ∀ {vs : List Nat}, i ∈ vs → wipe (σ.set i x) vs = wipe σ vs
  | v :: vs, h => by
    unfold wipe
    by_cases hv : i ∈ vs
    · rw [wipe_set hv]
    · have e : v = i := by
        rcases List.mem_cons.mp h with z | z
        · exact z.symm
        · exact absurd z hv
      subst e
      apply List.ext_getElem?
      intro j
      by_cases hj : v = j
      · subst hj
        by_cases hl : v < σ.length
        · rw [List.getElem?_set_self (by rw [wipe_length, List.length_set]; exact hl), List.getElem?_set_self (by rw [wipe_length]; exact hl)]
        · rw [List.getElem?_eq_none (by rw [List.length_set, wipe_length, List.length_set]; omega), List.getElem?_eq_none (by rw [List.length_set, wipe_length]; omega)]
      · rw [List.getElem?_set_ne hj, List.getElem?_set_ne hj]
        by_cases hjv : j ∈ vs
        · cases q1 : (wipe (σ.set v x) vs)[j]? with
          | none =>
            have l1 := List.getElem?_eq_none_iff.mp q1
            rw [wipe_length, List.length_set] at l1
            rw [List.getElem?_eq_none (by rw [wipe_length]; exact l1)]
          | some o =>
            have o1 := wipe_in hjv q1
            subst o1
            cases q2 : (wipe σ vs)[j]? with
            | none =>
              have l1 := List.getElem?_eq_none_iff.mp q2
              have l2 := (List.getElem?_eq_some_iff.mp q1).1
              rw [wipe_length] at l1
              rw [wipe_length, List.length_set] at l2
              omega
            | some o2 => rw [wipe_in hjv q2]
        · rw [wipe_out hjv, wipe_out hjv, List.getElem?_set_ne hj]
theorem But.wipe {σ2 : L2.St} (b : But ts σ2 σ) (h : ∀ i ∈ ts, i ∈ vs) : wipe σ2 vs = wipe σ vs := by
  apply List.ext_getElem?
  intro j
  by_cases hj : j ∈ vs
  · cases q1 : (L2.wipe σ2 vs)[j]? with
    | none =>
      have l1 := List.getElem?_eq_none_iff.mp q1
      rw [wipe_length, b.1] at l1
      rw [List.getElem?_eq_none (by rw [wipe_length]; exact l1)]
    | some o =>
      have o1 := wipe_in hj q1
      subst o1
      cases q2 : (L2.wipe σ vs)[j]? with
      | none =>
        have l1 := List.getElem?_eq_none_iff.mp q2
        have l2 := (List.getElem?_eq_some_iff.mp q1).1
        rw [wipe_length] at l1 l2
        rw [b.1] at l2
        omega
      | some o2 => rw [wipe_in hj q2]
  · rw [wipe_out hj, wipe_out hj, b.2 j fun z => hj (h j z)]
/-- less known of the slots -/
theorem Sat.less {σ' : L2.St} {ss' : SS} (S : Sat K F0 H0 F H σ ss) (len : ss'.length = σ'.length) (h : ∀ (i : Nat) (sv : SV), ss'[i]? = some sv → sv = .any ∨ (ss[i]? = some sv ∧ σ'[i]? = σ[i]?)) : Sat K F0 H0 F H σ' ss' where
  gr := S.gr
  len := len
  ok := fun i sv q => by
    rcases h i sv q with z | ⟨z, e⟩
    · subst z
      trivial
    · rw [e]
      exact S.ok i sv z
  dist := fun i j sv sw a n q1 q2 x1 x2 e1 e2 => by
    rcases h i sv q1 with z | ⟨z, e⟩
    · subst z
      cases x1
    · rcases h j sw q2 with z' | ⟨z', e'⟩
      · subst z'
        cases x2
      · rw [e] at e1
        rw [e'] at e2
        exact S.dist i j sv sw a n z z' x1 x2 e1 e2
  one := fun i j _ _ q1 q2 => by
    rcases h i _ q1 with z | ⟨z, _⟩
    · cases z
    · rcases h j _ q2 with z' | ⟨z', _⟩
      · cases z'
      · exact S.one i j _ _ z z'
theorem Sat.wipe (S : Sat K F0 H0 F H σ ss) (vs : List Nat) : Sat K F0 H0 F H (L2.wipe σ vs) (wipeS ss vs) :=
  S.less (by rw [wipeS_len, wipe_length, S.len]) fun i sv q => by
    by_cases hi : i ∈ vs
    · exact .inl (wipeS_in hi q)
    · exact .inr ⟨by rw [← q, wipeS_out hi], wipe_out hi⟩
/-- the hand of the slots, where it is -/
def HandsOk (K : PySem.W.Frag) (F H : Hp) (σ : L2.St) (ss : SS) : Prop := ∀ (i : Nat) (a : Addr), ss[i]? = some (.hand a) → σ[i]? = some (some (.ref a)) → HandAt K F H a
theorem Sat.hands (S : Sat K F0 H0 F H σ ss) : HandsOk K F H σ ss := fun i a h e => by
  exact (S.ok i _ h).2.1
theorem Sat.growX (S : Sat K F0 H0 F H σ ss) (g : GrowX (HX σ ss) F H F' H') (hh : HandsOk K F' H' σ ss) : Sat K F0 H0 F' H' σ ss := by
  by_cases q : ∃ (i : Nat) (a : Addr), ss[i]? = some (SV.hand a) ∧ σ[i]? = some (some (V.ref a))
  · obtain ⟨i, a, hi, hs⟩ := q
    refine S.growH hi hs (g.weak fun b hb => ?_) (hh i a hi hs)
    obtain ⟨j, h1, h2⟩ := hb
    have := S.one i j _ _ hi h1
    subst this
    rw [hs] at h2
    cases h2
    rfl
  · exact S.grow (g.weak fun b z => by
      obtain ⟨i, h1, h2⟩ := z
      exact q ⟨i, b, h1, h2⟩)
theorem lc_rd (hts : ∀ i ∈ ts, i ∈ vs) {Q : VK} (h : rE X.K (eLc vs I G T A) σ H Q) : tLc (rI X.K I) (rG X.K ts G) (rT X.K T) (rE X.K A) vs σ H Q := by
  obtain ⟨F0, H0, F, ss, Q0, S, ⟨nh, h⟩, q⟩ := h
  refine ⟨F0, H0, F, ss, _, S, h, fun ds js F1 H1 J c g1 S1 it Dl nD => ?_⟩
  have hx : ∀ {σ' : L2.St} {ss' : SS}, (∀ (i : Nat) (b : Addr), ss'[i]? = some (SV.hand b) ↔ ss[i]? = some (SV.hand b)) → (∀ (i : Nat) (b : Addr), ss[i]? = some (SV.hand b) → σ'[i]? = σ[i]?) → ∀ a, HX σ' ss' a ↔ HX σ ss a := fun {σ' ss'} e1 e2 a => by
    constructor
    · rintro ⟨i, h1, h2⟩
      have h1' := (e1 i _).mp h1
      exact ⟨i, h1', by rw [← e2 i _ h1']; exact h2⟩
    · rintro ⟨i, h1, h2⟩
      exact ⟨i, (e1 i _).mpr h1, by rw [e2 i _ h1]; exact h2⟩
  have hw : ∀ (i : Nat) (b : Addr), (wipeS ss vs)[i]? = some (SV.hand b) ↔ ss[i]? = some (SV.hand b) := fun i b => by
    by_cases hi : i ∈ vs
    · refine ⟨fun z => ?_, fun z => absurd z (nh i hi _)⟩
      have := wipeS_in hi z
      cases this
    · rw [wipeS_out hi]
  have out : ∀ (i : Nat) (b : Addr), ss[i]? = some (SV.hand b) → i ∉ vs := fun i b h1 hi => nh i hi b h1
  let GG : Hp → Prop := fun H' => ∀ a o, H1 a = some o → ¬ HX σ ss a → H' a = some o
  have keeps : Keeps X.K F1 GG σ ss js := by
    refine ⟨fun j d v e1 e2 => ?_, fun j d v hj e1 e2 => ?_⟩
    · obtain ⟨w, e3, rd⟩ := S1.ok j _ e2
      rw [e1] at e3
      cases e3
      exact fun F' H' x y gg => rd.mono x fun a o e => gg a o (S1.eh a o e) fun ⟨i, z1, z2⟩ => by
        rw [(S1.adr z1 rfl z2).2.1] at e
        cases e
    · obtain ⟨a, e3, lc⟩ := S1.own e2
      rw [e1] at e3
      cases e3
      obtain ⟨o, ho⟩ := lc.obj
      exact fun F' H' x y gg => .inr ⟨a, rfl, ((lc.mono x).at ((gg a o ho fun ⟨i, z1, z2⟩ => by
        refine S1.dist i j _ _ a (fun z => ?_) z1 e2 rfl rfl z2 e1
        subst z
        rw [z1] at e2
        cases e2).trans ho.symm)).lr⟩
  have itd : ItD X.K J ds F1 GG := it F1 GG (Ex.refl _) keeps
  have nF1 : F1 Dl = none := S1.ef.none nD
  have Sw1 : Sat X.K F0 H0 F1 (upd H1 Dl (.lst [])) (L2.wipe σ vs) (wipeS ss vs) := (S1.grow (Grow.newL S1.ef nD)).wipe vs
  refine ⟨fun i m H3 => m = ds.length - i ∧ i ≤ ds.length ∧ ∃ F3 acc av, GrowX (HX σ ss) F1 H1 F3 H3 ∧ Sat X.K F0 H0 F3 H3 (L2.wipe σ vs) (wipeS ss vs) ∧ H3 Dl = some (.lst av) ∧ F3 Dl = none ∧ Dens X.K F3 acc av ∧ lcK G T A (wipeS ss vs) (ds.drop i) acc fun out => Q0 (.f (.list out)),
    ⟨ds.length, by simp, Nat.zero_le _, F1, [], [], (Grow.newL S1.ef nD).any, Sw1, upd_same, nF1, .nil, by rw [List.drop_zero]; exact c⟩, ?_⟩
  rintro i m H3 ⟨rfl, hi, F3, acc, av, g3, S3, hD, nD3, dn3, k3⟩
  have gg3 : GG H3 := fun a o e n => g3.h a o e n
  by_cases hlt : i < ds.length
  · refine .inr ⟨itd.go F3 H3 i g3.f S3.ef gg3 hlt, fun H' => ∃ F' acc av, GrowX (HX σ ss) F1 H1 F' H' ∧ Sat X.K F0 H0 F' H' (L2.wipe σ vs) (wipeS ss vs) ∧ H' Dl = some (.lst av) ∧ F' Dl = none ∧ Dens X.K F' acc av ∧ lcK G T A (wipeS ss vs) (ds.drop (i + 1)) acc fun out => Q0 (.f (.list out)),
      fun H' p => ⟨ds.length - (i + 1), by omega, rfl, hlt, p⟩, fun x H4 y => ?_⟩
    obtain ⟨F4, d, hd, g4, dn⟩ := itd.yld F3 H3 i x H4 g3.f S3.ef gg3 hlt y
    have e : ds.drop i = d :: ds.drop (i + 1) := by
      rw [List.drop_eq_getElem_cons hlt]
      rw [List.getElem?_eq_getElem hlt] at hd
      cases hd
      rfl
    rw [e] at k3
    have S4 := S3.grow g4
    -- the new list through a step
    have stay : ∀ {Fa Ha Fb Hb : Hp} {Y : Addr → Prop} {av : List V}, GrowX Y Fa Ha Fb Hb → ¬ Y Dl → Ha Dl = some (.lst av) → Fa Dl = none → Hb Dl = some (.lst av) ∧ Fb Dl = none := fun {Fa Ha Fb Hb Y av} g ny e n => by
      refine ⟨g.h Dl _ e ny, ?_⟩
      cases z : Fb Dl with
      | none => rfl
      | some u =>
        rcases g.n Dl (by rw [z]; exact fun q => nomatch q) with k | k
        · exact absurd n k
        · rw [e] at k
          cases k
    obtain ⟨hD4, nD4⟩ := stay g4 id hD nD3
    have nhD : ¬ HX σ ss Dl := fun ⟨j, z1, z2⟩ => by
      obtain ⟨_, _, o, ho⟩ := S1.adr z1 rfl z2
      rw [nD] at ho
      cases ho
    refine ⟨F0, H0, F4, wipeS ss vs, d, _, S4, dn, k3, fun s5 σ5 k5 b1 b2 S5 => ⟨?_, ?_⟩⟩
    · rw [b1.wipe hts]
      apply List.ext_getElem?
      intro j
      by_cases hj : j ∈ vs
      · cases q1 : (L2.wipe (L2.wipe σ vs) vs)[j]? with
        | none =>
          have l1 := List.getElem?_eq_none_iff.mp q1
          rw [wipe_length, wipe_length] at l1
          rw [List.getElem?_eq_none (by rw [wipe_length]; exact l1)]
        | some o =>
          have l2 := (List.getElem?_eq_some_iff.mp q1).1
          rw [wipe_length, wipe_length] at l2
          cases q2 : (L2.wipe σ vs)[j]? with
          | none =>
            have l1 := List.getElem?_eq_none_iff.mp q2
            rw [wipe_length] at l1
            omega
          | some o2 => rw [wipe_in hj q1, wipe_in hj q2]
      · rw [wipe_out hj]
    · have same : ∀ a, HX σ5 s5 a ↔ HX σ ss a := hx (fun j b => by
          by_cases hj : j ∈ vs
          · refine ⟨fun z => ?_, fun z => absurd z (nh j hj _)⟩
            exfalso
            by_cases hjt : j ∈ ts
            · exact b2.2 j hjt _ z
            · rw [b2.1.2 j hjt] at z
              have := wipeS_in hj z
              cases this
          · rw [b2.1.2 j fun z => hj (hts j z)]
            exact hw j b) fun j b hj => by
          have hv := out j _ hj
          rw [b1.2 j fun z => hv (hts j z), wipe_out hv]
      -- a turn's end
      have back : ∀ {F6 H6 : Hp}, GrowX (HX σ5 s5) F4 H4 F6 H6 → Sat X.K F0 H0 F6 H6 σ5 s5 → GrowX (HX σ ss) F1 H1 F6 H6 ∧ Sat X.K F0 H0 F6 H6 (L2.wipe σ vs) (wipeS ss vs) ∧ H6 Dl = some (.lst av) ∧ F6 Dl = none := fun {F6 H6} g S6 => by
        have gs : GrowX (HX σ ss) F4 H4 F6 H6 := g.weak fun a z => (same a).mp z
        have S14 : Sat X.K F0 H0 F4 H4 σ5 s5 := S5
        have g14 : GrowX (HX σ ss) F1 H1 F4 H4 := ⟨fun a o e n => g4.ex a o (g3.h a o e n), g3.f.trans g4.f, g4.i, fun b hb => by
          rcases g4.n b hb with q | q
          · exact g3.n b q
          · by_cases hb2 : HX σ ss b
            · obtain ⟨j, z1, z2⟩ := hb2
              have hv := out j _ z1
              obtain ⟨_, _, o, ho⟩ := S3.adr ((hw j _).mpr z1) rfl (by rw [wipe_out hv]; exact z2)
              rw [q] at ho
              cases ho
            · cases e : H1 b with
              | none => exact .inr rfl
              | some o =>
                rw [g3.h b o e hb2] at q
                cases q⟩
        have g16 : GrowX (HX σ ss) F1 H1 F6 H6 := ⟨fun a o e n => gs.h a o (g14.h a o e n) n, g14.f.trans gs.f, gs.i, fun b hb => by
          rcases gs.n b hb with q | q
          · exact g14.n b q
          · by_cases hb2 : HX σ ss b
            · obtain ⟨j, z1, z2⟩ := (same b).mpr hb2
              obtain ⟨_, _, o, ho⟩ := S5.adr z1 rfl z2
              rw [q] at ho
              cases ho
            · cases e : H1 b with
              | none => exact .inr rfl
              | some o =>
                rw [g14.h b o e hb2] at q
                cases q⟩
        obtain ⟨k1, k2⟩ := stay gs nhD hD4 nD4
        refine ⟨g16, S6.less (by rw [wipeS_len, wipe_length, S.len]) fun j sv hj => ?_, k1, k2⟩
        by_cases hjv : j ∈ vs
        · exact .inl (wipeS_in hjv hj)
        · have hjt : j ∉ ts := fun z => hjv (hts j z)
          exact .inr ⟨by rw [b2.1.2 j hjt]; exact hj, by rw [b1.2 j hjt]⟩
      refine rT_bind S5 k5 fun b F6 H6 c6 g6 S6 => ite_bl c6 (fun z => ?_) fun z => ?_
      · refine rE_bindF (C := fun d => acc.length < sizeLine ∧ lcK G T A (wipeS ss vs) (ds.drop (i + 1)) (acc ++ [d]) fun out => Q0 (.f (.list out))) S6 z fun dd v F7 H7 c7 g7 S7 dn7 => ?_
        have g67 := g6.andThen S6 g7
        obtain ⟨q1, q2, q3, q4⟩ := back g67 S7
        have e34 : Ex F3 F7 := g4.f.trans g67.f
        refine ⟨av, q3, by rw [← dn3.length]; exact c7.1, F7, acc ++ [dd], av ++ [v], ?_, ?_, upd_same, q4, (dn3.mono e34).append (.cons dn7 .nil), c7.2⟩
        · refine ⟨fun a o e n => ?_, q1.f, S7.ef.updR q4, q1.n⟩
          rw [upd_ne (fun z => by subst z; rw [nD] at e; cases e)]
          exact q1.h a o e n
        · have nex : ∀ (j : Nat) (sv : SV), (wipeS ss vs)[j]? = some sv → sv.ex = true → (L2.wipe σ vs)[j]? ≠ some (some (.ref Dl)) := fun j sv z1 z2 z3 => by
            have hjv : j ∉ vs := fun z => by
              have := wipeS_in z z1
              subst this
              cases z2
            rw [wipeS_out hjv] at z1
            rw [wipe_out hjv] at z3
            obtain ⟨_, _, o, ho⟩ := S1.adr z1 z2 z3
            rw [nD] at ho
            cases ho
          refine ⟨⟨fun a o e _ => ?_, q2.gr.f, S7.ef.updR q4, q2.gr.n⟩, q2.len, fun j sv hj => ?_, q2.dist, q2.one⟩
          · rw [upd_ne (fun z => by subst z; rw [S1.eh.none nD] at e; cases e)]
            exact q2.eh a o e
          · have q := q2.ok j sv hj
            cases sv with
            | any => trivial
            | p d => exact q
            | own d =>
              obtain ⟨a, e1, lc, k1, k2⟩ := q
              exact ⟨a, e1, lc.at (upd_ne fun z => nex j _ hj rfl (by rw [e1, z])), k1, k2⟩
            | r d => exact q
            | hand a =>
              obtain ⟨e1, ⟨dd, hc, lc⟩, k1, k2⟩ := q
              exact ⟨e1, ⟨dd, hc, lc.at (upd_ne fun z => nex j _ hj rfl (by rw [e1, z]))⟩, k1, k2⟩
      · obtain ⟨q1, q2, q3, q4⟩ := back g6 S6
        exact ⟨F6, acc, av, q1, q2, q3, q4, dn3.mono (g4.f.trans g6.f), z⟩
  · have e : i = ds.length := by omega
    subst e
    rw [List.drop_length] at k3
    refine .inl ⟨itd.stop F3 H3 g3.f S3.ef gg3, ?_⟩
    have S31 : Sat X.K F0 H0 F3 H3 σ ss := S1.growX g3 fun j a z1 z2 => S3.hands j a ((hw j _).mpr z1) (by rw [wipe_out (out j _ z1)]; exact z2)
    refine q _ (.ref Dl) F3 H3 k3 (g1.andThen S1 g3) S31 ⟨Dl, rfl, ⟨av, hD, dn3⟩, nD3, g1.fresh S1 nD, fun j sv z1 z2 z3 => ?_⟩
    obtain ⟨_, _, o, ho⟩ := S1.adr z1 z2 z3
    rw [nD] at ho
    cases ho
theorem de_lc {scope : Scope} {own : List (Str × Nat)} (hc : X.calm = true) (hN : X.N.Nodup) (hi : DI X tg iter I) (ok : BlkOk X.N X.env.scope scope own)
    (hg : ∀ (s : Shared) (H : Hp) (C : Addr) (cl : List (Str × Addr)) (fp : List Addr), DG (X.blk s H scope (compEnvC scope cl C X.env) fp) tg ts G) {ifs : List Expr} (ht : ∀ (s : Shared) (H : Hp) (C : Addr) (cl : List (Str × Addr)) (fp : List Addr), DTs (X.blk s H scope (compEnvC scope cl C X.env) fp) ifs T)
    (he : ∀ (s : Shared) (H : Hp) (C : Addr) (cl : List (Str × Addr)) (fp : List Addr), DE (X.blk s H scope (compEnvC scope cl C X.env) fp) elt A) (hts : ∀ i ∈ ts, i ∈ own.map (·.2) := by decide) (hs : ∀ x, foldedSetIterable iter X.env x = pure x := by intro _; rfl) :
    DE X (.ListComp elt [⟨tg, iter, ifs, 0⟩] scope pos) (eLc (own.map (·.2)) I G T A) :=
  ⟨pe_wk (pe_lc hc hN hi.pi ok (fun s H C cl fp => (hg s H C cl fp).pg) (fun s H C cl fp => (ht s H C cl fp).pt) (fun s H C cl fp => (he s H C cl fp).pe) hs) fun σ H Q h => lc_rd hts h⟩
/-- name = [..] on one line, the name a local -/
theorem ds_setLc {i : Nat} {y : Str} {py spos : Pos} {scope : Scope} {own : List (Str × Nat)} (hc : X.calm = true) (hN : X.N.Nodup) (hy : X.N[i]? = some y) (hyl : X.env.scope.names.lookup y = some .local) {ifs : List Expr}
    (hsw : swapsWith (.ListComp elt [⟨tg, iter, ifs, 0⟩] scope pos) (some (.Name y py)) spos.line X.env = pure true) (hi : DI X tg iter I) (ok : BlkOk X.N X.env.scope scope own)
    (hg : ∀ (s : Shared) (H : Hp) (C : Addr) (cl : List (Str × Addr)) (fp : List Addr), DG (X.blk s H scope (compEnvC scope cl C X.env) fp) tg ts G) (ht : ∀ (s : Shared) (H : Hp) (C : Addr) (cl : List (Str × Addr)) (fp : List Addr), DTs (X.blk s H scope (compEnvC scope cl C X.env) fp) ifs T)
    (he : ∀ (s : Shared) (H : Hp) (C : Addr) (cl : List (Str × Addr)) (fp : List Addr), DE (X.blk s H scope (compEnvC scope cl C X.env) fp) elt A) (hts : ∀ i ∈ ts, i ∈ own.map (·.2) := by decide) (hs : ∀ x, foldedSetIterable iter X.env x = pure x := by intro _; rfl) :
    DS X (.Assign [.Name y py] (.ListComp elt [⟨tg, iter, ifs, 0⟩] scope pos) spos) (sAsg i (eLc (own.map (·.2)) I G T A)) :=
  ⟨ps_wk (ps_setLc hc hN hy hyl hsw hi.pi ok (fun s H C cl fp => (hg s H C cl fp).pg) (fun s H C cl fp => (ht s H C cl fp).pt) (fun s H C cl fp => (he s H C cl fp).pe) hs) fun De σ H ⟨F0, H0, F, ss, M, S, h, L⟩ =>
    lc_rd hts ⟨F0, H0, F, ss, _, S, h, fun val v F1 H1 h0 g S1 vd => by
      obtain ⟨ss', q, S2⟩ := asg_ok S1 S.hs vd h0
      exact L.nx ss' _ F1 H1 q g.f S2⟩⟩
end
end Z3

set_option maxRecDepth 100000
set_option maxHeartbeats 4000000
/-! Zh: operations on data. -/
namespace Z3
open PySem PySem.Spec PyProof.Rows L2
open Evl (Ex ex_rd ex_l ex_t)

section
variable {X : Cx} {K : PySem.W.Frag} {F H : Hp} {v : V} {pins : List (Addr × Obj)} {σ : L2.St} {s : Shared}
theorem RdD.int {i : Int} (h : RdD K F H (.int i) v) : v = .int i := by
  rcases h with h | ⟨a, _, h⟩
  · cases h; rfl
  · exact h.elim
theorem RdD.bool {i : Bool} (h : RdD K F H (.bool i) v) : v = .bl i := by
  rcases h with h | ⟨a, _, h⟩
  · cases h; rfl
  · exact h.elim
theorem RdD.str {i : Str} (h : RdD K F H (.str i) v) : v = .str i := by
  rcases h with h | ⟨a, _, h⟩
  · cases h; rfl
  · exact h.elim
theorem RdD.non (h : RdD K F H .none v) : v = .non := by
  rcases h with h | ⟨a, _, h⟩
  · cases h; rfl
  · exact h.elim
theorem RdD.lst {ds : List D} (e : Ex F H) (h : RdD K F H (.list ds) v) : ∃ a vs, v = .ref a ∧ SqL K H a vs ∧ Dens K F ds vs := by
  rcases h with h | ⟨a, e1, vs, q, r⟩
  · cases h with
    | list q r => exact ⟨_, _, rfl, ex_l e q, r⟩
  · exact ⟨a, vs, e1, .inl q, r⟩
theorem RdD.tup {ds : List D} (e : Ex F H) (h : RdD K F H (.tuple ds) v) : ∃ a vs, v = .ref a ∧ SqT K H a vs ∧ Dens K F ds vs := by
  rcases h with h | ⟨a, _, h⟩
  · cases h with
    | tuple q r => exact ⟨_, _, rfl, ex_t e q, r⟩
  · exact h.elim
theorem RdD.tden {ds : List D} (h : RdD K F H (.tuple ds) v) : Den K F (.tuple ds) v := by
  rcases h with h | ⟨a, _, h⟩
  · exact h
  · exact h.elim
theorem RdD.none_iff {d : D} (h : RdD K F H d v) : decide (v = .non) = (match d with
    | .none => true
    | _ => false) := by
  rcases h with h | ⟨a, e, h⟩
  · cases h <;> rfl
  · subst e
    cases d with
    | list _ => rfl
    | dict _ => rfl
    | _ => exact h.elim
theorem RdD.reads {d : D} {u : Value} (I : Inv X pins σ H s) (e : Ex F H) (h : RdD X.K F H d v) (p : d.plain = true) (r : RelV v u) : ∃ as, Reads s.heap u d as := Den.reads I d v u p (h.den e) r
/-- a list as it is read -/
theorem lstR {a : Addr} {xs : List V} (I : Inv X pins σ H s) (h : SqL X.K H a xs) : xs.length ≤ sizeLine ∧ ∃ (its : List Value) (n : Nat) (dd : Option Addr) (sl : Array (Option Value)), Vals xs its ∧ s.heap.get? a = some { cls := .type "list", dict := dd, data := .seq its.toArray n, slots := sl } := by
  obtain ⟨its, r, ⟨⟨c, dd, dt, sl⟩, n, ho, hc, hd, hdt⟩, z⟩ := I.list h
  simp only at hc hdt
  subst hc hdt
  exact ⟨z, its, n, dd, sl, r, ho⟩
end

/-! ### arithmetic, sequences -/
def dAdd : G2 := fun a b Q => match a, b with
  | .int i, .int j => Q (.p (.int (i + j)))
  | .tuple xs, .tuple ys => xs.length + ys.length ≤ sizeLine ∧ Q (.p (.tuple (xs ++ ys)))
  | .list xs, .list ys => xs.length + ys.length ≤ sizeLine ∧ Q (.f (.list (xs ++ ys)))
  | _, _ => False
def dSub : G2 := fun a b Q => match a, b with
  | .int i, .int j => Q (.p (.int (i - j)))
  | _, _ => False
def dMul : G2 := fun a b Q => match a, b with
  | .int i, .int j => (CMul i j ∨ CMulW i j) ∧ Q (.p (.int (i * j)))
  | .list xs, .int k => -(2 ^ 63) ≤ k ∧ k < 2 ^ 63 ∧ xs.length * k.toNat ≤ sizeLine ∧ Q (.f (.list (List.replicate k.toNat xs).flatten))
  | .tuple xs, .int k => xs ≠ [] ∧ 2 ≤ k ∧ k ≤ 1000 ∧ xs.length ≤ 1000 ∧ Q (.p (.tuple (List.replicate k.toNat xs).flatten))
  | _, _ => False
def dFdiv : G2 := fun a b Q => match a, b with
  | .int i, .int j => CDivW i j ∧ Q (.p (.int (i / j)))
  | _, _ => False
def dMod : G2 := fun a b Q => match a, b with
  | .int i, .int j => 0 < j ∧ Q (.p (.int (i % j)))
  | _, _ => False
def dPow : G2 := fun a b Q => match a, b with
  | .int i, .int j => CPow i j ∧ Q (.p (.int (i ^ j.toNat)))
  | _, _ => False
def dNeg : G1 := fun a Q => match a with
  | .int i => Q (.p (.int (-i)))
  | _ => False
section
variable {X : Cx}
theorem od_add : OpR X (binaryOp .Add) (rD2 X.K dAdd) := by
  intro pins s σ H x y v u Q I rx ry h
  obtain ⟨F, a, b, Q0, e, ha, hb, h, q⟩ := h
  unfold dAdd at h
  split at h
  · obtain rfl := ha.int
    obtain rfl := hb.int
    exact op_add pins s σ H _ _ v u Q I rx ry ⟨_, _, rfl, rfl, q.p e h (.int _)⟩
  · obtain ⟨p, xs, rfl, hp, rp⟩ := ha.tup e
    obtain ⟨r, ys, rfl, hr, rr⟩ := hb.tup e
    have l1 := rp.length
    have l2 := rr.length
    refine op_catA pins s σ H _ _ v u Q I rx ry ⟨p, r, xs, ys, rfl, rfl, hp, hr, by omega, fun z => ?_, fun z z2 => ?_, fun z z2 t nt => q.tup e h.2 (rp.append rr) nt⟩
    · rename_i as bs
      have z0 : as = [] := List.eq_nil_of_length_eq_zero (by rw [l1, z]; rfl)
      subst z0
      exact q.p e h.2 hb.tden
    · rename_i as bs
      have z0 : bs = [] := List.eq_nil_of_length_eq_zero (by rw [l2, z2]; rfl)
      subst z0
      exact q.p e h.2 (by rw [List.append_nil]; exact ha.tden)
  · obtain ⟨p, xs, rfl, hp, rp⟩ := ha.lst e
    obtain ⟨r, ys, rfl, hr, rr⟩ := hb.lst e
    have l1 := rp.length
    have l2 := rr.length
    cases rx
    cases ry
    obtain ⟨z1, its, n, dd, sl, v1, e1⟩ := lstR I hp
    obtain ⟨z2, jts, m, dd2, sl2, v2, e2⟩ := lstR I hr
    have k1 := v1.length
    have k2 := v2.length
    have ea : its.toArray ++ jts.toArray = (its ++ jts).toArray := by simp
    refine concat_meets ⟨_, e1, rfl⟩ ⟨_, e2, rfl⟩ noFill_list_add seq_list_add PySem.F.slot_list_add PySem.F.entry_list_add (PySem.F.args_list_add_2 _ _) (PyProof.Rows.list_addW p r its.toArray jts.toArray n m dd dd2 sl sl2 (by rw [List.size_toArray, List.size_toArray]; omega)) ⟨e1, e2, ?_⟩
    rw [ea]
    exact ⟨.ref _, _, I.lnew (t' := s.toks) (v1.append v2) (by rw [List.length_append]; omega), rfl, q.lst e h.2 (rp.append rr) I.fresh⟩
  · exact h.elim
theorem od_sub : OpR X (binaryOp .Sub) (rD2 X.K dSub) := by
  intro pins s σ H x y v u Q I rx ry h
  obtain ⟨F, a, b, Q0, e, ha, hb, h, q⟩ := h
  unfold dSub at h
  split at h
  · obtain rfl := ha.int
    obtain rfl := hb.int
    exact op_sub pins s σ H _ _ v u Q I rx ry ⟨_, _, rfl, rfl, q.p e h (.int _)⟩
  · exact h.elim
theorem od_fdiv : OpR X (binaryOp .FloorDiv) (rD2 X.K dFdiv) := by
  intro pins s σ H x y v u Q I rx ry h
  obtain ⟨F, a, b, Q0, e, ha, hb, h, q⟩ := h
  unfold dFdiv at h
  split at h
  · obtain rfl := ha.int
    obtain rfl := hb.int
    exact op_fdivW pins s σ H _ _ v u Q I rx ry ⟨_, _, rfl, rfl, h.1, q.p e h.2 (.int _)⟩
  · exact h.elim
theorem od_mod : OpR X (binaryOp .Mod) (rD2 X.K dMod) := by
  intro pins s σ H x y v u Q I rx ry h
  obtain ⟨F, a, b, Q0, e, ha, hb, h, q⟩ := h
  unfold dMod at h
  split at h
  · obtain rfl := ha.int
    obtain rfl := hb.int
    exact op_mod pins s σ H _ _ v u Q I rx ry ⟨_, _, rfl, rfl, h.1, q.p e h.2 (.int _)⟩
  · exact h.elim
theorem od_pow : OpR X (binaryOp .Pow) (rD2 X.K dPow) := by
  intro pins s σ H x y v u Q I rx ry h
  obtain ⟨F, a, b, Q0, e, ha, hb, h, q⟩ := h
  unfold dPow at h
  split at h
  · obtain rfl := ha.int
    obtain rfl := hb.int
    exact op_pow pins s σ H _ _ v u Q I rx ry ⟨_, _, rfl, rfl, h.1, q.p e h.2 (.int _)⟩
  · exact h.elim
theorem od_neg : UnR X (unaryOp .USub) (rD1 X.K dNeg) := by
  intro pins s σ H x v Q I rx h
  obtain ⟨F, a, Q0, e, ha, h, q⟩ := h
  unfold dNeg at h
  split at h
  · obtain rfl := ha.int
    exact un_neg pins s σ H _ v Q I rx ⟨_, rfl, q.p e h (.int _)⟩
  · exact h.elim
theorem rmulW (x : Int) (t : Tok) (l : Addr) (items : Array Value) (n : Nat) (dd : Option Addr) (sl : Array (Option Value)) :
    Meets (Builtin.«int.__rmul__» ⟨[.int x t, .ref l], []⟩) (fun _ R s => s.heap.get? l = some { cls := .type "list", dict := dd, data := .seq items n, slots := sl } ∧ R (.ok (.ret Value.notImplemented)) s) :=
  .of_wp fun prog w A R s h => by
    obtain ⟨hp, g, d, tk, os⟩ := s
    obtain ⟨hl, h⟩ := h
    wp_walk
    exact ⟨_, rfl, h⟩
theorem mulW (l : Addr) (items : Array Value) (n : Nat) (x : Int) (u : Tok) (dd : Option Addr) (sl : Array (Option Value)) (c0 : ¬(!Builtin.List.listFitsIndex x) = true) (c1 : ¬items.size * x.toNat > (2 ^ 63 - 1) / 8) (c2 : ¬Builtin.List.listTooLong (items.size * x.toNat) = true) :
    Meets (Builtin.«list.__mul__» ⟨[.ref l, .int x u], []⟩) (fun _ R s => s.heap.get? l = some { cls := .type "list", dict := dd, data := .seq items n, slots := sl } ∧
      R (.ok (.ret (Value.ref s.heap.objs.size))) { s with heap := s.heap.push { cls := Value.type "list", data := Data.seq (List.foldl (fun x1 x2 => x1 ++ x2) #[] (List.replicate (if items.isEmpty = true then 0 else x.toNat) items)) }, toks := s.toks }) :=
  .of_wp fun prog w A R s h => by
    obtain ⟨hp, g, d, tk, os⟩ := s
    obtain ⟨hl, h⟩ := h
    have hsz := PySem.AutoListH.joined_fits c2
    wp_walk
    refine wpAny_ite_false (decide_eq_false (Nat.not_lt.mpr hsz)) ?_
    wp_walk
    exact ⟨_, rfl, h⟩
theorem op_repR {pins : List (Addr × Obj)} {s : Shared} {σ : L2.St} {H : Hp} {l : Addr} {k : Int} {t : Tok} {xs : List V} {Q : VK} (I : Inv X pins σ H s) (hl : SqL X.K H l xs) (h1 : -(2 ^ 63) ≤ k) (h2 : k < 2 ^ 63) (hz : xs.length * k.toNat ≤ sizeLine)
    (q : ∀ p, H p = none → Q (.ref p) (upd H p (.lst (List.replicate k.toNat xs).flatten))) : wpAny (model X.prog X.w) X.A (binaryOp .Mult (.ref l) (.int k t)) (EP X pins σ Q) X.xe s := by
  obtain ⟨z, its, n, dd, sl, r, e⟩ := lstR I hl
  have hl' := r.length
  have a1 : its.toArray.size * k.toNat ≤ sizeLine := by rw [List.size_toArray, ← hl']; exact hz
  have a2 : ¬ its.toArray.size * k.toNat > (2 ^ 63 - 1) / 8 := by
    have : (sizeLine : Nat) ≤ (2 ^ 63 - 1) / 8 := by decide
    omega
  have a3 : ¬ (!Builtin.List.listFitsIndex k) = true := by rw [fitsIndex_both h1 h2]; exact Bool.false_ne_true
  have a4 : ¬ Builtin.List.listTooLong (its.toArray.size * k.toNat) = true := by rw [notLongL a1]; exact Bool.false_ne_true
  have a5 : List.foldl (fun x1 x2 => x1 ++ x2) #[] (List.replicate (if its.toArray.isEmpty = true then 0 else k.toNat) its.toArray) = (List.replicate k.toNat its).flatten.toArray := by
    cases its with
    | nil => simp
    | cons a r' =>
      rw [if_neg (by simp)]
      have := foldl_rep (a :: r') k.toNat []
      rw [List.nil_append] at this
      exact this
  refine wpAny_binaryOp_repeat_ref (T := "list") (U := "int") (by decide) ⟨_, e, rfl⟩ (fun s' => typeIs_int s' k t) noFill_list_mul F.fills_int_mul F.slot_int_rmul repeat_list F.slot_int_index.lookup ?_
  refine call_meets F.slot_int_rmul (typeIs_int s k t) F.entry_int_rmul (F.args_int_rmul_2 _ _) (rmulW k t l its.toArray n dd sl) ⟨e, rfl, ⟨_, e, rfl⟩, ?_⟩
  refine call_meets F.slot_list_mul ⟨_, e, rfl⟩ F.entry_list_mul (F.args_list_mul_2 _ _) (mulW l its.toArray n k t dd sl a3 a2 a4) ⟨e, ?_⟩
  rw [a5]
  exact ⟨.ref _, _, I.lnew (t' := s.toks) (r.rep k.toNat) (by rw [PyProof.Rows.lm_len_rep_flat, Nat.mul_comm]; exact hz), rfl, q _ I.fresh⟩
theorem od_mul : OpR X (binaryOp .Mult) (rD2 X.K dMul) := by
  intro pins s σ H x y v u Q I rx ry h
  obtain ⟨F, a, b, Q0, e, ha, hb, h, q⟩ := h
  unfold dMul at h
  split at h
  · obtain rfl := ha.int
    obtain rfl := hb.int
    rcases h.1 with c | c
    · exact op_mul pins s σ H _ _ v u Q I rx ry ⟨_, _, rfl, rfl, c, q.p e h.2 (.int _)⟩
    · exact op_mulW pins s σ H _ _ v u Q I rx ry ⟨_, _, rfl, rfl, c, q.p e h.2 (.int _)⟩
  · obtain ⟨p, xs, rfl, hp, rp⟩ := ha.lst e
    obtain rfl := hb.int
    obtain ⟨h1, h2, h3, h⟩ := h
    cases rx
    obtain ⟨t, rfl⟩ := ry
    have l1 := rp.length
    exact op_repR I hp h1 h2 (by rw [← l1]; exact h3) fun p np => q.lst e h (rp.rep _) np
  · rename_i as k
    obtain ⟨p, xs, rfl, hp, rp⟩ := ha.tup e
    obtain rfl := hb.int
    obtain ⟨h1, h2, h3, h4, h⟩ := h
    have l1 := rp.length
    exact op_repT pins s σ H _ _ v u Q I rx ry ⟨p, k, xs, rfl, rfl, hp, fun z => h1 (List.eq_nil_of_length_eq_zero (by rw [l1, z]; rfl)), h2, h3, by omega, fun t nt => q.tup e h (rp.rep _) nt⟩
  · exact h.elim
end

/-! ### comparisons -/
def dEq : G2 := fun a b Q => (a.plain = true ∧ b.plain = true ∧ min a.depth b.depth ≤ 64) ∧ Q (.p (.bool (PyData.eqv a b)))
def dNe : G2 := fun a b Q => (a.plain = true ∧ b.plain = true ∧ min a.depth b.depth ≤ 64) ∧ Q (.p (.bool (!PyData.eqv a b)))
def okLt (a b : D) : Prop := PySem.W.alike a b = true ∧ a ≠ .none ∧ a.plain = true ∧ b.plain = true ∧ min a.depth b.depth ≤ 64
def dLt : G2 := fun a b Q => match a, b with
  | .int i, .int j => Q (.p (.bool (decide (i < j))))
  | a, b => okLt a b ∧ Q (.p (.bool (PySem.W.dataLt a b)))
def dGt : G2 := fun a b Q => match a, b with
  | .int i, .int j => Q (.p (.bool (decide (j < i))))
  | a, b => okLt a b ∧ Q (.p (.bool (PySem.W.dataLt b a)))
def dLe : G2 := fun a b Q => match a, b with
  | .int i, .int j => Q (.p (.bool (decide (i ≤ j))))
  | a, b => okLt a b ∧ Q (.p (.bool (!PySem.W.dataLt b a)))
def dGe : G2 := fun a b Q => match a, b with
  | .int i, .int j => Q (.p (.bool (decide (j ≤ i))))
  | a, b => okLt a b ∧ Q (.p (.bool (!PySem.W.dataLt a b)))
def okIn (x : D) (ds : List D) : Prop := x.plain = true ∧ PyData.plainAll ds = true ∧ min (PyData.depthAll ds) x.depth ≤ 60
def keyEq : D → D → Bool
  | .int i, .int j => decide (i = j)
  | .str x, .str y => decide (x = y)
  | _, _ => false
def dlook (kvs : List (D × D)) (k : D) : Option D := (kvs.find? fun p => keyEq p.1 k).map (·.2)
def isKey : D → Prop
  | .int _ => True
  | .str _ => True
  | _ => False
def dIn : G2 := fun a b Q => match b with
  | .list ds => okIn a ds ∧ Q (.p (.bool (ds.any fun y => PyData.eqv y a)))
  | .tuple ds => okIn a ds ∧ Q (.p (.bool (ds.any fun y => PyData.eqv y a)))
  | .dict kvs => isKey a ∧ Q (.p (.bool (dlook kvs a).isSome))
  | _ => False
def dNi : G2 := fun a b Q => match b with
  | .list ds => okIn a ds ∧ Q (.p (.bool (!ds.any fun y => PyData.eqv y a)))
  | .tuple ds => okIn a ds ∧ Q (.p (.bool (!ds.any fun y => PyData.eqv y a)))
  | .dict kvs => isKey a ∧ Q (.p (.bool (!(dlook kvs a).isSome)))
  | _ => False
def isNon : D → Bool
  | .none => true
  | _ => false
/-- x is None, x is True -/
def dIs : G2 := fun a b Q => match b with
  | .none => Q (.p (.bool (isNon a)))
  | .bool k => match a with
    | .bool i => Q (.p (.bool (decide (i = k))))
    | _ => False
  | _ => False
def dIsn : G2 := fun a b Q => match b with
  | .none => Q (.p (.bool (!isNon a)))
  | .bool k => match a with
    | .bool i => Q (.p (.bool (!decide (i = k))))
    | _ => False
  | _ => False
section
variable {X : Cx}
theorem od_eq (hu : X.A.units + 64 < cLine) : OpR X (compareOp .Eq) (rD2 X.K dEq) := by
  intro pins s σ H x y v u Q I rx ry ⟨F, a, b, Q0, e, ha, hb, ⟨⟨p1, p2, dp⟩, h⟩, q⟩
  obtain ⟨as, ra⟩ := ha.reads I e p1 rx
  obtain ⟨bs, rb⟩ := hb.reads I e p2 ry
  exact PySem.SeqAt.eq_plain ra rb p1 p2 (by omega) ⟨.bl _, H, I, rfl, q.p e h (.bool _)⟩
theorem od_ne (hu : X.A.units + 64 < cLine) : OpR X (compareOp .NotEq) (rD2 X.K dNe) := by
  intro pins s σ H x y v u Q I rx ry ⟨F, a, b, Q0, e, ha, hb, ⟨⟨p1, p2, dp⟩, h⟩, q⟩
  obtain ⟨as, ra⟩ := ha.reads I e p1 rx
  obtain ⟨bs, rb⟩ := hb.reads I e p2 ry
  exact PySem.SeqAt.ne_plain ra rb p1 p2 (by omega) ⟨.bl _, H, I, rfl, q.p e h (.bool _)⟩
theorem od_lt (hu : X.A.units + 64 < cLine) : OpR X (compareOp .Lt) (rD2 X.K dLt) := by
  intro pins s σ H x y v u Q I rx ry ⟨F, a, b, Q0, e, ha, hb, h, q⟩
  unfold dLt at h
  split at h
  · obtain rfl := ha.int
    obtain rfl := hb.int
    exact op_lt pins s σ H _ _ v u Q I rx ry ⟨_, _, rfl, rfl, q.p e h (.bool _)⟩
  · obtain ⟨⟨al, nn, p1, p2, dp⟩, h⟩ := h
    obtain ⟨as, ra⟩ := ha.reads I e p1 rx
    obtain ⟨bs, rb⟩ := hb.reads I e p2 ry
    exact PySem.W.lt_data ra rb al nn (by omega) ⟨.bl _, H, I, rfl, q.p e h (.bool _)⟩
theorem od_gt (hu : X.A.units + 64 < cLine) : OpR X (compareOp .Gt) (rD2 X.K dGt) := by
  intro pins s σ H x y v u Q I rx ry ⟨F, a, b, Q0, e, ha, hb, h, q⟩
  unfold dGt at h
  split at h
  · obtain rfl := ha.int
    obtain rfl := hb.int
    exact op_gt pins s σ H _ _ v u Q I rx ry ⟨_, _, rfl, rfl, q.p e h (.bool _)⟩
  · obtain ⟨⟨al, nn, p1, p2, dp⟩, h⟩ := h
    obtain ⟨as, ra⟩ := ha.reads I e p1 rx
    obtain ⟨bs, rb⟩ := hb.reads I e p2 ry
    exact PySem.W.gt_data ra rb al nn (by omega) ⟨.bl _, H, I, rfl, q.p e h (.bool _)⟩
theorem od_le (hu : X.A.units + 64 < cLine) : OpR X (compareOp .LtE) (rD2 X.K dLe) := by
  intro pins s σ H x y v u Q I rx ry ⟨F, a, b, Q0, e, ha, hb, h, q⟩
  unfold dLe at h
  split at h
  · obtain rfl := ha.int
    obtain rfl := hb.int
    exact op_le pins s σ H _ _ v u Q I rx ry ⟨_, _, rfl, rfl, q.p e h (.bool _)⟩
  · obtain ⟨⟨al, nn, p1, p2, dp⟩, h⟩ := h
    obtain ⟨as, ra⟩ := ha.reads I e p1 rx
    obtain ⟨bs, rb⟩ := hb.reads I e p2 ry
    exact PySem.W.le_data ra rb al nn (by omega) ⟨.bl _, H, I, rfl, q.p e h (.bool _)⟩
theorem od_ge (hu : X.A.units + 64 < cLine) : OpR X (compareOp .GtE) (rD2 X.K dGe) := by
  intro pins s σ H x y v u Q I rx ry ⟨F, a, b, Q0, e, ha, hb, h, q⟩
  unfold dGe at h
  split at h
  · obtain rfl := ha.int
    obtain rfl := hb.int
    exact op_ge pins s σ H _ _ v u Q I rx ry ⟨_, _, rfl, rfl, q.p e h (.bool _)⟩
  · obtain ⟨⟨al, nn, p1, p2, dp⟩, h⟩ := h
    obtain ⟨as, ra⟩ := ha.reads I e p1 rx
    obtain ⟨bs, rb⟩ := hb.reads I e p2 ry
    exact PySem.W.ge_data ra rb al nn (by omega) ⟨.bl _, H, I, rfl, q.p e h (.bool _)⟩
theorem keyEq_kD (a b : Key) : keyEq (kD a) (kD b) = decide (a = b) := by
  cases a with
  | inl i =>
    cases b with
    | inl j =>
      show decide (i = j) = _
      by_cases h : i = j
      · subst h
        simp
      · rw [decide_eq_false h, decide_eq_false (fun z => h (Sum.inl.inj z))]
    | inr y => exact (decide_eq_false (fun z => nomatch z)).symm
  | inr x =>
    cases b with
    | inl j => exact (decide_eq_false (fun z => nomatch z)).symm
    | inr y =>
      show decide (x = y) = _
      by_cases h : x = y
      · subst h
        simp
      · rw [decide_eq_false h, decide_eq_false (fun z => h (Sum.inr.inj z))]
theorem isKey.key {d : D} (h : isKey d) : ∃ k, d = kD k := by
  cases d with
  | int i => exact ⟨.inl i, rfl⟩
  | str x => exact ⟨.inr x, rfl⟩
  | _ => exact h.elim
theorem Denk.look {K : PySem.W.Frag} {F : Hp} (k : Key) : ∀ {kvs : List (D × D)} {kv : List (Key × V)}, Denk K F kvs kv → (dlook kvs (kD k) = none ∧ valV kv k = none) ∨ ∃ d v, dlook kvs (kD k) = some d ∧ valV kv k = some v ∧ Den K F d v
  | _, _, .nil => .inl ⟨rfl, rfl⟩
  | _, _, .cons (k := k') (d := d) (v := v) a r => by
    by_cases h : k' = k
    · refine .inr ⟨d, v, ?_, valV_pos h, a⟩
      unfold dlook
      rw [List.find?_cons, keyEq_kD, decide_eq_true h]
      rfl
    · rcases Denk.look k r with ⟨h1, h2⟩ | ⟨d2, v2, h1, h2, h3⟩
      · refine .inl ⟨?_, by rw [valV_neg h]; exact h2⟩
        unfold dlook
        rw [List.find?_cons, keyEq_kD, decide_eq_false h]
        exact h1
      · refine .inr ⟨d2, v2, ?_, by rw [valV_neg h]; exact h2, h3⟩
        unfold dlook
        rw [List.find?_cons, keyEq_kD, decide_eq_false h]
        exact h1
theorem Denk.some_iff {K : PySem.W.Frag} {F : Hp} {kvs : List (D × D)} {kv : List (Key × V)} (r : Denk K F kvs kv) (k : Key) : (valV kv k).isSome = (dlook kvs (kD k)).isSome := by
  rcases r.look k with ⟨h1, h2⟩ | ⟨d, v, h1, h2, _⟩
  · rw [h1, h2]; rfl
  · rw [h1, h2]; rfl
theorem RdD.dic {K : PySem.W.Frag} {F H : Hp} {v : V} {kvs : List (D × D)} (e : Ex F H) (h : RdD K F H (.dict kvs) v) : ∃ a kv, v = .ref a ∧ Rd H a (.dK kv) ∧ Denk K F kvs kv := by
  rcases h with h | ⟨a, e1, kv, q, r⟩
  · cases h with
    | dict q r => exact ⟨_, _, rfl, ex_rd e q, r⟩
  · exact ⟨a, kv, e1, q, r⟩
theorem RdD.key {K : PySem.W.Frag} {F H : Hp} {v : V} {k : Key} (h : RdD K F H (kD k) v) : v = kV k := by
  cases k with
  | inl i => exact RdD.int h
  | inr x => exact RdD.str h
theorem od_in (hu : X.A.units + 64 < cLine) : OpR X (compareOp .In) (rD2 X.K dIn) := by
  intro pins s σ H x y v u Q I rx ry ⟨F, a, b, Q0, e, ha, hb, h, q⟩
  unfold dIn at h
  split at h
  · obtain ⟨⟨p1, p2, dp⟩, h⟩ := h
    obtain ⟨as, ra⟩ := ha.reads I e p1 rx
    obtain ⟨bs, rb⟩ := hb.reads I e (by rw [PyData.plain]; exact p2) ry
    exact PySem.SeqAt.in_list_data rb ra p2 p1 (by omega) ⟨.bl _, H, I, rfl, q.p e h (.bool _)⟩
  · obtain ⟨⟨p1, p2, dp⟩, h⟩ := h
    obtain ⟨as, ra⟩ := ha.reads I e p1 rx
    obtain ⟨bs, rb⟩ := hb.reads I e (by rw [PyData.plain]; exact p2) ry
    exact PySem.SeqAt.in_tuple_data rb ra p2 p1 (by omega) ⟨.bl _, H, I, rfl, q.p e h (.bool _)⟩
  · obtain ⟨k, rfl⟩ := h.1.key
    obtain ⟨d, kv, rfl, hd, rk⟩ := hb.dic e
    obtain rfl := ha.key
    obtain rfl : u = .ref d := ry
    exact d_in (by omega) I (.inl ⟨kv, k, hd, rfl, rfl⟩) rx fun s3 I3 => ⟨.bl _, H, I3, rfl, q.p e (by rw [rk.some_iff k]; exact h.2) (.bool _)⟩
  · exact h.elim
theorem od_ni (hu : X.A.units + 64 < cLine) : OpR X (compareOp .NotIn) (rD2 X.K dNi) := by
  intro pins s σ H x y v u Q I rx ry ⟨F, a, b, Q0, e, ha, hb, h, q⟩
  unfold dNi at h
  split at h
  · obtain ⟨⟨p1, p2, dp⟩, h⟩ := h
    obtain ⟨as, ra⟩ := ha.reads I e p1 rx
    obtain ⟨bs, rb⟩ := hb.reads I e (by rw [PyData.plain]; exact p2) ry
    exact PySem.SeqAt.notIn_list_data rb ra p2 p1 (by omega) ⟨.bl _, H, I, rfl, q.p e h (.bool _)⟩
  · obtain ⟨⟨p1, p2, dp⟩, h⟩ := h
    obtain ⟨as, ra⟩ := ha.reads I e p1 rx
    obtain ⟨bs, rb⟩ := hb.reads I e (by rw [PyData.plain]; exact p2) ry
    exact PySem.SeqAt.notIn_tuple_data rb ra p2 p1 (by omega) ⟨.bl _, H, I, rfl, q.p e h (.bool _)⟩
  · obtain ⟨k, rfl⟩ := h.1.key
    obtain ⟨d, kv, rfl, hd, rk⟩ := hb.dic e
    obtain rfl := ha.key
    obtain rfl : u = .ref d := ry
    exact d_notIn (by omega) I (.inl ⟨kv, k, hd, rfl, rfl⟩) rx fun s3 I3 => ⟨.bl _, H, I3, rfl, q.p e (by rw [rk.some_iff k]; exact h.2) (.bool _)⟩
  · exact h.elim
theorem RdD.isNon {K : PySem.W.Frag} {F H : Hp} {v : V} {d : D} (h : RdD K F H d v) : decide (v = .non) = Z3.isNon d := by
  rcases h with h | ⟨a, e, h⟩
  · cases h <;> rfl
  · subst e
    cases d with
    | list _ => rfl
    | dict _ => rfl
    | _ => exact h.elim
theorem od_is : OpR X (compareOp .Is) (rD2 X.K dIs) := by
  intro pins s σ H x y v u Q I rx ry ⟨F, a, b, Q0, e, ha, hb, h, q⟩
  unfold dIs at h
  split at h
  · obtain rfl := hb.non
    exact op_isN pins s σ H x _ v u Q I rx ry ⟨rfl, q.p e (by rw [ha.isNon]; exact h) (.bool _)⟩
  · split at h
    · obtain rfl := hb.bool
      obtain rfl := ha.bool
      exact op_is_bl pins s σ H _ _ v u Q I rx ry ⟨_, _, rfl, rfl, q.p e h (.bool _)⟩
    · exact h.elim
  · exact h.elim
theorem od_isn : OpR X (compareOp .IsNot) (rD2 X.K dIsn) := by
  intro pins s σ H x y v u Q I rx ry ⟨F, a, b, Q0, e, ha, hb, h, q⟩
  unfold dIsn at h
  split at h
  · obtain rfl := hb.non
    exact op_notN pins s σ H x _ v u Q I rx ry ⟨rfl, q.p e (by rw [ha.isNon]; exact h) (.bool _)⟩
  · split at h
    · obtain rfl := hb.bool
      obtain rfl := ha.bool
      exact op_isnot_bl pins s σ H _ _ v u Q I rx ry ⟨_, _, rfl, rfl, q.p e h (.bool _)⟩
    · exact h.elim
  · exact h.elim
end
end Z3

set_option maxRecDepth 100000
set_option maxHeartbeats 4000000
/-! Zi: items, slices, isinstance. -/
namespace Z3
open PySem PySem.Spec PyProof.Rows L2
open Evl (Ex ex_rd ex_l ex_t)

def dIx : G2 := fun a b Q => match a, b with
  | .list ds, .int i => ∃ d, atI ds i = some d ∧ Q (.p d)
  | .tuple ds, .int i => ∃ d, atI ds i = some d ∧ Q (.p d)
  | .dict kvs, k => isKey k ∧ ∃ d, dlook kvs k = some d ∧ Q (.p d)
  | _, _ => False
theorem atI_len {α β : Type} {xs : List α} {ys : List β} {i : Int} {x : α} (h : atI xs i = some x) (l : xs.length = ys.length) : ∃ j : Nat, xs[j]? = some x ∧ ∀ y, ys[j]? = some y → atI ys i = some y := by
  unfold atI at h
  obtain ⟨j, h1, h2⟩ := Option.bind_eq_some_iff.mp h
  refine ⟨j, h2, fun y hy => ?_⟩
  unfold atI
  rw [← l, h1]
  exact hy
theorem Dens.atI {K : PySem.W.Frag} {F : Hp} {ds : List D} {vs : List V} {i : Int} {d : D} (r : Dens K F ds vs) (h : L2.atI ds i = some d) : ∃ v, L2.atI vs i = some v ∧ Den K F d v := by
  obtain ⟨j, h1, h2⟩ := atI_len h r.length
  obtain ⟨v, h3, dn⟩ := r.get h1
  exact ⟨v, h2 v h3, dn⟩
section
variable {X : Cx}
theorem od_ix (hu : X.A.units + 64 < cLine) : IxR X (rD2 X.K dIx) := by
  intro value slice pins s σ H x y v u Q I rx ry ⟨F, a, b, Q0, e, ha, hb, h, q⟩ hs
  unfold dIx at h
  split at h
  · obtain ⟨d, h1, h2⟩ := h
    obtain ⟨p, vs, rfl, hp, r⟩ := ha.lst e
    obtain rfl := hb.int
    obtain ⟨w, hw, dn⟩ := r.atI h1
    exact ix_list value slice pins s σ H _ _ v u Q I rx ry ⟨p, vs, _, w, rfl, rfl, hp, hw, q.p e h2 dn⟩ hs
  · obtain ⟨d, h1, h2⟩ := h
    obtain ⟨p, vs, rfl, hp, r⟩ := ha.tup e
    obtain rfl := hb.int
    obtain ⟨w, hw, dn⟩ := r.atI h1
    exact ix_tup value slice pins s σ H _ _ v u Q I rx ry ⟨p, vs, _, w, rfl, rfl, hp, hw, q.p e h2 dn⟩ hs
  · obtain ⟨ik, d, h1, h2⟩ := h
    obtain ⟨k, rfl⟩ := ik.key
    obtain ⟨p, kv, rfl, hp, r⟩ := ha.dic e
    obtain rfl := hb.key
    obtain rfl : v = .ref p := rx
    rcases r.look k with ⟨n1, _⟩ | ⟨d2, w, n1, n2, dn⟩
    · rw [h1] at n1
      cases n1
    · rw [h1] at n1
      cases n1
      obtain ⟨z, hd, ws, rel, dd⟩ := dk_rd I.hok hp
      obtain ⟨ob, es, ep, ho, he, hdt, _⟩ := id dd
      refine tail_any (ops := [.ref p, u]) (T := "dict") ⟨ob, ho, he.1⟩ PySem.slot_dict_getitem.lookup ?_ hs
      exact d_getItem (by omega) I (.inl ⟨kv, k, hp, rfl, n2.symm⟩) ry fun w' s' I' rw' => ⟨w, H, I', rw', q.p e h2 dn⟩
  · exact h.elim
end

/-! ### slices -/
abbrev EO := SS → (Option Int → Prop) → Prop
def rO (K : PySem.W.Frag) (A : EO) : TO := fun σ H QV => ∃ (F0 H0 F : Hp) (ss : SS) (Q0 : Option Int → Prop), Sat K F0 H0 F H σ ss ∧ A ss Q0 ∧
  ∀ o F' H', Q0 o → GrowX (HX σ ss) F H F' H' → Sat K F0 H0 F' H' σ ss → QV o H'
structure DO' (X : Cx) (e : Option Expr) (A : EO) : Prop where
  po : PO X e (rO X.K A)
def oNone : EO := fun _ Q => Q none
def oSome (A : E) : EO := fun ss Q => A ss fun x => ∃ i, x.get = .int i ∧ Q (some i)
def cutD (ds : List D) (lo hi : Option Int) : List D := (ds.drop (HT.sIx ds.length 0 lo)).take (HT.sIx ds.length ds.length hi - HT.sIx ds.length 0 lo)
def eSl (A : E) (L U : EO) : E := fun ss Q => A ss fun x => L ss fun lo => U ss fun hi => match x.get with
  | .list ds => Q (.f (.list (cutD ds lo hi)))
  | .tuple ds => Q (.p (.tuple (cutD ds lo hi)))
  | _ => False
def eRev (A : E) : E := fun ss Q => A ss fun x => match x.get with
  | .list ds => Q (.f (.list ds.reverse))
  | .tuple ds => Q (.p (.tuple ds.reverse))
  | _ => False
section
variable {X : Cx} {K : PySem.W.Frag} {F F0 H H0 : Hp} {σ : L2.St} {ss : SS} {e : Expr} {A : E} {L U : EO} {lo hi : Option Expr} {pos p2 p1 p3 : Pos}
theorem po_wk {o : Option Expr} {t t' : TO} (h : PO X o t) (w : ∀ σ H Q, t' σ H Q → t σ H Q) : PO X o t' := ⟨fun pins s σ H Q I q => h.run pins s σ H Q I (w σ H Q q)⟩
theorem do_none : DO' X none oNone := ⟨po_wk po_none fun σ H Q ⟨F0, H0, F, ss, Q0, S, h, q⟩ => q none F H h (Grow.refl S.ef).any S⟩
theorem do_some (h : DE X e A) : DO' X (some e) (oSome A) := ⟨po_wk (po_some h.pe) fun σ H Q ⟨F0, H0, F, ss, Q0, S, h, q⟩ => by
  refine rE_bind (C := fun d => ∃ i, d = .int i ∧ Q0 (some i)) S h fun d v F1 H1 c g S1 st => ?_
  obtain ⟨i, rfl, c⟩ := c
  exact ⟨i, st.int S1, q _ F1 H1 c g S1⟩⟩
theorem rO_bind {A : EO} {T : Option Int → Hp → Prop} {C : Option Int → Prop} (S : Sat K F0 H0 F H σ ss) (h : A ss C) (k : ∀ o F' H', C o → GrowX (HX σ ss) F H F' H' → Sat K F0 H0 F' H' σ ss → T o H') : rO K A σ H T :=
  ⟨F0, H0, F, ss, C, S, h, k⟩
theorem Dens.cut {ds : List D} {vs : List V} (r : Dens K F ds vs) (lo hi : Option Int) : Dens K F (cutD ds lo hi) (cutV vs lo hi) := by
  unfold cutD cutV
  rw [r.length]
  exact (r.drop _).take _
theorem Dens.cutWhole {ds : List D} {vs : List V} (r : Dens K F ds vs) (lo hi : Option Int) (h1 : HT.sIx vs.length 0 lo = 0) (h2 : HT.sIx vs.length vs.length hi = vs.length) : cutD ds lo hi = ds := by
  unfold cutD
  rw [r.length, h1, h2, ← r.length]
  simp
theorem sl_any : SlR X (fun x lo hi H Q => (∃ a xs, x = .ref a ∧ SqL X.K H a xs ∧ ∀ p, H p = none → Q (.ref p) (upd H p (.lst (cutV xs lo hi)))) ∨ rSlA X.K x lo hi H Q) := SlR.or sl_list sl_tupA
theorem de_slice (h : DE X e A) (hl : DO' X lo L) (hh : DO' X hi U) : DE X (.Subscript e (.Slice lo hi none p2) pos) (eSl A L U) := by
  refine ⟨pe_wk (pe_slice sl_any h.pe hl.po hh.po) fun σ H Q ⟨F0, H0, F, ss, Q0, S, h, q⟩ => ?_⟩
  refine rE_bind (C := fun d => L ss fun lo => U ss fun hi => match d with
    | .list ds => Q0 (.f (.list (cutD ds lo hi)))
    | .tuple ds => Q0 (.p (.tuple (cutD ds lo hi)))
    | _ => False) S h fun d v F1 H1 c g S1 st => ?_
  refine rO_bind S1 c fun i F2 H2 c g2 S2 => ?_
  refine rO_bind S2 c fun j F3 H3 c g3 S3 => ?_
  have rd := ((st.mono g2.f).mono g3.f).rd S3
  have rt : Ret X.K F3 H3 Q0 Q := Ret.of ((g.andThen S1 g2).andThen S2 g3) S3 q
  split at c
  · obtain ⟨a, vs, rfl, hq, r⟩ := rd.lst S3.ef
    exact .inl ⟨a, vs, rfl, hq, fun p np => rt.lst S3.ef c (r.cut i j) np⟩
  · obtain ⟨a, vs, rfl, hq, r⟩ := rd.tup S3.ef
    refine .inr ⟨a, vs, rfl, hq, fun w => ?_, fun _ p np => rt.tup S3.ef c (r.cut i j) np⟩
    have ed := r.cutWhole i j w.1 w.2
    rw [ed] at c
    exact rt.p S3.ef c rd.tden
  · exact c.elim
theorem back_app {prog : Program} {w : World} {A : Around} {E : Value → Shared → Prop} {t : Shared} {sl : Addr} {u : Tok} {n : Nat} {Q : Int × Int × Nat → Shared → Prop} (hs : t.heap.IsSliceOf sl .none .none (.int (-1) u))
    (fin : Q ((n : Int) - 1, -1, n) t) : wpAny (model prog w) A (Builtin.Slice.sliceApplied (.ref sl) (pure (n : Int))) Q E t := by
  have count : Builtin.Slice.slicePlaces ((n : Int) - 1) (-1) (-1) = n := by
    simp only [Builtin.Slice.slicePlaces, show ¬ (-1 : Int) > 0 by decide, if_false, show (-(-1) : Int) = 1 from rfl, Int.ediv_one]
    split <;> omega
  have fin : Q ((n : Int) - 1, -1, Builtin.Slice.slicePlaces ((n : Int) - 1) (-1) (-1)) t := by rw [count]; exact fin
  have three : ∀ {β : Type} {k : Value × Value × Value → Sem β} {P : β → Shared → Prop}, wpAny (model prog w) A (k (.none, .none, .int (-1) u)) P E t → wpAny (model prog w) A (Builtin.Slice.sliceFields (.ref sl) >>= k) P E t := fun {β k P} q =>
    hs.elim fun _ o => wpAny_bind (wpAny_bind (wpAny_field o.1 o.2.2 (x := .none) rfl (wpAny_bind (wpAny_field o.1 o.2.2 (x := .none) rfl (wpAny_bind (wpAny_field o.1 o.2.2 (x := .int (-1) u) rfl (wpAny_pure q)))))))
  refine three (wpAny_bind (slicePart_int ?_))
  show wpAny _ _ (if ((-1 : Int) == 0) = true then _ else _) _ _ t
  rw [if_neg (by decide)]
  exact wpAny_bind (slicePart_none (wpAny_bind (slicePart_none (wpAny_bind (wpAny_pure (wpAny_pure fin))))))
theorem fm_congr {α β : Type} {f g : α → Option β} : ∀ {l : List α}, (∀ x ∈ l, f x = g x) → l.filterMap f = l.filterMap g
  | [], _ => rfl
  | a :: l, h => by
    rw [List.filterMap_cons, List.filterMap_cons, h a (List.mem_cons_self ..), fm_congr fun x m => h x (List.mem_cons_of_mem _ m)]
theorem back_pick (xs : Array Value) : ((List.range xs.size).filterMap fun (k : Nat) => xs[(((xs.size : Int) - 1) + (k : Int) * (-1)).toNat]?).toArray = xs.toList.reverse.toArray := by
  have e : ∀ k ∈ List.range xs.size, xs[(((xs.size : Int) - 1) + (k : Int) * (-1)).toNat]? = xs[xs.size - 1 - k]? := by
    intro k hk
    have := List.mem_range.mp hk
    have : (((xs.size : Int) - 1) + (k : Int) * (-1)).toNat = xs.size - 1 - k := by omega
    rw [this]
  rw [fm_congr e, ← PySem.W.krv_all xs, ← List.filterMap_reverse, ← PySem.W.krv_range, List.filterMap_map]
  rfl
/-- t[::-1] of a tuple, in the machine -/
theorem tup_back {prog : Program} {w : World} {A : Around} {E : Value → Shared → Prop} {t : Shared} {tp sl : Addr} {us : Array Value} {u : Tok} {Q : Value → Shared → Prop} (ht : IsTup t.heap tp us) (hs : t.heap.IsSliceOf sl .none .none (.int (-1) u)) (room : us.size ≤ sizeLine)
    (fin : Q (.ref t.heap.objs.size) { t with heap := t.heap.push { cls := .type "tuple", data := .seq us.toList.reverse.toArray } }) : wpAny (model prog w) A (getItem (.ref tp) (.ref sl)) Q E t := by
  have small : sizeOk (.seq us.toList.reverse.toArray) := by
    rw [sizeOk, List.size_toArray, List.length_reverse]
    exact room
  have sliced : t.TypeIs (.ref sl) "slice" := hs.elim fun o k => ⟨o, k.1, k.2.1⟩
  rw [getItem]
  refine wpAny_holding (wpAny_bind (wpAny_sequenceKey ht.typeIs (by decide) (wpAny_bind (wpAny_callSpecial?_slot (name := Str.ofString "__getitem__") ht.typeIs PyProof.Rows.slot_tuple_getitem (wpAny_call_entry PyProof.Rows.slot_tuple_getitem ht.typeIs PyProof.Rows.entry_tuple_getitem ?_ (PyProof.Rows.args_tuple_getitem _ _))))))
  refine wpAny_bind (m := Builtin.Tuple.tupleItemsOf (.ref tp)) (PyProof.Rows.tupleItemsOf_ ht (wpAny_bind (wpAny_typeOf sliced ?_)))
  rw [if_pos (by decide)]
  refine wpAny_bind (back_app hs ?_)
  show wpAny _ _ (if (((us.size : Int) - 1) == 0 && (-1 : Int) == 1 && us.size == us.size) = true then _ else _) _ _ t
  rw [if_neg (by rw [show ((-1 : Int) == 1) = false from rfl, Bool.and_false, Bool.false_and]; exact Bool.false_ne_true), back_pick]
  exact wpAny_bind (m := Builtin.Tuple.tupleExact _) (wpAny_newObj_type (wpAny_pure ⟨_, rfl, wpAny_pure fin⟩) small)
def rBack (K : PySem.W.Frag) (te : TE) : TE := fun σ H Q => te σ H fun x H1 => ∃ a xs, x = .ref a ∧
  ((SqL K H1 a xs ∧ ∀ p, H1 p = none → Q (.ref p) (upd H1 p (.lst xs.reverse))) ∨ (SqT K H1 a xs ∧ ∀ p, H1 p = none → Q (.ref p) (upd H1 p (.tup xs.reverse))))
theorem pe_back {e : Expr} {te : TE} {k : Nat} {p1 p2 p3 pos : Pos} (he : PE X e te) : PE X (.Subscript e (.Slice none none (some (.UnaryOp .USub (.Constant (.int 1) k p1) p2)) p3) pos) (rBack X.K te) := by
  have one : PO X (some (.UnaryOp .USub (.Constant (.int 1) k p1) p2)) (tPart (tUn (rU fun i => .int (-i)) (tC (.int 1)))) := po_some (pe_un un_neg pe_int)
  constructor
  intro pins s σ H Q Iv red
  refine Subscript_ (thn (he.run pins s σ H _ Iv red) ?_)
  rintro u t ⟨x, G, Iw, rel, a, xs, rfl, alt⟩
  cases rel
  refine wpAny_Slice ?_
  rw [evalPart_none]
  refine wpAny_pure (wpAny_pure (thn (one.run pins t σ G (fun o G' => o = some (-1) ∧ G' = G) Iw ⟨1, rfl, -1, rfl, rfl, rfl⟩) ?_))
  rintro m r ⟨_, G2, Ix, part, rfl, e2⟩
  rw [e2] at Ix
  have Iy : Inv X pins σ G { r with heap := r.heap.push { cls := .type "slice", data := .fields #[.none, .none, m] } } := Ix.kept (t' := r.toks) fun _ _ => Heap.get?_push_of_some _
  show wpAny (model X.prog X.w) X.A (subscriptTail e (.Slice none none (some (.UnaryOp .USub (.Constant (.int 1) k p1) p2)) p3) (.ref a) (.ref r.heap.objs.size)) (EP X pins σ Q) X.xe { r with heap := r.heap.push { cls := .type "slice", data := .fields #[.none, .none, m] } }
  rcases alt with ⟨sx, go⟩ | ⟨sx, go⟩
  · obtain ⟨us, rx, pl, room⟩ := Iy.list sx
    refine tail_any (ops := [Value.ref a, Value.ref r.heap.objs.size]) pl.isList.typeIs PySem.slot_list_getitem.lookup (wpAny_getItem_list_slice pl.isList (Heap.IsSliceOf.new _ .none .none m) .none .none part (by decide) ?_ (by rw [List.size_toArray, ← rx.length]; exact room)) (by with_unfolding_all rfl)
    rw [PySem.W.krv_pick]
    exact ⟨.ref _, _, Iy.laid (t' := r.toks) (o := .lst xs.reverse) (fun _ _ => Heap.get?_push_of_some _) (Nat.le_refl _) ⟨by rw [List.length_reverse]; exact room, _, 0, rx.reverse, Heap.get?_push_size _ rfl⟩, rfl, go _ (Iy.hok.fresh (Nat.le_refl _))⟩
  · obtain ⟨us, rx, pl, room⟩ := Iy.tuple sx
    cases part with
    | int i tk =>
      refine tail_any (ops := [Value.ref a, Value.ref r.heap.objs.size]) pl.typeIs PyProof.Rows.slot_tuple_getitem.lookup (tup_back pl (Heap.IsSliceOf.new _ .none .none _) (by rw [List.size_toArray, ← rx.length]; exact room) ?_) (by with_unfolding_all rfl)
      exact ⟨.ref _, _, Iy.laid (t' := r.toks) (o := .tup xs.reverse) (fun _ _ => Heap.get?_push_of_some _) (Nat.le_refl _) ⟨by rw [List.length_reverse]; exact room, _, rx.reverse, IsTup.new _ _⟩, rfl, go _ (Iy.hok.fresh (Nat.le_refl _))⟩
theorem de_back {k : Nat} (h : DE X e A) : DE X (.Subscript e (.Slice none none (some (.UnaryOp .USub (.Constant (.int 1) k p1) p2)) p3) pos) (eRev A) := by
  refine ⟨pe_wk (pe_back h.pe) fun σ H Q ⟨F0, H0, F, ss, Q0, S, h, q⟩ => ?_⟩
  refine rE_bind (C := fun d => match d with
    | .list ds => Q0 (.f (.list ds.reverse))
    | .tuple ds => Q0 (.p (.tuple ds.reverse))
    | _ => False) S h fun d v F1 H1 c g S1 st => ?_
  have rd := st.rd S1
  have rt : Ret X.K F1 H1 Q0 Q := Ret.of g S1 q
  split at c
  · obtain ⟨a, vs, rfl, hq, r⟩ := rd.lst S1.ef
    exact ⟨a, vs, rfl, .inl ⟨hq, fun p np => rt.lst S1.ef c r.reverse np⟩⟩
  · obtain ⟨a, vs, rfl, hq, r⟩ := rd.tup S1.ef
    exact ⟨a, vs, rfl, .inr ⟨hq, fun p np => rt.tup S1.ef c r.reverse np⟩⟩
  · exact c.elim
end
end Z3

set_option maxRecDepth 100000
set_option maxHeartbeats 4000000
/-! Zj: calls of built-ins. -/
namespace Z3
open PySem PySem.Spec PyProof.Rows L2
open Evl (Ex ex_rd ex_l ex_t)

section
variable {K : PySem.W.Frag} {F H : Hp} {X : Cx} {pins : List (Addr × Obj)} {σ : L2.St} {s : Shared}
theorem RdDs.one {d : D} {vs : List V} (h : RdDs K F H [d] vs) : ∃ v, vs = [v] ∧ RdD K F H d v := by
  cases h with
  | cons a b => cases b; exact ⟨_, rfl, a⟩
theorem RdDs.two {d e : D} {vs : List V} (h : RdDs K F H [d, e] vs) : ∃ v w, vs = [v, w] ∧ RdD K F H d v ∧ RdD K F H e w := by
  cases h with
  | cons a b =>
    obtain ⟨w, rfl, r⟩ := b.one
    exact ⟨_, w, rfl, a, r⟩
/-- a list or a tuple as it stands in the model -/
theorem RdD.sqR {d : D} {v : V} {u : Value} {ds : List D} (I : Inv X pins σ H s) (e : Ex F H) (h : RdD X.K F H d v) (r : RelV v u) (q : d = .list ds ∨ d = .tuple ds) :
    ∃ a vs its, v = .ref a ∧ u = .ref a ∧ Dens X.K F ds vs ∧ Vals vs its ∧ its.length ≤ sizeLine ∧ ((d = .list ds ∧ s.heap.IsList a its.toArray ∧ SqL X.K H a vs) ∨ (d = .tuple ds ∧ s.heap.IsTuple a its.toArray ∧ SqT X.K H a vs)) := by
  rcases q with rfl | rfl
  · obtain ⟨a, vs, rfl, hq, dn⟩ := h.lst e
    cases r
    obtain ⟨its, rv, pl, hz⟩ := I.list hq
    exact ⟨a, vs, its, rfl, rfl, dn, rv, by rw [← rv.length]; exact hz, .inl ⟨rfl, pl.isList, hq⟩⟩
  · obtain ⟨a, vs, rfl, hq, dn⟩ := h.tup e
    cases r
    obtain ⟨its, rv, pl, hz⟩ := I.tuple hq
    obtain ⟨o, ho, hc, n, hd⟩ := id pl
    exact ⟨a, vs, its, rfl, rfl, dn, rv, by rw [← rv.length]; exact hz, .inr ⟨rfl, ⟨o, ho, hc, n, hd⟩, hq⟩⟩
end

def gLen : GN := fun xs Q => match xs with
  | [.list ds] => Q (.p (.int ds.length))
  | [.tuple ds] => Q (.p (.int ds.length))
  | _ => False
def gAbs : GN := fun xs Q => match xs with
  | [.int i] => Q (.p (.int (if i < 0 then -i else i)))
  | _ => False
def gInt : GN := fun xs Q => match xs with
  | [.int i] => Q (.p (.int i))
  | [.bool k] => Q (.p (.int (if k then 1 else 0)))
  | _ => False
def allInts : List D → Option (List Int)
  | [] => some []
  | .int i :: ds => (allInts ds).map (i :: ·)
  | _ => none
theorem allInts_eq : ∀ {ds : List D} {ns : List Int}, allInts ds = some ns → ds = ns.map .int
  | [], ns, h => by cases h; rfl
  | .int i :: ds, ns, h => by
    unfold allInts at h
    obtain ⟨ms, h1, rfl⟩ := Option.map_eq_some_iff.mp h
    rw [allInts_eq h1]
    rfl
theorem allInts_ints : ∀ ns : List Int, allInts (ns.map .int) = some ns
  | [] => rfl
  | n :: ns => by
    show (allInts (ns.map .int)).map (n :: ·) = _
    rw [allInts_ints ns]
    rfl
def allBools : List D → Option (List Bool)
  | [] => some []
  | .bool i :: ds => (allBools ds).map (i :: ·)
  | _ => none
theorem allBools_eq : ∀ {ds : List D} {ns : List Bool}, allBools ds = some ns → ds = ns.map .bool
  | [], ns, h => by cases h; rfl
  | .bool i :: ds, ns, h => by
    unfold allBools at h
    obtain ⟨ms, h1, rfl⟩ := Option.map_eq_some_iff.mp h
    rw [allBools_eq h1]
    rfl
theorem allBools_bools : ∀ ns : List Bool, allBools (ns.map .bool) = some ns
  | [] => rfl
  | n :: ns => by
    show (allBools (ns.map .bool)).map (n :: ·) = _
    rw [allBools_bools ns]
    rfl
/-- may stand in a sort, a min, a max -/
def OrdD (ds : List D) : Prop := PySem.W.AllAlike ds ∧ (∀ d ∈ ds, d ≠ .none) ∧ PyData.plainAll ds = true ∧ PyData.depthAll ds ≤ 32
def gMin : GN := fun xs Q => match xs with
  | [.list (d :: ds)] => OrdD (d :: ds) ∧ Q (.p (PySem.W.minD d ds))
  | [.tuple (d :: ds)] => OrdD (d :: ds) ∧ Q (.p (PySem.W.minD d ds))
  | [.int i, .int j] => Q (.p (.int (if j < i then j else i)))
  | _ => False
def gMax : GN := fun xs Q => match xs with
  | [.list (d :: ds)] => OrdD (d :: ds) ∧ Q (.p (PySem.W.maxD d ds))
  | [.tuple (d :: ds)] => OrdD (d :: ds) ∧ Q (.p (PySem.W.maxD d ds))
  | [.int i, .int j] => Q (.p (.int (if j > i then j else i)))
  | _ => False
def gList : GN := fun xs Q => match xs with
  | [.list ds] => Q (.f (.list ds))
  | [.tuple ds] => Q (.f (.list ds))
  | _ => False
def gTuple : GN := fun xs Q => match xs with
  | [.list ds] => Q (.p (.tuple ds))
  | [.tuple ds] => Q (.p (.tuple ds))
  | _ => False
def gSum : GN := fun xs Q => match xs with
  | [.list ds] => ∃ ns, allInts ds = some ns ∧ Q (.p (.int ns.sum))
  | _ => False
def gAll : GN := fun xs Q => match xs with
  | [.list ds] => ∃ bs, allBools ds = some bs ∧ Q (.p (.bool (bs.all id)))
  | _ => False
def gAny : GN := fun xs Q => match xs with
  | [.list ds] => ∃ bs, allBools ds = some bs ∧ Q (.p (.bool (bs.any id)))
  | _ => False
def sortD (ds : List D) : List D := ds.mergeSort fun a b => !PySem.W.dataLt b a
def gSorted : GN := fun xs Q => match xs with
  | [.list ds] => OrdD ds ∧ PySem.W.Sortable ds ∧ Q (.f (.list (sortD ds)))
  | [.tuple ds] => OrdD ds ∧ PySem.W.Sortable ds ∧ Q (.f (.list (sortD ds)))
  | _ => False
def gRepr : GN := fun xs Q => match xs with
  | [.bool b] => Q (.p (.str (if b then "True" else "False")))
  | _ => False
section
variable {X : Cx}
theorem oc_len : CallR X (.builtin "len") (rDn X.K gLen) := by
  intro pins s σ H vs us Q I r ⟨F, ds, Q0, e, rd, h, q⟩
  unfold gLen at h
  split at h
  · obtain ⟨v, rfl, rd1⟩ := rd.one
    obtain ⟨a, vs, rfl, hq, dn⟩ := rd1.lst e
    refine call_len_seq pins s σ H _ us Q I r ⟨a, vs, rfl, .inl hq, ?_⟩
    rw [dn.length] at h
    exact q.p e h (.int _)
  · obtain ⟨v, rfl, rd1⟩ := rd.one
    obtain ⟨a, vs, rfl, hq, dn⟩ := rd1.tup e
    refine call_len_seq pins s σ H _ us Q I r ⟨a, vs, rfl, .inr hq, ?_⟩
    rw [dn.length] at h
    exact q.p e h (.int _)
  · exact h.elim
theorem oc_abs : CallR X (.builtin "abs") (rDn X.K gAbs) := by
  intro pins s σ H vs us Q I r ⟨F, ds, Q0, e, rd, h, q⟩
  unfold gAbs at h
  split at h
  · obtain ⟨v, rfl, rd1⟩ := rd.one
    obtain rfl := rd1.int
    exact call_abs pins s σ H _ us Q I r ⟨_, rfl, q.p e h (.int _)⟩
  · exact h.elim
theorem oc_int : CallR X (.type "int") (rDn X.K gInt) := by
  intro pins s σ H vs us Q I r ⟨F, ds, Q0, e, rd, h, q⟩
  unfold gInt at h
  split at h
  · obtain ⟨v, rfl, rd1⟩ := rd.one
    obtain rfl := rd1.int
    exact call_int1 pins s σ H _ us Q I r (.inl ⟨_, rfl, q.p e h (.int _)⟩)
  · obtain ⟨v, rfl, rd1⟩ := rd.one
    obtain rfl := rd1.bool
    exact call_int1 pins s σ H _ us Q I r (.inr ⟨_, rfl, q.p e h (.int _)⟩)
  · exact h.elim
theorem oc_list : CallR X (.type "list") (rDn X.K gList) := by
  intro pins s σ H vs us Q I r ⟨F, ds, Q0, e, rd, h, q⟩
  unfold gList at h
  split at h
  · obtain ⟨v, rfl, rd1⟩ := rd.one
    obtain ⟨a, vs, rfl, hq, dn⟩ := rd1.lst e
    exact call_list_of pins s σ H _ us Q I r ⟨a, vs, rfl, .inl hq, fun l hl => q.lst e h dn hl⟩
  · obtain ⟨v, rfl, rd1⟩ := rd.one
    obtain ⟨a, vs, rfl, hq, dn⟩ := rd1.tup e
    exact call_list_of pins s σ H _ us Q I r ⟨a, vs, rfl, .inr hq, fun l hl => q.lst e h dn hl⟩
  · exact h.elim
theorem oc_tuple : CallR X (.type "tuple") (rDn X.K gTuple) := by
  intro pins s σ H vs us Q I r ⟨F, ds, Q0, e, rd, h, q⟩
  unfold gTuple at h
  split at h
  · obtain ⟨v, rfl, rd1⟩ := rd.one
    obtain ⟨a, vs, rfl, hq, dn⟩ := rd1.lst e
    exact call_tuple_of pins s σ H _ us Q I r ⟨a, vs, rfl, .inl ⟨hq, fun l hl => q.tup e h dn hl⟩⟩
  · obtain ⟨v, rfl, rd1⟩ := rd.one
    obtain ⟨a, vs, rfl, hq, dn⟩ := rd1.tup e
    exact call_tuple_of pins s σ H _ us Q I r ⟨a, vs, rfl, .inr ⟨hq, q.p e h rd1.tden⟩⟩
  · exact h.elim
theorem oc_sum (hc : X.calm = true) : CallR X (.builtin "sum") (rDn X.K gSum) := by
  intro pins s σ H vs us Q I r ⟨F, ds, Q0, e, rd, h, q⟩
  unfold gSum at h
  split at h
  · obtain ⟨ns, hn, h⟩ := h
    obtain rfl := allInts_eq hn
    obtain ⟨v, rfl, rd1⟩ := rd.one
    obtain ⟨a, vs, rfl, hq, dn⟩ := rd1.lst e
    obtain rfl := dn.ints
    exact cr_sum hc pins s σ H _ us Q I r ⟨a, ns, rfl, hq, q.p e h (.int _)⟩
  · exact h.elim
theorem Dens.bools {K : PySem.W.Frag} {H : Hp} : ∀ {ns : List Bool} {vs : List V}, Dens K H (ns.map .bool) vs → vs = ns.map V.bl
  | [], _, h => by cases h; rfl
  | n :: ns, _, h => by
    cases h with
    | cons a b =>
      cases a
      rw [Dens.bools b]
      rfl
theorem oc_all (hc : X.calm = true) : CallR X (.builtin "all") (rDn X.K gAll) := by
  intro pins s σ H vs us Q I r ⟨F, ds, Q0, e, rd, h, q⟩
  unfold gAll at h
  split at h
  · obtain ⟨ns, hn, h⟩ := h
    obtain rfl := allBools_eq hn
    obtain ⟨v, rfl, rd1⟩ := rd.one
    obtain ⟨a, vs, rfl, hq, dn⟩ := rd1.lst e
    obtain rfl := dn.bools
    exact cr_all hc pins s σ H _ us Q I r ⟨a, ns, rfl, hq, q.p e h (.bool _)⟩
  · exact h.elim
theorem oc_any (hc : X.calm = true) : CallR X (.builtin "any") (rDn X.K gAny) := by
  intro pins s σ H vs us Q I r ⟨F, ds, Q0, e, rd, h, q⟩
  unfold gAny at h
  split at h
  · obtain ⟨ns, hn, h⟩ := h
    obtain rfl := allBools_eq hn
    obtain ⟨v, rfl, rd1⟩ := rd.one
    obtain ⟨a, vs, rfl, hq, dn⟩ := rd1.lst e
    obtain rfl := dn.bools
    exact cr_any hc pins s σ H _ us Q I r ⟨a, ns, rfl, hq, q.p e h (.bool _)⟩
  · exact h.elim
theorem oc_repr : CallR X (.builtin "repr") (rDn X.K gRepr) := by
  intro pins s σ H vs us Q I r ⟨F, ds, Q0, e, rd, h, q⟩
  unfold gRepr at h
  split at h
  · obtain ⟨v, rfl, rd1⟩ := rd.one
    obtain rfl := rd1.bool
    obtain ⟨u, rfl, rfl⟩ := vals1 r
    exact PySem.P.repr_of_bool ⟨.str _, H, I.tok _, ⟨_, rfl⟩, q.p e h (.str _)⟩
  · exact h.elim

/-! ### min, max -/
theorem OrdD.aa {ds : List D} (h : OrdD ds) : PySem.W.AlikeAll ds := ⟨fun x hx y hy => h.1 x hx y hy, h.2.1⟩
theorem minD_mem : ∀ (xs : List D) (x : D), PySem.W.minD x xs = x ∨ PySem.W.minD x xs ∈ xs
  | [], x => .inl rfl
  | y :: ys, x => by
    unfold PySem.W.minD
    rw [List.foldl_cons]
    rcases minD_mem ys (if PySem.W.dataLt y x = true then y else x) with h | h
    · unfold PySem.W.minD at h
      rw [h]
      split
      · exact .inr (List.mem_cons_self ..)
      · exact .inl rfl
    · exact .inr (List.mem_cons_of_mem _ h)
theorem maxD_mem : ∀ (xs : List D) (x : D), PySem.W.maxD x xs = x ∨ PySem.W.maxD x xs ∈ xs
  | [], x => .inl rfl
  | y :: ys, x => by
    unfold PySem.W.maxD
    rw [List.foldl_cons]
    rcases maxD_mem ys (if PySem.W.dataLt x y = true then y else x) with h | h
    · unfold PySem.W.maxD at h
      rw [h]
      split
      · exact .inr (List.mem_cons_self ..)
      · exact .inl rfl
    · exact .inr (List.mem_cons_of_mem _ h)
theorem vals_back {xs : List V} {us : List Value} {i : Nat} {u : Value} (r : Vals xs us) (h : us[i]? = some u) : ∃ x, xs[i]? = some x ∧ RelV x u := by
  cases e : xs[i]? with
  | none =>
    rw [r.none_of e] at h
    cases h
  | some x =>
    obtain ⟨w, hw, rw'⟩ := r.get e
    rw [h] at hw
    cases hw
    exact ⟨x, rfl, rw'⟩
/-- the value that was found is one of the values -/
theorem found_one {pins : List (Addr × Obj)} {σ : L2.St} {H : Hp} {s : Shared} {F : Hp} {ds : List D} {vs : List V} {its : List Value} {i : Nat} {v : Value} {m : D} {h' : Heap} {bs : List Addr} (I : Inv X pins σ H s) (e : Ex F H) (dn : Dens X.K F ds vs) (rv : Vals vs its)
    (o : OrdD ds) (mm : m ∈ ds) (hv : its.toArray[i]? = some v) (hr : Reads h' v m bs) (k : ∀ b o, s.heap.get? b = some o → h'.get? b = some o) : ∃ x, RelV x v ∧ Den X.K F m x := by
  rw [List.getElem?_toArray] at hv
  obtain ⟨x, hx, rx⟩ := vals_back rv hv
  obtain ⟨d, hd, dx⟩ := dn.get' hx
  refine ⟨x, rx, ?_⟩
  obtain ⟨as, ra⟩ := Den.reads I d x v (PySem.W.plain_mem o.2.2.1 (List.mem_of_getElem? hd)) (dx.mono e) rx
  have := PySem.W.alike_unique d m v as bs (o.1 d (List.mem_of_getElem? hd) m mm) (PyProof.Rows.Reads.keeps k ra) hr
  rw [← this]
  exact dx
theorem oc_min (hc : X.calm = true) (hu : X.A.units + 64 < cLine) : CallR X (.builtin "min") (rDn X.K gMin) := by
  intro pins s σ H vs us Q I r ⟨F, ds, Q0, e, rd, h, q⟩
  have key : ∀ (d : D) (ds : List D) (x : D), (x = .list (d :: ds) ∨ x = .tuple (d :: ds)) → RdDs X.K F H [x] vs → OrdD (d :: ds) → Q0 (.p (PySem.W.minD d ds)) → wpAny (model X.prog X.w) X.A (call (.builtin "min") us) (EP X pins σ Q) X.xe s := by
    intro d ds x hx rd o h
    obtain ⟨v, rfl, rd1⟩ := rd.one
    obtain ⟨u, rfl, r1⟩ := vals1 r
    obtain ⟨a, vs, its, rfl, rfl, dn, rv, hz, hl⟩ := rd1.sqR I e r1 hx
    obtain ⟨as, ra⟩ := Dens.reads I _ vs its o.2.2.1 (dn.mono e) rv
    have mm : PySem.W.minD d ds ∈ d :: ds := by
      rcases minD_mem ds d with z | z
      · rw [z]
        exact List.mem_cons_self ..
      · exact List.mem_cons_of_mem _ z
    have fin : ∀ (i : Nat) v h' tk bs, its.toArray[i]? = some v → Reads h' v (PySem.W.minD d ds) bs → (∀ b o, s.heap.get? b = some o → h'.get? b = some o) → EP X pins σ Q v { s with heap := h', toks := tk } := fun i v h' tk bs hv hr k => by
      obtain ⟨x, rx, dx⟩ := found_one I e dn rv o mm hv hr k
      exact ⟨x, H, I.kept k, rx, q.p e h dx⟩
    have hd := o.2.2.2
    rcases hl with ⟨_, hl, _⟩ | ⟨_, hl, _⟩
    · exact PySem.W.min_list_data (I.ok.hd hc) hl (by simpa using ra) o.aa (by omega) fin
    · exact PySem.W.min_tuple_data (I.ok.hd hc) hl (by simpa using ra) o.aa (by omega) fin
  unfold gMin at h
  split at h
  · exact key _ _ _ (.inl rfl) rd h.1 h.2
  · exact key _ _ _ (.inr rfl) rd h.1 h.2
  · obtain ⟨v, w, rfl, ra, rb⟩ := rd.two
    obtain rfl := ra.int
    obtain rfl := rb.int
    exact call_min2 hc pins s σ H _ us Q I r ⟨_, _, rfl, q.p e h (.int _)⟩
  · exact h.elim
theorem oc_max (hc : X.calm = true) (hu : X.A.units + 64 < cLine) : CallR X (.builtin "max") (rDn X.K gMax) := by
  intro pins s σ H vs us Q I r ⟨F, ds, Q0, e, rd, h, q⟩
  have key : ∀ (d : D) (ds : List D) (x : D), (x = .list (d :: ds) ∨ x = .tuple (d :: ds)) → RdDs X.K F H [x] vs → OrdD (d :: ds) → Q0 (.p (PySem.W.maxD d ds)) → wpAny (model X.prog X.w) X.A (call (.builtin "max") us) (EP X pins σ Q) X.xe s := by
    intro d ds x hx rd o h
    obtain ⟨v, rfl, rd1⟩ := rd.one
    obtain ⟨u, rfl, r1⟩ := vals1 r
    obtain ⟨a, vs, its, rfl, rfl, dn, rv, hz, hl⟩ := rd1.sqR I e r1 hx
    obtain ⟨as, ra⟩ := Dens.reads I _ vs its o.2.2.1 (dn.mono e) rv
    have mm : PySem.W.maxD d ds ∈ d :: ds := by
      rcases maxD_mem ds d with z | z
      · rw [z]
        exact List.mem_cons_self ..
      · exact List.mem_cons_of_mem _ z
    have fin : ∀ (i : Nat) v h' tk bs, its.toArray[i]? = some v → Reads h' v (PySem.W.maxD d ds) bs → (∀ b o, s.heap.get? b = some o → h'.get? b = some o) → EP X pins σ Q v { s with heap := h', toks := tk } := fun i v h' tk bs hv hr k => by
      obtain ⟨x, rx, dx⟩ := found_one I e dn rv o mm hv hr k
      exact ⟨x, H, I.kept k, rx, q.p e h dx⟩
    have hd := o.2.2.2
    rcases hl with ⟨_, hl, _⟩ | ⟨_, hl, _⟩
    · exact PySem.W.max_list_data (I.ok.hd hc) hl (by simpa using ra) o.aa (by omega) fin
    · exact PySem.W.max_tuple_data (I.ok.hd hc) hl (by simpa using ra) o.aa (by omega) fin
  unfold gMax at h
  split at h
  · exact key _ _ _ (.inl rfl) rd h.1 h.2
  · exact key _ _ _ (.inr rfl) rd h.1 h.2
  · obtain ⟨v, w, rfl, ra, rb⟩ := rd.two
    obtain rfl := ra.int
    obtain rfl := rb.int
    exact call_max2 hc pins s σ H _ us Q I r ⟨_, _, rfl, q.p e h (.int _)⟩
  · exact h.elim

end
/-! ### sorted -/
section
variable {prog : Program} {w : World} {A : Around} {E : Value → Shared → Prop} {s : Shared}
/-- the items of a list or a tuple, gathered in a list of their own -/
theorem gather {l : Addr} {o : Obj} {its : List Value} {n : Nat} {Q : List Value → Shared → Prop} (ho : s.heap.get? l = some o) (hc : o.cls = .type "list" ∨ o.cls = .type "tuple") (hd : o.data = .seq its.toArray n) (room : its.length ≤ sizeLine)
    (fin : Q its { s with heap := (s.heap.push (seqObj "list" #[] 0)).update s.heap.objs.size (Obj.mapSeq (· ++ its.toArray)) }) : wpAny (model prog w) A (collect (.ref l)) Q E s := by
  let own := s.heap.objs.size
  let laid := s.heap.push (seqObj "list" #[] 0)
  have before : laid.get? l = some o := Heap.get?_push_of_some _ ho
  have empty : laid.get? own = some (seqObj "list" #[] 0) := Heap.get?_push_size _ rfl
  have most : ((#[] : Array Value) ++ its.toArray).size ≤ sizeLine + 1 := by
    rw [Array.size_append, List.size_toArray, List.size_toArray, List.length_nil]
    omega
  have joined : ((#[] : Array Value) ++ its.toArray).toList = its := by simp
  -- the walk of list.__iadd__ over the new list and the given one
  have add : ∀ {B : Around} {P : Fin → Shared → Prop} {R : Value → Shared → Prop}, P (.done (.ret (.ref own))) { s with heap := laid.update own (Obj.mapSeq (· ++ its.toArray)) } → wpAny (model prog w) B (Builtin.List.listExtendWith (.ref own) (.ref l) (.ref own)) P R { s with heap := laid } := fun {B P R} q => by
    rw [Builtin.List.listExtendWith]
    rcases hc with hc | hc
    all_goals
      refine wpAny_bind (wpAny_typeOf ⟨o, before, hc⟩ ?_)
      rw [if_pos (by simp)]
      refine wpAny_bind (listItems_at before hd (wpAny_bind (listItems_at empty rfl ?_)))
      rw [if_neg (by simp)]
      exact wpAny_bind (listUpdate_at empty rfl (wpAny_pure q) (Nat.zero_le _) most)
  rw [collect]
  refine wpAny_bind (wpAny_runValue (codeAny_builtin entry_proto_collect' (wpAny_bind (m := newList []) (wpAny_newList (wpAny_pure ⟨Code.quiet_builtin _ (by decide +kernel), codeAny_builtin entry_list_iadd' (add ?_)⟩)))))
  refine wpAny_bind (wpAny_load (get?_update_seq empty _) ?_)
  show wpAny _ _ (pure ((#[] : Array Value) ++ its.toArray).toList) Q E _
  rw [joined]
  exact wpAny_pure fin
/-- sorted of a list or a tuple of alike data -/
theorem sorted_seq {β : Type} {l : Addr} {o : Obj} {its : List Value} {n : Nat} {bs : List β} {enc : β → PyData} {R : Value → β → Prop} {Q : Value → Shared → Prop} (ho : s.heap.get? l = some o) (hc : o.cls = .type "list" ∨ o.cls = .type "tuple") (hd : o.data = .seq its.toArray n)
    (hz : its.length ≤ sizeLine) (e : PySem.W.EachIs R its bs) (er : PySem.W.EachIs (fun v b => ∃ as, Reads s.heap v (enc b) as) its bs) (hal : PySem.W.AllAlike (bs.map enc)) (hk : PySem.W.Sortable (bs.map enc)) (hu : ∀ b, b ∈ bs → A.units + 2 + (enc b).depth < cLine)
    (h : ∀ out, out.length = bs.length → PySem.W.EachIs R out (bs.mergeSort (PySem.W.dataLe false enc)) → Q (.ref (s.heap.objs.size + 1)) { s with heap := sortedAll s.heap its (List.toArray out) }) :
    wpAny (model prog w) A (call (.builtin "sorted") [.ref l]) Q E s := by
  have er' : PySem.W.EachIs (fun v b => ∃ as, Reads (PySem.W.sortingHeap (PySem.W.copyHeap s.heap its) (s.heap.objs.size + 1) its) v (enc b) as) its bs := er.mono fun _ _ ⟨as, r⟩ => ⟨as, PyProof.Rows.Reads.keeps (fun _ _ => PySem.W.sorting_copy_old) r⟩
  have keys := PySem.W.each_map (R := fun v d => ∃ as, Reads (PySem.W.sortingHeap (PySem.W.copyHeap s.heap its) (s.heap.objs.size + 1) its) v d as) enc er'
  have at1 : ((s.heap.push (seqObj "list" #[] 0)).update s.heap.objs.size (Obj.mapSeq (· ++ its.toArray))).objs.size = s.heap.objs.size + 1 := by
    rw [Heap.size_update, size_push']
  refine PyProof.Rows.call_function_entry_kw kind_sorted plain_sorted entry_sorted (args_sorted1 _) ?_
  unfold Builtin.«sorted»
  refine wpAny_bind (m := checkCount "sorted" 1 1 _) (wpAny_pure (wpAny_bind (gather ho hc hd hz (wpAny_bind (wpAny_newList ?_ hz)))))
  show wpAny _ _ _ _ _ { s with heap := PySem.W.copyHeap s.heap its }
  rw [at1]
  refine wpAny_bind (wpAny_holding (wpAny_call_entry_kw slot_list_sort ⟨_, PySem.W.copyHeap_at s.heap its, rfl⟩ entry_list_sort ?_ (args_list_sort _)))
  refine PySem.W.list_sort_vals (s := { s with heap := PySem.W.copyHeap s.heap its }) (PySem.W.copyHeap_at s.heap its)
    (PySem.W.SortsAt.data (s := { s with heap := PySem.W.sortingHeap (PySem.W.copyHeap s.heap its) (s.heap.objs.size + 1) its }) keys hal hk (PySem.W.bound_map hu)) hz ?_
  exact ⟨_, rfl, wpAny_pure ⟨_, rfl, h _ (by rw [PySem.W.sortVals_length false rfl]; exact e.length) (PySem.W.sortVals_data false e er' hal)⟩⟩
end
section
variable {X : Cx} {K : PySem.W.Frag} {F : Hp}
theorem each_both : ∀ {ds : List D} {vs : List V} {its : List Value}, Dens K F ds vs → Vals vs its → PySem.W.EachIs (fun (u : Value) (b : V × D) => RelV b.1 u ∧ Den K F b.2 b.1) its (vs.zip ds)
  | [], _, _, a, r => by cases a; cases r; exact .nil
  | d :: ds, _, _, a, r => by
    cases a with
    | cons a1 a2 =>
      cases r with
      | cons r1 r2 => exact .cons ⟨r1, a1⟩ (each_both a2 r2)
theorem both_out : ∀ {bs : List (V × D)} {its : List Value}, PySem.W.EachIs (fun (u : Value) (b : V × D) => RelV b.1 u ∧ Den K F b.2 b.1) its bs → Vals (bs.map (·.1)) its ∧ Dens K F (bs.map (·.2)) (bs.map (·.1))
  | _, _, .nil => ⟨.nil, .nil⟩
  | _, _, .cons h t => ⟨.cons h.1 (both_out t).1, .cons h.2 (both_out t).2⟩
theorem zip_snd : ∀ {ds : List D} {vs : List V}, ds.length = vs.length → (vs.zip ds).map (·.2) = ds
  | [], vs, _ => by cases vs <;> rfl
  | d :: ds, [], h => by cases h
  | d :: ds, v :: vs, h => by
    show d :: (vs.zip ds).map (·.2) = _
    rw [zip_snd (Nat.succ.inj h)]
theorem depth_mem : ∀ {ds : List D} {d : D}, d ∈ ds → d.depth ≤ PyData.depthAll ds
  | [], _, h => by cases h
  | e :: ds, d, h => by
    rw [PyData.depthAll]
    rcases List.mem_cons.mp h with rfl | h
    · exact Nat.le_max_left _ _
    · exact Nat.le_trans (depth_mem h) (Nat.le_max_right _ _)
theorem reads_all {pins : List (Addr × Obj)} {σ : L2.St} {H : Hp} {s : Shared} (I : Inv X pins σ H s) (e : Ex F H) : ∀ {ds : List D} {vs : List V} {its : List Value}, PyData.plainAll ds = true → Dens X.K F ds vs → Vals vs its →
    PySem.W.EachIs (fun (u : Value) (b : V × D) => ∃ as, Reads s.heap u b.2 as) its (vs.zip ds)
  | [], _, _, _, a, r => by cases a; cases r; exact .nil
  | d :: ds, _, _, p, a, r => by
    rw [PyData.plainAll, Bool.and_eq_true] at p
    cases a with
    | cons a1 a2 =>
      cases r with
      | cons r1 r2 => exact .cons (Den.reads I _ _ _ p.1 (a1.mono e) r1) (reads_all I e p.2 a2 r2)
theorem oc_sorted (hu : X.A.units + 64 < cLine) : CallR X (.builtin "sorted") (rDn X.K gSorted) := by
  intro pins s σ H vs us Q I r ⟨F, ds, Q0, e, rd, h, q⟩
  have key : ∀ (ds : List D) (x : D), (x = .list ds ∨ x = .tuple ds) → RdDs X.K F H [x] vs → OrdD ds → PySem.W.Sortable ds → Q0 (.f (.list (sortD ds))) → wpAny (model X.prog X.w) X.A (call (.builtin "sorted") us) (EP X pins σ Q) X.xe s := by
    intro ds x hx rd o so h
    obtain ⟨v, rfl, rd1⟩ := rd.one
    obtain ⟨u, rfl, r1⟩ := vals1 r
    obtain ⟨a, vs, its, rfl, rfl, dn, rv, hz, hl⟩ := rd1.sqR I e r1 hx
    have e2 := zip_snd dn.length
    have hd := o.2.2.2
    have fin : ∀ out : List Value, out.length = (vs.zip ds).length → PySem.W.EachIs (fun (u : Value) (b : V × D) => RelV b.1 u ∧ Den X.K F b.2 b.1) out ((vs.zip ds).mergeSort (PySem.W.dataLe false (·.2))) →
        EP X pins σ Q (.ref (s.heap.objs.size + 1)) { s with heap := sortedAll s.heap its (List.toArray out) } := fun out ho eo => by
      obtain ⟨v1, d1⟩ := both_out eo
      have e3 : ((vs.zip ds).mergeSort (PySem.W.dataLe false (·.2))).map (·.2) = sortD ds := by
        unfold sortD
        refine (List.map_mergeSort (f := fun b : V × D => b.2) (r := PySem.W.dataLe false (·.2)) (s := fun a b => !PySem.W.dataLt b a) (l := vs.zip ds) (fun a _ b _ => rfl)).trans ?_
        rw [e2]
      rw [e3] at d1
      obtain ⟨ep, he⟩ := PyProof.Rows.sortedAll_at s.heap its (List.toArray out)
      have hlen : (((vs.zip ds).mergeSort (PySem.W.dataLe false (·.2))).map (·.1)).length ≤ sizeLine := by
        rw [v1.length, ho, List.length_zip, rv.length]
        omega
      exact ⟨.ref _, _, I.laid (t' := s.toks) (o := .lst (((vs.zip ds).mergeSort (PySem.W.dataLe false (·.2))).map (·.1))) (fun _ _ => PyProof.Rows.sortedAll_old) (Nat.le_succ _) ⟨hlen, out, ep, v1, he⟩, rfl, q.lst e h d1 (I.hok.fresh (Nat.le_succ _))⟩
    have go : ∀ (ob : Obj) (n : Nat), s.heap.get? a = some ob → (ob.cls = .type "list" ∨ ob.cls = .type "tuple") → ob.data = .seq its.toArray n → wpAny (model X.prog X.w) X.A (call (.builtin "sorted") [.ref a]) (EP X pins σ Q) X.xe s := fun ob n ho hc hdt =>
      sorted_seq ho hc hdt hz (each_both dn rv) (reads_all I e o.2.2.1 dn rv) (by rw [e2]; exact o.1) (by rw [e2]; exact so) (fun b hb => by
        have : b.2 ∈ ds := (List.of_mem_zip hb).2
        have := depth_mem this
        omega) fin
    rcases hl with ⟨_, ⟨ob, ho, hc, n, hdt⟩, _⟩ | ⟨_, ⟨ob, ho, hc, n, hdt⟩, _⟩
    · exact go ob n ho (.inl hc) hdt
    · exact go ob n ho (.inr hc) hdt
  unfold gSorted at h
  split at h
  · exact key _ _ (.inl rfl) rd h.1 h.2.1 h.2.2
  · exact key _ _ (.inr rfl) rd h.1 h.2.1 h.2.2
  · exact h.elim
end
end Z3

set_option maxRecDepth 100000
set_option maxHeartbeats 4000000
/-! Zk: isinstance, list(range(..)), dicts, items changed in place, pops. -/
namespace Z3
open PySem PySem.Spec PyProof.Rows L2
open Evl (Ex ex_rd ex_l ex_t)

/-! ### isinstance -/
def tyD : D → String
  | .none => "NoneType"
  | .bool _ => "bool"
  | .int _ => "int"
  | .str _ => "str"
  | .list _ => "list"
  | .tuple _ => "tuple"
  | .dict _ => "dict"
def isiB (T : String) (d : D) : Bool := (kitB (tyD d) T).getD false
def dIsi (T : String) : G1 := fun d Q => Q (.p (.bool (isiB T d)))
section
variable {X : Cx} {K : PySem.W.Frag} {F H : Hp} {a e : Expr} {A : E} {p pt pos : Pos}
theorem tyx_t {b : Addr} {vs : List V} (h : SqT K H b vs) : TyX K H (.ref b) (.type "tuple") := by
  rcases h with (h | ⟨o, h⟩) | ⟨o, its, n, h1, h2, _⟩
  · exact .base (.tup h)
  · exact .fTuple h
  · exact .kTuple h1 h2
theorem RdD.ty {d : D} {v : V} (e : Ex F H) (h : RdD K F H d v) : TyX K H v (.type (tyD d)) := by
  cases d with
  | none => obtain rfl := h.non; exact .base .non
  | bool b => obtain rfl := h.bool; exact .base (.bl b)
  | int i => obtain rfl := h.int; exact .base (.int i)
  | str x => obtain rfl := h.str; exact .base (.str x)
  | list ds =>
    obtain ⟨b, vs, rfl, hq, _⟩ := h.lst e
    rcases hq with (hq | ⟨o, hq⟩) | ⟨o, its, n, h1, h2, _⟩
    · exact .base (.lst hq)
    · exact .base (.frz hq)
    · exact .kList h1 h2
  | tuple ds =>
    obtain ⟨b, vs, rfl, hq, _⟩ := h.tup e
    exact tyx_t hq
  | dict kvs =>
    obtain ⟨b, vs, rfl, hq, _⟩ := h.dic e
    rcases hq with hq | ⟨o, hq⟩
    · exact .base (.dK hq)
    · exact .fDict hq
theorem de_isi {T : String} {x : Str} (hg : Gl X "isinstance") (hm : X.mg "isinstance" = none) (gT : Gl X x) (mT : X.mg x = none) (bT : bootBuiltins x = some (.type T)) (ha : DE X a A)
    (hk : ∀ d : D, (kitB (tyD d) T).isSome = true := by intro d; cases d <;> kernel_rfl) (nT : x ≠ "__name__" := by decide) (dT : (x == ("__debug__" : Str)) = false := by decide)
    (s1 : starEach [a, .Name x pt] X.env = (false, eval a X.env) :: starEach [.Name x pt] X.env := by rfl) (s2 : starEach [.Name x pt] X.env = (false, eval (.Name x pt) X.env) :: starEach [] X.env := by rfl)
    (hpl : (backTo pos (starEach [.Name x pt] X.env)).any (·.1) = false := by rfl) : DE X (.Call (.Name "isinstance" p) [a, .Name x pt] [] pos) (eOp1 (dIsi T) A) := by
  refine ⟨pe_wk (pe_callB call_isi hg hm boot_isinstance (pa_cons ha.pe (pa_cons (pe_bltn (v := .ty T) gT mT bT rfl nT dT) pa_nil s2) s1) (by decide) (by decide) s1 hpl) fun σ H Q ⟨F0, H0, F, ss, Q0, S, h, q⟩ => ?_⟩
  refine rE_bind (C := fun d => Q0 (.p (.bool (isiB T d)))) S h fun d v F1 H1 c g S1 st => ?_
  have rt : Ret X.K F1 H1 Q0 Q := Ret.of g S1 q
  obtain ⟨b, hb⟩ := Option.isSome_iff_exists.mp (hk d)
  have eb : isiB T d = b := by unfold isiB; rw [hb]; rfl
  rw [eb] at c
  exact ⟨v, .ty T, _, _, b, rfl, .ty T, (st.rd S1).ty S1.ef, kit_ty hb, rt.p S1.ef c (.bool b)⟩
end

/-! ### list(range(..)) -/
def gLRg (L : List D → D) (fr : Bool) : List D → (Val → Prop) → Prop := fun ds Q => Q (if fr then .f (L ds) else .p (L ds))
def eLRg1 (fr : Bool) (A : E) : E := fun ss Q => A ss fun x => ∃ n, x.get = .int n ∧ 0 ≤ n ∧ n ≤ 16777216 ∧ if fr = true then Q (.f (.list (rangeD 0 n.toNat))) else Q (.p (.tuple (rangeD 0 n.toNat)))
theorem rgV_den {K : PySem.W.Frag} {F : Hp} (a b : Int) : Dens K F (rangeD a (b - a).toNat) (rgV a b) := by
  unfold rangeD rgV
  generalize List.range (b - a).toNat = l
  induction l with
  | nil => exact .nil
  | cons i l ih => exact .cons (.int _) ih
section
variable {X : Cx} {e : Expr} {A : E} {p p2 pos pos2 : Pos}
theorem de_listRg (hc : X.calm = true) (hg : Gl X "list") (hm : X.mg "list" = none) (gr : Gl X "range") (mr : X.mg "range" = none) (h : DE X e A)
    (n1 : starEach [e] X.env = (false, eval e X.env) :: starEach [] X.env := by rfl)
    (n2 : starEach [.Call (.Name "range" p2) [e] [] pos2] X.env = (false, eval (.Call (.Name "range" p2) [e] [] pos2) X.env) :: starEach [] X.env := by rfl) :
    DE X (.Call (.Name "list" p) [.Call (.Name "range" p2) [e] [] pos2] [] pos) (eLRg1 true A) := by
  refine ⟨pe_wk (pe_listRg hc hg hm (prg_1 gr mr h.pe n1) n2) fun σ H Q ⟨F0, H0, F, ss, Q0, S, h, q⟩ => ?_⟩
  refine rE_bind (C := fun d => ∃ n, d = .int n ∧ 0 ≤ n ∧ n ≤ 16777216 ∧ Q0 (.f (.list (rangeD 0 n.toNat)))) S h fun d v F1 H1 c g S1 st => ?_
  obtain ⟨n, rfl, h0, h1, c⟩ := c
  have rt : Ret X.K F1 H1 Q0 Q := Ret.of g S1 q
  refine ⟨n, st.int S1, RgOk.of_le (by omega) h1 (by omega) h0, fun l hl => ?_⟩
  have e0 : (n - 0).toNat = n.toNat := by rw [Int.sub_zero]
  exact rt.lst S1.ef c (by rw [← e0]; exact rgV_den 0 n) hl
theorem de_tupRg (hc : X.calm = true) (hg : Gl X "tuple") (hm : X.mg "tuple" = none) (gr : Gl X "range") (mr : X.mg "range" = none) (h : DE X e A)
    (n1 : starEach [e] X.env = (false, eval e X.env) :: starEach [] X.env := by rfl)
    (n2 : starEach [.Call (.Name "range" p2) [e] [] pos2] X.env = (false, eval (.Call (.Name "range" p2) [e] [] pos2) X.env) :: starEach [] X.env := by rfl) :
    DE X (.Call (.Name "tuple" p) [.Call (.Name "range" p2) [e] [] pos2] [] pos) (eLRg1 false A) := by
  refine ⟨pe_wk (pe_tupRg hc hg hm (prg_1 gr mr h.pe n1) n2) fun σ H Q ⟨F0, H0, F, ss, Q0, S, h, q⟩ => ?_⟩
  refine rE_bind (C := fun d => ∃ n, d = .int n ∧ 0 ≤ n ∧ n ≤ 16777216 ∧ Q0 (.p (.tuple (rangeD 0 n.toNat)))) S h fun d v F1 H1 c g S1 st => ?_
  obtain ⟨n, rfl, h0, h1, c⟩ := c
  have rt : Ret X.K F1 H1 Q0 Q := Ret.of g S1 q
  refine ⟨n, st.int S1, RgOk.of_le (by omega) h1 (by omega) h0, fun l hl => ?_⟩
  have e0 : (n - 0).toNat = n.toNat := by rw [Int.sub_zero]
  exact rt.tup S1.ef c (by rw [← e0]; exact rgV_den 0 n) hl
end

/-! ### dicts -/
def putD (kvs : List (D × D)) (k d : D) : List (D × D) := if (kvs.any fun p => keyEq p.1 k) = true then kvs.map (fun p => if keyEq p.1 k = true then (p.1, d) else p) else kvs ++ [(k, d)]
def sPut (j : Nat) (I A : E) : SE := fun M ss => ∃ kvs, ss[j]? = some (.own (.dict kvs)) ∧ A ss fun x => x.fz ∧ I ss fun y => isKey y.get ∧ kvs.length < sizeLine ∧ M.nx (ss.set j (.own (.dict (putD kvs y.get x.get))))
section
variable {X : Cx} {K : PySem.W.Frag} {F F0 F1 H H0 H1 : Hp} {σ : L2.St} {ss : SS} {e : Expr} {A I : E} {pos apos cpos : Pos}
theorem de_dic0 : DE X (.Dict [] [] pos) eDic0 := ⟨pe_wk pe_dnewK fun σ H Q ⟨F0, H0, F, ss, Q0, S, h, q⟩ p np =>
  (Ret.of (K := X.K) (Grow.refl S.ef).any S q).dic S.ef h .nil np⟩
theorem Denk.len : ∀ {kvs : List (D × D)} {kv : List (Key × V)}, Denk K F kvs kv → kvs.length = kv.length
  | _, _, .nil => rfl
  | _, _, .cons _ r => by rw [List.length_cons, List.length_cons, Denk.len r]
theorem Denk.any (k : Key) : ∀ {kvs : List (D × D)} {kv : List (Key × V)}, Denk K F kvs kv → (kvs.any fun p => keyEq p.1 (kD k)) = kv.any fun p => decide (p.1 = k)
  | _, _, .nil => rfl
  | _, _, .cons a r => by rw [List.any_cons, List.any_cons, Denk.any k r, keyEq_kD]
theorem Denk.map {d : D} {v : V} (k : Key) (dv : Den K F d v) : ∀ {kvs : List (D × D)} {kv : List (Key × V)}, Denk K F kvs kv → Denk K F (kvs.map fun p => if keyEq p.1 (kD k) = true then (p.1, d) else p) (kv.map fun p => if p.1 = k then (p.1, v) else p)
  | _, _, .nil => .nil
  | _, _, .cons (k := k') a r => by
    rw [List.map_cons, List.map_cons]
    by_cases h : k' = k
    · rw [if_pos (by rw [keyEq_kD]; exact decide_eq_true h), if_pos h]
      exact .cons dv (Denk.map k dv r)
    · rw [if_neg (by rw [keyEq_kD, decide_eq_false h]; exact Bool.false_ne_true), if_neg h]
      exact .cons a (Denk.map k dv r)
theorem Denk.app : ∀ {kvs ks : List (D × D)} {kv kw : List (Key × V)}, Denk K F kvs kv → Denk K F ks kw → Denk K F (kvs ++ ks) (kv ++ kw)
  | _, _, _, _, .nil, r => r
  | _, _, _, _, .cons a r, q => .cons a (Denk.app r q)
theorem Denk.put {d : D} {v : V} {kvs : List (D × D)} {kv : List (Key × V)} (k : Key) (dv : Den K F d v) (r : Denk K F kvs kv) : Denk K F (putD kvs (kD k) d) (putK kv k v) := by
  unfold putD putK
  rw [r.any k]
  by_cases h : (kv.any fun p => decide (p.1 = k)) = true
  · rw [if_pos h, if_pos h]
    exact r.map k dv
  · rw [if_neg h, if_neg h]
    exact r.app (.cons dv .nil)
theorem Stb.key {k : Key} {v : V} (S : Sat K F0 H0 F H σ ss) (h : Stb K F σ ss (kD k) v) : v = kV k := by
  have := h.rd S
  cases k with
  | inl i => exact this.int
  | inr x => exact this.str
/-- d[k] = e -/
theorem ds_put (hu : X.A.units + 64 < cLine) (j : Nat) {y : Str} {i : Expr} {py tpos : Pos} (hi : DE X i I) (he : DE X e A) (hN : X.N[j]? = some y := by rfl) (hv : Vis X.env.scope y := by first | exact Or.inl rfl | exact Or.inr (Or.inl rfl) | exact Or.inr (Or.inr rfl)) (hd : (y == ("__debug__" : Str)) = false := by decide)
    (hcd : (y == ("__classdict__" : Str)) = false := by decide) (hs : swapsWith e (some (.Subscript (.Name y py) i tpos)) pos.line X.env = pure false := by rfl) : DS X (.Assign [.Subscript (.Name y py) i tpos] e pos) (sPut j I A) := by
  refine ⟨ps_wk (ps_dput (by omega) (pe_var hN hv hd hcd) hi.pe he.pe hs) fun De σ H ⟨F0, H0, F, ss, M, S, ⟨kvs, hj, h⟩, L⟩ => ?_⟩
  refine rE_bindF (C := fun d => I ss fun y => isKey y.get ∧ kvs.length < sizeLine ∧ M.nx (ss.set j (.own (.dict (putD kvs y.get d))))) S h fun d v F1 H1 c g S1 dn => ?_
  obtain ⟨a, e1, _⟩ := S1.own hj
  refine ⟨.ref a, e1, ?_⟩
  refine rE_bind (C := fun y => isKey y ∧ kvs.length < sizeLine ∧ M.nx (ss.set j (.own (.dict (putD kvs y d))))) S1 c fun d2 v2 F2 H2 c2 g2 S2 st2 => ?_
  obtain ⟨ik, hz, c2⟩ := c2
  obtain ⟨k, rfl⟩ := ik.key
  obtain rfl := st2.key S2
  obtain ⟨kv, e3, r3⟩ := S2.own_at hj e1
  refine ⟨a, _, rfl, DPut.k e3 (by rw [← r3.len]; exact hz), ?_⟩
  exact L.nx _ σ F2 _ c2 (g.f.trans g2.f) (S2.mut hj e1 ⟨_, upd_same, r3.put k (dn.mono g2.f)⟩)

/-! ### xs[i] op= e -/
def dIAdd : G2 := fun a b Q => match a, b with
  | .int i, .int j => Q (.p (.int (i + j)))
  | _, _ => False
def dISub : G2 := fun a b Q => match a, b with
  | .int i, .int j => Q (.p (.int (i - j)))
  | _, _ => False
theorem oi_add : PIp X .Add (rD2 X.K dIAdd) := by
  intro pins s σ H x y v u Q I rx ry ⟨F, a, b, Q0, e, ha, hb, h, q⟩
  unfold dIAdd at h
  split at h
  · obtain rfl := ha.int
    obtain rfl := hb.int
    exact ip_add pins s σ H _ _ v u Q I rx ry ⟨_, _, rfl, rfl, q.p e h (.int _)⟩
  · exact h.elim
theorem oi_sub : PIp X .Sub (rD2 X.K dISub) := by
  intro pins s σ H x y v u Q I rx ry ⟨F, a, b, Q0, e, ha, hb, h, q⟩
  unfold dISub at h
  split at h
  · obtain rfl := ha.int
    obtain rfl := hb.int
    exact ip_sub pins s σ H _ _ v u Q I rx ry ⟨_, _, rfl, rfl, q.p e h (.int _)⟩
  · exact h.elim
/-- a list's item, by values -/
def rGetL (K : PySem.W.Frag) : V → V → Hp → VK → Prop := fun o i H Q => ∃ p xs k j z, o = .ref p ∧ i = .int k ∧ H p = some (.lst xs) ∧ ixN xs.length k = some j ∧ xs[j]? = some z ∧ Q z H
theorem get_list : PGet X (rGetL X.K) := by
  intro pins s σ H o i ov iv Q I ro ri ⟨p, xs, k, j, z, eo, ei, hp, hj, hz, q⟩
  subst eo ei
  cases ro
  obtain ⟨t, rfl⟩ := ri
  obtain ⟨its, r, pl, hlen⟩ := I.list (.inl (.inl hp))
  obtain ⟨h1, h2, h3, h4⟩ := ixN_seq hj
  obtain ⟨w, ew, rw'⟩ := r.get hz
  have hl := r.length
  have hn := line63
  have fin : EP X pins σ Q w s := ⟨z, H, I, rw', q⟩
  by_cases h0 : 0 ≤ k
  · have hk : k.toNat = j := by
      rw [seqIndex_of h0 h4] at h1
      exact Option.some.inj h1
    exact wpAny_getItem_list pl.isList h0 (by omega) (by rw [hk]; simpa using ew) fin
  · have hk : (k + (its.toArray.size : Int)).toNat = j := by
      rw [seqIndex_neg (by omega) h3] at h1
      rw [List.size_toArray, ← hl]
      exact Option.some.inj h1
    exact wpAny_getItem_list_neg pl.isList (by omega) (by rw [List.size_toArray, ← hl]; exact h3) (by omega) (by rw [hk]; simpa using ew) fin
theorem ds_augIx (j : Nat) {y : Str} {i : Expr} {op : Operator} {g : G2} {py tpos : Pos} (ho : PIp X op (rD2 X.K g)) (hi : DE X i I) (he : DE X e A) (hN : X.N[j]? = some y := by rfl) (hv : Vis X.env.scope y := by first | exact Or.inl rfl | exact Or.inr (Or.inl rfl) | exact Or.inr (Or.inr rfl))
    (hd : (y == ("__debug__" : Str)) = false := by decide) (hcd : (y == ("__classdict__" : Str)) = false := by decide)
    (ha : ∀ ov iv new, augStore i ov iv new = (do holding [new, ov, iv] (setItem ov iv new); release [new, ov, iv] []; pure .next) := by intros; rfl) : DS X (.AugAssign (.Subscript (.Name y py) i tpos) op e pos) (sAugIx j g I A) := by
  refine ⟨ps_wk (ps_augS (pe_var hN hv hd hcd) hi.pe get_list he.pe ho set_list ha) fun De σ H ⟨F0, H0, F, ss, M, S, ⟨ds, hj, h⟩, L⟩ => ?_⟩
  obtain ⟨a, e1, _⟩ := S.own hj
  refine ⟨.ref a, e1, ?_⟩
  refine rE_bind (C := fun y => ∃ i k d, y = .int i ∧ ixN ds.length i = some k ∧ ds[k]? = some d ∧ A ss fun x => g d x.get fun z => ∃ d', z = .p d' ∧ M.nx (ss.set j (.own (.list (ds.set k d'))))) S h fun d1 v1 F1 H1 c1 g1 S1 st1 => ?_
  obtain ⟨n, k, d, rfl, hk, hd', c1⟩ := c1
  obtain rfl := st1.int S1
  obtain ⟨ws, e3, r3⟩ := S1.own_at hj e1
  obtain ⟨w, hw, dw⟩ := r3.get hd'
  refine ⟨a, ws, n, k, w, rfl, rfl, e3, by rw [← r3.length]; exact hk, hw, ?_⟩
  refine rE_bind (C := fun x => g d x fun z => ∃ d', z = .p d' ∧ M.nx (ss.set j (.own (.list (ds.set k d'))))) S1 c1 fun d2 v2 F2 H2 c2 g2 S2 st2 => ?_
  refine ⟨F2, d, d2, _, S2.ef, .inl (dw.mono g2.f), st2.rd S2, c2, fun val v F3 H3 h0 g3 vd => ?_⟩
  obtain ⟨d', rfl, h0⟩ := h0
  have S3 := S2.grow g3
  obtain ⟨zs, e4, r4⟩ := S3.own_at hj e1
  refine ⟨a, zs, n, k, rfl, rfl, e4, by rw [← r4.length]; exact hk, ?_⟩
  exact L.nx _ σ F3 _ h0 ((g1.f.trans g2.f).trans g3.f) (S3.mut hj e1 ⟨_, upd_same, r4.set vd k⟩)

/-! ### pops -/
theorem ds_appPop (i j : Nat) {x y : Str} {px py apos2 cpos2 : Pos} (hij : i ≠ j) (he : DE X e A) (hN : X.N[i]? = some x := by rfl) (hN2 : X.N[j]? = some y := by rfl)
    (hv : Vis X.env.scope x := by first | exact Or.inl rfl | exact Or.inr (Or.inl rfl) | exact Or.inr (Or.inr rfl)) (hv2 : Vis X.env.scope y := by first | exact Or.inl rfl | exact Or.inr (Or.inl rfl) | exact Or.inr (Or.inr rfl))
    (hd : (x == ("__debug__" : Str)) = false := by decide) (hcd : (x == ("__classdict__" : Str)) = false := by decide) (hd2 : (y == ("__debug__" : Str)) = false := by decide) (hcd2 : (y == ("__classdict__" : Str)) = false := by decide)
    (hbase : attributeBase (.Name x px) "append" X.env (eval (.Name x px) X.env) = eval (.Name x px) X.env := by rfl) (hbase2 : attributeBase (.Name y py) "pop" X.env (eval (.Name y py) X.env) = eval (.Name y py) X.env := by rfl)
    (hfew2 : ((backTo cpos2 (starEach [e] X.env)).all (fun x => !x.1) && (backToKw cpos2 (keywordEach [] X.env)).all (fun x => x.1.isSome)
      && decide (([e] : List Expr).length + ([] : List Keyword).length + (if ([] : List Keyword).isEmpty then 0 else 1) < 30)) = true := by rfl)
    (hfew : ((backTo cpos (starEach [.Call (.Attribute (.Name y py) "pop" apos2) [e] [] cpos2] X.env)).all (fun x => !x.1) && (backToKw cpos (keywordEach [] X.env)).all (fun x => x.1.isSome)
      && decide (([.Call (.Attribute (.Name y py) "pop" apos2) [e] [] cpos2] : List Expr).length + ([] : List Keyword).length + (if ([] : List Keyword).isEmpty then 0 else 1) < 30)) = true := by rfl)
    (hline : (apos.endLine == cpos.line) = true := by rfl) (hline2 : (apos2.endLine == cpos2.line) = true := by rfl) (hs2 : starEach [e] X.env = (false, eval e X.env) :: starEach [] X.env := by rfl)
    (hs : starEach [.Call (.Attribute (.Name y py) "pop" apos2) [e] [] cpos2] X.env = (false, eval (.Call (.Attribute (.Name y py) "pop" apos2) [e] [] cpos2) X.env) :: starEach [] X.env := by rfl)
    (hplain : (backTo cpos (starEach [] X.env)).any (·.1) = false := by rfl) (hplain2 : (backTo cpos2 (starEach [] X.env)).any (·.1) = false := by rfl) :
    DS X (.Expr (.Call (.Attribute (.Name x px) "append" apos) [.Call (.Attribute (.Name y py) "pop" apos2) [e] [] cpos2] [] cpos) pos) (sAppPop i j A) := by
  refine ⟨ps_wk (ps_expr (pe_bm PySem.F.plainAttrs_list PySem.F.slot_list_append PySem.F.type_list_append mt_append (pe_var hN hv hd hcd)
    (pa_cons (pe_bm PySem.F.plainAttrs_list PySem.F.slot_list_pop PySem.F.type_list_pop mt_popAt (pe_var hN2 hv2 hd2 hcd2) (pa_cons he.pe pa_nil hs2) hbase2 hfew2 hline2 hs2 hplain2) pa_nil hs) hbase hfew hline hs hplain) rfl) fun De σ H ⟨F0, H0, F, ss, M, S, ⟨ds, es, _, hi, hj, h⟩, L⟩ => ?_⟩
  obtain ⟨a, e1, vs, e2, r⟩ := S.own hi
  obtain ⟨b, e1b, vsb, e2b, rb⟩ := S.own hj
  refine ⟨.ref a, e1, tyL e2, .ref b, e1b, tyL e2b, ?_⟩
  refine rE_bind (C := fun x => ∃ n k d, x = .int n ∧ 0 ≤ n ∧ n < 2 ^ 63 ∧ k = n.toNat ∧ es[k]? = some d ∧ ds.length < sizeLine ∧ M.nx ((ss.set j (.own (.list (es.eraseIdx k)))).set i (.own (.list (ds ++ [d]))))) S h fun d1 v1 F1 H1 c g S1 st => ?_
  obtain ⟨n, k, d, rfl, h0, h1, rfl, hk, hz, c⟩ := c
  obtain rfl := st.int S1
  obtain ⟨wb, e3b, r3b⟩ := S1.own_at hj e1b
  obtain ⟨w, hw, dw⟩ := r3b.get hk
  have hlt := (List.getElem?_eq_some_iff.mp hw).1
  refine ⟨b, wb, n, n.toNat, w, rfl, rfl, e3b, by omega, h1, seqIndex_of h0 (by omega), hw, ?_⟩
  have S2 := S1.mut hj e1b (o := .lst (wb.eraseIdx n.toNat)) (d' := .list (es.eraseIdx n.toNat)) ⟨_, upd_same, r3b.eraseIdx _⟩
  have hi2 : (ss.set j (.own (.list (es.eraseIdx n.toNat))))[i]? = some (.own (.list ds)) := by rw [List.getElem?_set_ne (Ne.symm hij)]; exact hi
  obtain ⟨wa, e3a, r3a⟩ := S2.own_at hi2 e1
  refine ⟨a, wa, w, rfl, rfl, e3a, by rw [← r3a.length]; exact hz, ?_⟩
  exact L.nx _ σ F1 _ c g.f (S2.mut hi2 e1 ⟨_, upd_same, r3a.append (.cons dw .nil)⟩)
end
end Z3

set_option maxRecDepth 100000
set_option maxHeartbeats 4000000
/-! Zl: defs. -/
namespace Z3
open PySem PySem.Spec PyProof.Rows L2
open Evl (Ex ex_rd ex_l ex_t)

/-! ### a def's entry -/
def slot0 : D → SV
  | .list ds => .r (.list ds)
  | .dict kvs => .r (.dict kvs)
  | d => .p d
def startS (N : List Str) (ds : List D) : SS := ds.map slot0 ++ List.replicate (N.length - ds.length) .any
def startH (h : Addr) (N : List Str) (ds : List D) : SS := .hand h :: (ds.map slot0 ++ List.replicate (N.length - (ds.length + 1)) .any)
def startW (hs : List D) (N : List Str) (ds : List D) : SS := .own (.list hs) :: (ds.map slot0 ++ List.replicate (N.length - (ds.length + 1)) .any)
section
variable {K : PySem.W.Frag} {F0 F H H0 : Hp}
theorem slot0_ok {d : D} {v : V} (h : RdD K F H0 d v) : SVOk K F0 H0 F H (some (some v)) (slot0 d) := by
  cases d with
  | list ds => exact ⟨v, rfl, h⟩
  | dict kvs => exact ⟨v, rfl, h⟩
  | none => obtain rfl := h.non; exact ⟨_, rfl, .none⟩
  | bool b => obtain rfl := h.bool; exact ⟨_, rfl, .bool b⟩
  | int i => obtain rfl := h.int; exact ⟨_, rfl, .int i⟩
  | str x => obtain rfl := h.str; exact ⟨_, rfl, .str x⟩
  | tuple ds => exact ⟨v, rfl, h.tden⟩
theorem slot0_ex (d : D) : (slot0 d).ex = false := by cases d <;> rfl
theorem args_ok (m : Nat) : ∀ {ds : List D} {vs : List V}, RdDs K F H0 ds vs → ∀ (i : Nat) (sv : SV), (ds.map slot0 ++ List.replicate m .any)[i]? = some sv →
    SVOk K F0 H0 F H (vs.map some ++ List.replicate m none)[i]? sv ∧ sv.ex = false
  | [], _, .nil, i, sv, e => by
    have e : (List.replicate m SV.any)[i]? = some sv := e
    rw [List.getElem?_replicate] at e
    split at e
    · cases e
      exact ⟨trivial, rfl⟩
    · cases e
  | d :: ds, _, .cons a b, 0, sv, e => by
    cases e
    exact ⟨slot0_ok a, slot0_ex d⟩
  | d :: ds, _, .cons a b, i + 1, sv, e => args_ok m b i sv e
theorem start_sat {N : List Str} {ds : List D} {vs : List V} (e : Ex F H) (r : RdDs K F H ds vs) : Sat K F H F H (start N vs) (startS N ds) where
  gr := Grow.refl e
  len := by
    unfold L2.start startS
    rw [List.length_append, List.length_append, List.length_map, List.length_map, List.length_replicate, List.length_replicate, r.length]
  ok := fun i sv h => by
    unfold L2.start
    unfold startS at h
    rw [r.length] at h
    exact (args_ok _ r i sv h).1
  dist := fun i j sv sw a n h1 h2 x1 x2 e1 e2 => by
    have := (args_ok (F0 := F) (H := H) _ r i sv (by unfold startS at h1; exact h1)).2
    rw [this] at x1
    cases x1
  one := fun i j a b h1 h2 => by
    have := (args_ok (F0 := F) (H := H) _ r i _ (by unfold startS at h1; exact h1)).2
    cases this
theorem rest_sat {N : List Str} {ds : List D} {vs : List V} {h : Addr} {sv : SV} (e : Ex F H) (hF : F h = none) (r : RdDs K F (msk H h) ds vs) (h0 : SVOk K F (msk H h) F H (some (some (.ref h))) sv) :
    Sat K F (msk H h) F H (start N (.ref h :: vs)) (sv :: (ds.map slot0 ++ List.replicate (N.length - (ds.length + 1)) .any)) where
  gr := ⟨fun a o q _ => by
    by_cases z : a = h
    · rw [z, msk_same] at q
      cases q
    · rw [msk_ne z] at q
      exact q, Ex.refl F, e, fun b hb => .inl hb⟩
  len := by
    unfold L2.start
    simp only [List.length_append, List.length_map, List.length_replicate, List.length_cons, r.length]
    omega
  ok := fun i sw q => by
    cases i with
    | zero =>
      cases q
      exact h0
    | succ i =>
      have q : (ds.map slot0 ++ List.replicate (N.length - (ds.length + 1)) .any)[i]? = some sw := q
      rw [r.length] at q
      exact (args_ok _ r i sw q).1
  dist := fun i j sw sx a n h1 h2 x1 x2 e1 e2 => by
    have no : ∀ {i : Nat} {sw : SV}, (sv :: (ds.map slot0 ++ List.replicate (N.length - (ds.length + 1)) .any))[i]? = some sw → sw.ex = true → i = 0 := fun {i sw} q x => by
      cases i with
      | zero => rfl
      | succ i =>
        have := (args_ok (F0 := F) (H := H) _ r i sw q).2
        rw [this] at x
        cases x
    exact n ((no h1 x1).trans (no h2 x2).symm)
  one := fun i j a b h1 h2 => by
    have no : ∀ {i : Nat} {sw : SV}, (sv :: (ds.map slot0 ++ List.replicate (N.length - (ds.length + 1)) .any))[i]? = some sw → sw.ex = true → i = 0 := fun {i sw} q x => by
      cases i with
      | zero => rfl
      | succ i =>
        have := (args_ok (F0 := F) (H := H) _ r i sw q).2
        rw [this] at x
        cases x
    exact (no h1 rfl).trans (no h2 rfl).symm
end

/-! ### the rules -/
section
variable {Pg : Program} {w : World} {K : PySem.W.Frag} {mg : Str → Option Value} {base : Heap} {x qual : Str} {params : Arguments} {body : List Stmt} {scope : Scope} {f : Addr} {fd : FuncData} {N ps : List Str} {k n : Nat} {P : Sd} {T : SE}
/-- what a def's body does -/
def Walks (Pg : Program) (w : World) (K : PySem.W.Frag) (mg : Str → Option Value) (base : Heap) (N : List Str) (qual : Str) (scope : Scope) (f : Addr) (k : Nat) (body : List Stmt) (T : SE) : Prop :=
  ∀ (cdv : Value) (A : Around) (outer : List Env) (s : Shared) (H : Hp) (E : XK), Room k (A.deeper (envOfC qual scope s.heap.objs.size f cdv)) → DSs (cxOf CX0 Pg w K mg base N qual scope f cdv A outer s H E).nox body T
theorem fn_D (FD : FunD K x qual params body scope [] [] f fd) (S : FnScope N ps scope) (hn : ps.length = n) (hw : Walks Pg w K mg base N qual scope f k body T)
    (hp : ∀ (ds : List D) (Q : D → Prop), ds.length = n → P ds Q → T { nx := fun _ => Q .none, rt := fun d _ => Q d } (startS N ds)) : FnOk Pg w K mg base CX0 (k + 1) f fd ps (SpD K n P) :=
  FD.ok S (fun vs H Q E h => h.1.trans hn.symm) fun cdv A outer s H vs Q E hr ⟨hl, F, ds, Q0, e, r, h, q⟩ => ⟨_, PSs.nox (hw cdv A outer s H E hr).ps,
    F, H, F, startS N ds, _, start_sat e r, hp ds Q0 (r.length.trans hl) h,
    ⟨fun ss' σ' F' H' m x S' => q .none .non F' H' m S'.gr .none, fun _ _ _ _ z => z.elim, fun _ _ _ _ z => z.elim, fun d ss' v σ' F' H' m x S' dn => q d v F' H' m S'.gr dn⟩⟩
theorem gr_msk {F0 H0 F' H' : Hp} {h : Addr} (g : Grow F0 (msk H0 h) F' H') (n : F' h = none) : GrowX (fun a => a = h) F0 H0 F' H' where
  h := fun a o e ne => g.h a o (by rw [msk_ne ne]; exact e) id
  f := g.f
  i := g.i
  n := fun b hb => by
    rcases g.n b hb with q | q
    · exact .inl q
    · by_cases z : b = h
      · rw [z, n] at hb
        exact absurd rfl hb
      · rw [msk_ne z] at q
        exact .inr q
theorem fn_H (FD : FunD K x qual params body scope [] [] f fd) (S : FnScope N ps scope) (hn : ps.length = n + 1) (hw : Walks Pg w K mg base N qual scope f k body T)
    (hp : ∀ (h : Addr) (ds : List D) (Q : D → Prop), ds.length = n → P ds Q → T { nx := fun ss => ss[0]? = some (.hand h) ∧ Q .none, rt := fun d ss => ss[0]? = some (.hand h) ∧ Q d } (startH h N ds)) : FnOk Pg w K mg base CX0 (k + 1) f fd ps (SpH K n P) :=
  FD.ok S (fun vs H Q E ⟨h, rest, F, ds, Q0, e, l, _⟩ => by rw [e, List.length_cons, l, hn]) fun cdv A outer s H vs Q E hr ⟨h, rest, F, ds, Q0, evs, hl, e, hF, hh, r, hP, q⟩ => ⟨_, PSs.nox (hw cdv A outer s H E hr).ps, by
    subst evs
    have fin : ∀ {ss' : SS} {σ' : L2.St} {F' H' : Hp}, ss'[0]? = some (.hand h) → Sat K F (msk H h) F' H' σ' ss' → HandAt K F' H' h ∧ GrowX (fun a => a = h) F H F' H' := fun {ss' σ' F' H'} m S' => by
      obtain ⟨_, h1, h2, _⟩ := S'.ok 0 _ m
      exact ⟨h1, gr_msk S'.gr h2⟩
    exact ⟨F, msk H h, F, startH h N ds, _, rest_sat e hF r ⟨rfl, hh, hF, msk_same⟩, hp h ds Q0 (r.length.trans hl) hP,
      ⟨fun ss' σ' F' H' ⟨m, m2⟩ x S' => q .none .non F' H' m2 (fin m S').2 (fin m S').1 .none, fun _ _ _ _ z => z.elim, fun _ _ _ _ z => z.elim, fun d ss' v σ' F' H' ⟨m, m2⟩ x S' dn => q d v F' H' m2 (fin m S').2 (fin m S').1 dn⟩⟩⟩
end

/-! ### a def that changes the hand itself: slot 0 keeps its address -/
structure LeadsW (h : Addr) (K : PySem.W.Frag) (F0 H0 F : Hp) (M : SEnds) (De : Ends) : Prop where
  nx : ∀ ss' σ' F' H', M.nx ss' → Ex F F' → Sat K F0 H0 F' H' σ' ss' → σ'[0]? = some (some (.ref h)) → De.nx σ' H'
  rt : ∀ d ss' v σ' F' H', M.rt d ss' → Ex F F' → Sat K F0 H0 F' H' σ' ss' → σ'[0]? = some (some (.ref h)) → Den K F' d v → De.rt v H'
theorem LeadsW.ex {h : Addr} {K : PySem.W.Frag} {F0 H0 F F1 : Hp} {M : SEnds} {De : Ends} (L : LeadsW h K F0 H0 F M De) (e : Ex F F1) : LeadsW h K F0 H0 F1 M De :=
  ⟨fun ss σ F' H' m x S => L.nx ss σ F' H' m (e.trans x) S, fun d ss v σ F' H' m x S => L.rt d ss v σ F' H' m (e.trans x) S⟩
def rW (h : Addr) (K : PySem.W.Frag) (T : SE) : TS := fun De σ H => ∃ (F0 H0 F : Hp) (ss : SS) (M : SEnds), Sat K F0 H0 F H σ ss ∧ σ[0]? = some (some (.ref h)) ∧ T M ss ∧ LeadsW h K F0 H0 F M De
structure DW1 (h : Addr) (X : Cx) (st : Stmt) (T : SE) : Prop where
  ps : PS X st (rW h X.K T)
structure DWs (h : Addr) (X : Cx) (st : List Stmt) (T : SE) : Prop where
  ps : PSs X st (rW h X.K T)
section
variable {X : Cx} {K : PySem.W.Frag} {h : Addr} {st : Stmt} {rest : List Stmt} {T U : SE} {A I : E} {C : ET} {e c : Expr} {pos : Pos}
theorem dws_nil : DWs h X [] sNext := ⟨pss_wk pss_nil fun De σ H ⟨F0, H0, F, ss, M, S, z, h, L⟩ => L.nx ss σ F H h (Ex.refl F) S z⟩
theorem dws_cons (h1 : DW1 h X st T) (h2 : DWs h X rest U) : DWs h X (st :: rest) (sSeq T U) :=
  ⟨pss_wk (pss_cons h1.ps h2.ps) fun De σ H ⟨F0, H0, F, ss, M, S, z, h, L⟩ => ⟨F0, H0, F, ss, _, S, z, h, ⟨fun ss σ F' H' m x S z => ⟨F0, H0, F', ss, M, S, z, m, L.ex x⟩, L.rt⟩⟩⟩
theorem dws_one (h1 : DW1 h X st T) : DWs h X [st] T := ⟨pss_one h1.ps⟩
theorem dw1_set {i : Nat} {x : Str} {pos' : Pos} (hN : X.N.Nodup) (hi : X.N[i + 1]? = some x) (hx : Loc X.env.scope x) (he : DE X e A) (hs : swapsWith e (some (.Name x pos')) pos.line X.env = pure false := by rfl)
    (hf : X.fn x = true ∨ X.env.scope.names.lookup x = some .local := by first | exact .inl rfl | exact .inr rfl | assumption) : DW1 h X (.Assign [.Name x pos'] e pos) (sAsg (i + 1) A) :=
  ⟨ps_wk (ps_set hN hi hx he.pe hs hf) fun De σ H ⟨F0, H0, F, ss, M, S, z, h, L⟩ => ⟨F0, H0, F, ss, _, S, h, fun val v F1 H1 h0 g S1 vd => by
    obtain ⟨ss', q, S2⟩ := asg_ok S1 S.hs vd h0
    exact L.nx ss' _ F1 H1 q g.f S2 (by rw [List.getElem?_set_ne (by omega)]; exact z)⟩⟩
theorem dw1_ret (he : DE X e A) : DW1 h X (.Return (some e) pos) (sRet A) :=
  ⟨ps_wk (ps_ret he.pe) fun De σ H ⟨F0, H0, F, ss, M, S, z, h, L⟩ => ⟨F0, H0, F, ss, _, S, h, fun val v F1 H1 h0 g S1 vd => by
    cases val with
    | p d => exact L.rt d ss v σ F1 H1 h0 g.f S1 z vd
    | f d =>
      obtain ⟨F2, g2, e, S2, dn⟩ := settleF S g S1 vd trivial
      exact L.rt d ss v σ F2 H1 h0 g2.f S2 z dn
    | o j d =>
      obtain ⟨e1, e2⟩ := vd
      unfold ret at h0
      rcases e2 with e2 | e2
      · simp only [e2] at h0
        obtain ⟨a, e3, _⟩ := S1.ok j _ e2
        rw [e1] at e3
        cases e3
        obtain ⟨F2, e, S2, dn⟩ := S1.freeze e2 e1
        exact L.rt d _ _ σ F2 H1 h0 (g.f.trans e) S2 z dn
      · simp only [e2] at h0⟩⟩
theorem dw1_if {a b : List Stmt} (hc : DT X c C) (ha : DWs h X a T) (hb : DWs h X b U) : DW1 h X (.If c a b pos) (sIf C T U) :=
  ⟨ps_wk (ps_if hc.pt ha.ps hb.ps) fun De σ H ⟨F0, H0, F, ss, M, S, y, h, L⟩ => rT_bind S h fun k F1 H1 z g S1 =>
    ite_bl z (fun z => ⟨F0, H0, F1, ss, M, S1, y, z, L.ex g.f⟩) fun z => ⟨F0, H0, F1, ss, M, S1, y, z, L.ex g.f⟩⟩
/-- a statement that leaves the slots' values alone -/
theorem dw1_of {t : TS} (hp : PS X st t) (w : ∀ De σ H, (∃ (F0 H0 F : Hp) (ss : SS) (M : SEnds), Sat X.K F0 H0 F H σ ss ∧ T M ss ∧ ∀ ss' F' H', M.nx ss' → Ex F F' → Sat X.K F0 H0 F' H' σ ss' → De.nx σ H') → t De σ H) : DW1 h X st T :=
  ⟨ps_wk hp fun De σ H ⟨F0, H0, F, ss, M, S, z, h, L⟩ => w De σ H ⟨F0, H0, F, ss, M, S, h, fun ss' F' H' m x S' => L.nx ss' σ F' H' m x S' z⟩⟩
theorem dw1_setIx (j : Nat) {y : Str} {i : Expr} {py tpos : Pos} (hi : DE X i I) (he : DE X e A) (hN : X.N[j]? = some y := by rfl) (hv : Vis X.env.scope y := by first | exact Or.inl rfl | exact Or.inr (Or.inl rfl) | exact Or.inr (Or.inr rfl)) (hd : (y == ("__debug__" : Str)) = false := by decide)
    (hcd : (y == ("__classdict__" : Str)) = false := by decide)
    (ha : ∀ v, assign (.Subscript (.Name y py) i tpos) X.env v = (do
      let ov ← holding [v] (eval (.Name y py) X.env)
      let iv ← holding [v, ov] (eval i X.env)
      standAt tpos
      holding [v, ov, iv] (setItem ov iv v)
      release [v, ov, iv] []) := by intro _; rfl)
    (hs : swapsWithSole [.Subscript (.Name y py) i tpos] e pos.line X.env = pure false := by rfl) (hw : swappedStores [.Subscript (.Name y py) i tpos] e X.env = pure none := by rfl)
    (h1 : (assignEach [.Subscript (.Name y py) i tpos] X.env).map (·.2) = [assign (.Subscript (.Name y py) i tpos) X.env] := by rfl) : DW1 h X (.Assign [.Subscript (.Name y py) i tpos] e pos) (sSetIx j I A) := by
  refine dw1_of (ps_asg he.pe (pg_sub (pe_var hN hv hd hcd) hi.pe set_list ha) hs hw h1) fun De σ H ⟨F0, H0, F, ss, M, S, ⟨ds, hj, h⟩, L⟩ => ?_
  refine rE_bindF (C := fun d => I ss fun y => ∃ i k, y.get = .int i ∧ ixN ds.length i = some k ∧ M.nx (ss.set j (.own (.list (ds.set k d))))) S h fun d v F1 H1 c g S1 dn => ?_
  obtain ⟨a, e1, _⟩ := S1.own hj
  refine ⟨.ref a, e1, ?_⟩
  refine rE_bind (C := fun y => ∃ i k, y = .int i ∧ ixN ds.length i = some k ∧ M.nx (ss.set j (.own (.list (ds.set k d))))) S1 c fun d2 v2 F2 H2 c2 g2 S2 st2 => ?_
  obtain ⟨n, k, rfl, hk, c2⟩ := c2
  obtain ⟨ws, e3, r3⟩ := S2.own_at hj e1
  have ev := st2.int S2
  subst ev
  refine ⟨a, ws, n, k, rfl, rfl, e3, by rw [← r3.length]; exact hk, ?_⟩
  exact L _ F2 _ c2 (g.f.trans g2.f) (S2.mut hj e1 ⟨_, upd_same, r3.set (dn.mono g2.f) k⟩)
end
section
variable {Pg : Program} {w : World} {K : PySem.W.Frag} {mg : Str → Option Value} {base : Heap} {x qual : Str} {params : Arguments} {body : List Stmt} {scope : Scope} {f : Addr} {fd : FuncData} {N ps : List Str} {k n : Nat} {P : Sd} {T : SE}
theorem fn_W (FD : FunD K x qual params body scope [] [] f fd) (S : FnScope N ps scope) (hn : ps.length = n + 1)
    (hw : ∀ (h : Addr) (cdv : Value) (A : Around) (outer : List Env) (s : Shared) (H : Hp) (E : XK), Room k (A.deeper (envOfC qual scope s.heap.objs.size f cdv)) → DWs h (cxOf CX0 Pg w K mg base N qual scope f cdv A outer s H E).nox body T)
    (hp : ∀ (hs ds : List D) (Q : D → Prop), HandC hs → ds.length = n → P ds Q → T { nx := fun _ => False, rt := fun d ss => (∃ hs', HandC hs' ∧ ss[0]? = some (.own (.list hs'))) ∧ Q d } (startW hs N ds)) : FnOk Pg w K mg base CX0 (k + 1) f fd ps (SpH K n P) :=
  FD.ok S (fun vs H Q E ⟨h, rest, F, ds, Q0, e, l, _⟩ => by rw [e, List.length_cons, l, hn]) fun cdv A outer s H vs Q E hr ⟨h, rest, F, ds, Q0, evs, hl, e, hF, ⟨hs, hc, lc⟩, r, hP, q⟩ => ⟨_, PSs.nox (hw h cdv A outer s H E hr).ps, by
    subst evs
    refine ⟨F, msk H h, F, startW hs N ds, _, rest_sat e hF r ⟨h, rfl, lc, hF, msk_same⟩, rfl, hp hs ds Q0 hc (r.length.trans hl) hP, ⟨fun _ _ _ _ z => z.elim, fun d ss' v σ' F' H' ⟨⟨hs', hc', m⟩, m2⟩ x S' z dn => ?_⟩⟩
    obtain ⟨a, e1, lc', h2, _⟩ := S'.ok 0 _ m
    rw [z] at e1
    cases e1
    exact q d v F' H' m2 (gr_msk S'.gr h2) ⟨hs', hc', lc'⟩ dn⟩
end
end Z3

set_option maxRecDepth 100000
set_option maxHeartbeats 4000000
/-! Zm: defs by their names; the law's hand made and handed on. -/
namespace Z3
open PySem PySem.Spec PyProof.Rows L2
open Evl (Ex ex_rd ex_l ex_t)

/-- a def of the row's top, by its name -/
def FnAt (K : PySem.W.Frag) (mg : Str → Option Value) (x : Str) (st : Stmt) : Prop := ∃ f fd, FunD K x x (defArgs st) (defBody st) (defScope st) [] [] f fd ∧ mg x = some (.ref f)
/-- .. that keeps a promise -/
def CalS (Pg : Program) (w : World) (K : PySem.W.Frag) (mg : Str → Option Value) (base : Heap) (k : Nat) (x : Str) (sp : Sp) : Prop :=
  ∃ f fd ps, FnOk Pg w K mg base CX0 k f fd ps sp ∧ mg x = some (.ref f) ∧ PySem.W.keepIn K (.ref f) = true ∧ Binds K fd ps []
abbrev CalD (Pg : Program) (w : World) (K : PySem.W.Frag) (mg : Str → Option Value) (base : Heap) (k : Nat) (x : Str) (n : Nat) (P : Sd) : Prop := CalS Pg w K mg base k x (SpD K n P)
abbrev CalH (Pg : Program) (w : World) (K : PySem.W.Frag) (mg : Str → Option Value) (base : Heap) (k : Nat) (x : Str) (n : Nat) (P : Sd) : Prop := CalS Pg w K mg base k x (SpH K n P)
/-- how a def without defaults binds -/
def BindsAll (x : Str) (st : Stmt) (ps : List Str) : Prop := ∀ (kV doc pm : Value) (an : Option Addr) (cdv ct : Value) (us : List Value), us.length = ps.length → bindArgs (PySem.W.fnOf x x (defArgs st) (defBody st) (defScope st) .none kV doc pm an cdv ct) ⟨us, []⟩ = pure (ps.zip us)
section
variable {Pg : Program} {w : World} {K : PySem.W.Frag} {mg : Str → Option Value} {base : Heap} {x : Str} {st : Stmt} {N ps : List Str} {k n : Nat} {P : Sd} {T : SE}
theorem cal_D (F : FnAt K mg x st) (S : FnScope N ps (defScope st)) (hn : ps.length = n) (hb : BindsAll x st ps) (hw : ∀ f, Walks Pg w K mg base N x (defScope st) f k (defBody st) T)
    (hp : ∀ (ds : List D) (Q : D → Prop), ds.length = n → P ds Q → T { nx := fun _ => Q .none, rt := fun d _ => Q d } (startS N ds)) : CalD Pg w K mg base (k + 1) x n P := by
  obtain ⟨f, fd, FD, hm⟩ := F
  exact ⟨f, fd, ps, fn_D FD S hn (hw f) hp, hm, FD.kp, FD.bindsN hb⟩
theorem cal_H (F : FnAt K mg x st) (S : FnScope N ps (defScope st)) (hn : ps.length = n + 1) (hb : BindsAll x st ps) (hw : ∀ f, Walks Pg w K mg base N x (defScope st) f k (defBody st) T)
    (hp : ∀ (h : Addr) (ds : List D) (Q : D → Prop), ds.length = n → P ds Q → T { nx := fun ss => ss[0]? = some (.hand h) ∧ Q .none, rt := fun d ss => ss[0]? = some (.hand h) ∧ Q d } (startH h N ds)) : CalH Pg w K mg base (k + 1) x n P := by
  obtain ⟨f, fd, FD, hm⟩ := F
  exact ⟨f, fd, ps, fn_H FD S hn (hw f) hp, hm, FD.kp, FD.bindsN hb⟩
theorem cal_W (F : FnAt K mg x st) (S : FnScope N ps (defScope st)) (hn : ps.length = n + 1) (hb : BindsAll x st ps)
    (hw : ∀ (f h : Addr) (cdv : Value) (A : Around) (outer : List Env) (s : Shared) (H : Hp) (E : XK), Room k (A.deeper (envOfC x (defScope st) s.heap.objs.size f cdv)) → DWs h (cxOf CX0 Pg w K mg base N x (defScope st) f cdv A outer s H E).nox (defBody st) T)
    (hp : ∀ (hs ds : List D) (Q : D → Prop), HandC hs → ds.length = n → P ds Q → T { nx := fun _ => False, rt := fun d ss => (∃ hs', HandC hs' ∧ ss[0]? = some (.own (.list hs'))) ∧ Q d } (startW hs N ds)) : CalH Pg w K mg base (k + 1) x n P := by
  obtain ⟨f, fd, FD, hm⟩ := F
  exact ⟨f, fd, ps, fn_W FD S hn (hw f) hp, hm, FD.kp, FD.bindsN hb⟩
end
section
variable {X : Cx} {K : PySem.W.Frag} {k j n : Nat} {P : Sd} {x : Str} {p pos : Pos} {e : Expr} {es : List Expr} {A : EA}
theorem de_callC (c : CalD X.prog X.w X.K X.mg X.base k x n P) (hr : Room j X.A) (hg : Gl X x) (ha : DA X (e :: es) A) (hk : k ≤ j := by decide) (hdb : (x == ("__debug__" : Str)) = false := by decide)
    (he : starEach (e :: es) X.env = (false, eval e X.env) :: starEach es X.env := by rfl) (hpl : (backTo pos (starEach es X.env)).any (·.1) = false := by rfl) : DE X (.Call (.Name x p) (e :: es) [] pos) (eCall n P A) := by
  obtain ⟨f, fd, ps, G, hm, kp, hb⟩ := c
  exact de_call G (hr.mono hk) hg hm kp hb ha hdb he hpl
theorem de_callHC {y : Str} {py : Pos} (i : Nat) (c : CalH X.prog X.w X.K X.mg X.base k x n P) (hr : Room j X.A) (hg : Gl X x) (ha : DA X es A) (hk : k ≤ j := by decide) (hN : X.N[i]? = some y := by rfl)
    (hv : Vis X.env.scope y := by first | exact Or.inl rfl | exact Or.inr (Or.inl rfl) | exact Or.inr (Or.inr rfl)) (hd : (y == ("__debug__" : Str)) = false := by decide)
    (hcd : (y == ("__classdict__" : Str)) = false := by decide) (hdb : (x == ("__debug__" : Str)) = false := by decide)
    (he : starEach (.Name y py :: es) X.env = (false, eval (.Name y py) X.env) :: starEach es X.env := by rfl) (hpl : (backTo pos (starEach es X.env)).any (·.1) = false := by rfl) : DE X (.Call (.Name x p) (.Name y py :: es) [] pos) (eCallH i n P A) := by
  obtain ⟨f, fd, ps, G, hm, kp, hb⟩ := c
  exact de_callH i G (hr.mono hk) hg hm kp hb ha hN hv hd hcd hdb he hpl
end

/-! ### the hand made -/
/-- the script is given, a new hand is handed back -/
def SpN (K : PySem.W.Frag) (R : List Int → Prop) : Sp := fun vs H Q _ => ∃ (F : Hp) (ns : List Int) (v : V), vs = [v] ∧ R ns ∧ Ex F H ∧ Den K F (.list (ns.map .int)) v ∧
  ∀ a F' H', Grow F H F' H' → HandAt K F' H' a → F' a = none → H a = none → Q (.ref a) H'
section
variable {Pg : Program} {w : World} {K : PySem.W.Frag} {mg : Str → Option Value} {base : Heap} {x : Str} {st st1 : Stmt} {N : List Str} {k : Nat} {T : SE} {A : E} {e : Expr} {pos : Pos} {R : List Int → Prop}
theorem cal_N {y : Str} (j : Nat) (F : FnAt K mg x st) (S : FnScope N [y] (defScope st)) (hb : BindsAll x st [y]) (hbd : defBody st = [st1, .Return (some e) pos])
    (hw : ∀ (f : Addr) (cdv : Value) (A : Around) (outer : List Env) (s : Shared) (H : Hp) (E : XK), Room k (A.deeper (envOfC x (defScope st) s.heap.objs.size f cdv)) → DS (cxOf CX0 Pg w K mg base N x (defScope st) f cdv A outer s H E).nox st1 T)
    (he : ∀ (f : Addr) (cdv : Value) (Ar : Around) (outer : List Env) (s : Shared) (H : Hp) (E : XK), Room k (Ar.deeper (envOfC x (defScope st) s.heap.objs.size f cdv)) → DE (cxOf CX0 Pg w K mg base N x (defScope st) f cdv Ar outer s H E).nox e A)
    (hp : ∀ ns : List Int, R ns → T { nx := fun ss => A (frz [j] ss) fun val => ∃ hs, val = .f (.list hs) ∧ HandC hs, rt := fun _ _ => False } (.p (.list (ns.map .int)) :: List.replicate (N.length - 1) .any)) : CalS Pg w K mg base (k + 1) x (SpN K R) := by
  obtain ⟨f, fd, FD, hm⟩ := F
  refine ⟨f, fd, [y], FD.ok S (fun vs H Q E ⟨F, ns, v, e, _⟩ => by rw [e]; rfl) fun cdv Ar outer s H vs Q E hr ⟨F, ns, v, ev, hR, ex, dn, q⟩ => ⟨_, PSs.nox (by rw [hbd]; exact pss_cons (hw f cdv Ar outer s H E hr).ps (pss_one (ps_ret (he f cdv Ar outer s H E hr).pe))), ?_⟩, hm, FD.kp, FD.bindsN hb⟩
  subst ev
  have S0 : Sat K F H F H (start N [v]) (.p (.list (ns.map .int)) :: List.replicate (N.length - 1) .any) := by
    have := start_sat (K := K) (N := N) (ds := [.tuple []]) (vs := [v]) (F := F) (H := H) ex
    refine ⟨Grow.refl ex, ?_, fun i sv h => ?_, fun i j sv sw a n h1 h2 x1 x2 e1 e2 => ?_, fun i j a b h1 h2 => ?_⟩
    · unfold L2.start
      simp only [List.length_append, List.length_map, List.length_replicate, List.length_cons, List.length_nil]
      omega
    · cases i with
      | zero =>
        cases h
        exact ⟨v, rfl, dn⟩
      | succ i =>
        have h : (List.replicate (N.length - 1) SV.any)[i]? = some sv := h
        rw [List.getElem?_replicate] at h
        split at h
        · cases h
          trivial
        · cases h
    · cases i with
      | zero =>
        cases h1
        cases x1
      | succ i =>
        have h1 : (List.replicate (N.length - 1) SV.any)[i]? = some sv := h1
        rw [List.getElem?_replicate] at h1
        split at h1
        · cases h1
          cases x1
        · cases h1
    · cases i with
      | zero => cases h1
      | succ i =>
        have h1 : (List.replicate (N.length - 1) SV.any)[i]? = some (.hand a) := h1
        rw [List.getElem?_replicate] at h1
        split at h1
        · cases h1
        · cases h1
  refine ⟨F, H, F, _, _, S0, hp ns hR, ⟨fun ss' σ' F' H' m x S' => ?_, fun _ _ _ _ z => z.elim, fun _ _ _ _ z => z.elim, fun _ _ _ _ _ _ z => z.elim⟩⟩
  obtain ⟨Fz, _, Sz, _⟩ := Sat.frzs [j] F' ss' S'
  refine ⟨F, H, Fz, frz [j] ss', _, Sz, m, fun val v2 F2 H2 h0 g S2 vd => ?_⟩
  obtain ⟨hs, rfl, hc⟩ := h0
  obtain ⟨a, rfl, lc, h1, h2, _⟩ := vd
  have g2 : Grow F H F2 H2 := S2.gr
  exact q a F2 H2 g2 ⟨hs, hc, lc⟩ h1 (by
    cases z : H a with
    | none => rfl
    | some o =>
      rw [S'.gr.ex a o z] at h2
      cases h2)
end
/-- hand = _law_hand(script) -/
def sHand (i j : Nat) (R : List Int → Prop) : SE := fun M ss => ∃ ns : List Int, i ≠ j ∧ i < ss.length ∧ (∀ (l : Nat) (h : Addr), ss[l]? ≠ some (.hand h)) ∧ ss[j]? = some (.p (.list (ns.map .int))) ∧ R ns ∧ ∀ h, M.nx (ss.set i (.hand h))
section
variable {X : Cx} {k m : Nat} {R : List Int → Prop}
theorem ds_hand {i j : Nat} {x y z : Str} {pos pos' p pz cpos : Pos} (c : CalS X.prog X.w X.K X.mg X.base k x (SpN X.K R)) (hr : Room m X.A) (hg : Gl X x) (hN : X.N.Nodup) (hi : X.N[i]? = some y) (hy : Loc X.env.scope y) (hj : X.N[j]? = some z)
    (hk : k ≤ m := by decide) (hv : Vis X.env.scope z := by first | exact Or.inl rfl | exact Or.inr (Or.inl rfl) | exact Or.inr (Or.inr rfl)) (hd : (z == ("__debug__" : Str)) = false := by decide) (hcd : (z == ("__classdict__" : Str)) = false := by decide)
    (hs : swapsWith (.Call (.Name x p) [.Name z pz] [] cpos) (some (.Name y pos')) pos.line X.env = pure false := by rfl) (hf : X.fn y = true ∨ X.env.scope.names.lookup y = some .local := by first | exact .inl rfl | exact .inr rfl | assumption)
    (hdb : (x == ("__debug__" : Str)) = false := by decide) (he : starEach [.Name z pz] X.env = (false, eval (.Name z pz) X.env) :: starEach [] X.env := by rfl) (hpl : (backTo cpos (starEach [] X.env)).any (·.1) = false := by rfl) :
    DS X (.Assign [.Name y pos'] (.Call (.Name x p) [.Name z pz] [] cpos) pos) (sHand i j R) := by
  obtain ⟨f, fd, ps, G, hm, kp, hb⟩ := c
  refine ⟨ps_wk (ps_set hN hi hy (pe_call G (hr.mono hk) hg hm kp hb .nil pass0 (pa_cons (pe_var hj hv hd hcd) pa_nil he) hdb he hpl) hs hf) fun De σ H ⟨F0, H0, F, ss, M, S, ⟨ns, ij, hil, nh, hsj, hR, h⟩, L⟩ => ?_⟩
  obtain ⟨v, e1, dn⟩ := S.ok j _ hsj
  refine ⟨v, e1, ?_⟩
  show SpN X.K R ([v] ++ []) H (fun x H1 => L2.gName i x σ H1 De.nx) E0
  refine ⟨F, ns, v, rfl, hR, S.ef, dn, fun a F' H' g hh nF nH => ?_⟩
  have S1 := S.grow g
  have nH0 : H0 a = none := S.eh.none nH
  have no : ∀ {l : Nat} {sv : SV} {b : Addr}, ss[l]? = some sv → sv.ex = true → σ[l]? = some (some (.ref b)) → b ≠ a := fun {l sv b} h1 h2 h3 z => by
    subst z
    obtain ⟨_, _, o, ho⟩ := S.adr h1 h2 h3
    rw [nH] at ho
    cases ho
  refine L.nx (ss.set i (.hand a)) _ F' H' (h a) g.f ⟨S1.gr, by rw [List.length_set, List.length_set]; exact S.len, fun l sv q => ?_, fun l1 l2 sv sw b ne h1 h2 x1 x2 e1 e2 => ?_, fun l1 l2 b1 b2 h1 h2 => ?_⟩
  · by_cases hl : i = l
    · subst hl
      rw [List.getElem?_set_self hil] at q
      cases q
      rw [List.getElem?_set_self (by rw [← S.len]; exact hil)]
      exact ⟨rfl, hh, nF, nH0⟩
    · rw [List.getElem?_set_ne hl] at q ⊢
      exact S1.ok l sv q
  · by_cases hl1 : i = l1
    · by_cases hl2 : i = l2
      · exact ne (hl1.symm.trans hl2)
      · subst hl1
        rw [List.getElem?_set_self (by rw [← S.len]; exact hil)] at e1
        cases e1
        rw [List.getElem?_set_ne hl2] at h2 e2
        exact no h2 x2 e2 rfl
    · rw [List.getElem?_set_ne hl1] at h1 e1
      by_cases hl2 : i = l2
      · subst hl2
        rw [List.getElem?_set_self (by rw [← S.len]; exact hil)] at e2
        cases e2
        exact no h1 x1 e1 rfl
      · rw [List.getElem?_set_ne hl2] at h2 e2
        exact S.dist l1 l2 sv sw b ne h1 h2 x1 x2 e1 e2
  · have un : ∀ {l : Nat} {b : Addr}, (ss.set i (.hand a))[l]? = some (.hand b) → i = l := fun {l b} q => by
      by_cases hl : i = l
      · exact hl
      · rw [List.getElem?_set_ne hl] at q
        exact absurd q (nh l b)
    exact (un h1).symm.trans (un h2)
end
end Z3

set_option maxRecDepth 100000
set_option maxHeartbeats 4000000
/-! Zn: plain lemmas over the readings. -/
namespace Z3
open PySem PySem.Spec PyProof.Rows L2
open Evl (Ex ex_rd ex_l ex_t)

theorem isi_int_int (i : Int) : isiB "int" (.int i) = true := by kernel_rfl
theorem isi_bool_int (i : Int) : isiB "bool" (.int i) = false := by kernel_rfl
theorem isi_tup_tup (ds : List D) : isiB "tuple" (.tuple ds) = true := by kernel_rfl
theorem isi_list_list (ds : List D) : isiB "list" (.list ds) = true := by kernel_rfl
theorem isi_str_str (x : Str) : isiB "str" (.str x) = true := by kernel_rfl
theorem isi_dict_dict (x : List (D × D)) : isiB "dict" (.dict x) = true := by kernel_rfl

/-! ### comprehensions -/
/-- a turn at d gives o (nothing where the test fails) -/
def Step (G : GT) (T : ET) (A : E) (s0 : SS) (d : D) (o : Option D) : Prop := ∀ (acc : List D) (k : List D → Prop), acc.length < sizeLine → k (acc ++ o.toList) →
  G d s0 fun s => T s fun b => if b = true then A s fun x => x.fz ∧ acc.length < sizeLine ∧ k (acc ++ [x.get]) else k acc
theorem lcK_run {G : GT} {T : ET} {A : E} {s0 : SS} (f : D → Option D) : ∀ {ds acc : List D} {Q : List D → Prop}, (∀ d ∈ ds, Step G T A s0 d (f d)) → acc.length + ds.length ≤ sizeLine → Q (acc ++ ds.filterMap f) → lcK G T A s0 ds acc Q
  | [], acc, Q, _, _, q => by
    rw [List.filterMap_nil, List.append_nil] at q
    exact q
  | d :: ds, acc, Q, h, hz, q => by
    refine h d (List.mem_cons_self ..) acc (fun a => lcK G T A s0 ds a Q) (by rw [List.length_cons] at hz; omega) (lcK_run f (fun e m => h e (List.mem_cons_of_mem _ m)) ?_ ?_)
    · rw [List.length_append]
      rw [List.length_cons] at hz
      have : (f d).toList.length ≤ 1 := by cases f d <;> simp
      omega
    · rw [List.append_assoc]
      rw [List.filterMap_cons] at q
      cases e : f d with
      | none =>
        rw [e] at q
        exact q
      | some y =>
        rw [e] at q
        exact q
/-- a turn's results, each of which is as R says -/
def StepR (G : GT) (T : ET) (A : E) (s0 : SS) (d : D) (R : D → Prop) : Prop := ∀ (acc : List D) (k : List D → Prop), acc.length < sizeLine → (∀ y, R y → k (acc ++ [y])) →
  G d s0 fun s => T s fun b => if b = true then A s fun x => x.fz ∧ acc.length < sizeLine ∧ k (acc ++ [x.get]) else k acc
/-- one result for each item -/
inductive Each (R : D → D → Prop) : List D → List D → Prop
  | nil : Each R [] []
  | cons {d y : D} {ds ys : List D} : R d y → Each R ds ys → Each R (d :: ds) (y :: ys)
theorem lcK_each {G : GT} {T : ET} {A : E} {s0 : SS} (R : D → D → Prop) : ∀ {ds acc : List D} {Q : List D → Prop}, (∀ d ∈ ds, StepR G T A s0 d (R d)) → acc.length + ds.length ≤ sizeLine → (∀ out, Each R ds out → Q (acc ++ out)) → lcK G T A s0 ds acc Q
  | [], acc, Q, _, _, q => by
    have := q [] .nil
    rw [List.append_nil] at this
    exact this
  | d :: ds, acc, Q, h, hz, q => by
    refine h d (List.mem_cons_self ..) acc (fun a => lcK G T A s0 ds a Q) (by rw [List.length_cons] at hz; omega) fun y hy => lcK_each R (fun e m => h e (List.mem_cons_of_mem _ m)) ?_ fun out ho => ?_
    · rw [List.length_append]
      rw [List.length_cons] at hz
      show acc.length + 1 + ds.length ≤ _
      omega
    · rw [List.append_assoc]
      exact q (y :: out) (.cons hy ho)
theorem Each.length {R : D → D → Prop} : ∀ {ds ys : List D}, Each R ds ys → ds.length = ys.length
  | _, _, .nil => rfl
  | _, _, .cons _ r => by rw [List.length_cons, List.length_cons, Each.length r]
def nhC (vs : List Nat) (ss : SS) : Bool := vs.all fun i => match ss[i]? with
  | some (.hand _) => false
  | _ => true
theorem nh {vs : List Nat} {ss : SS} (h : nhC vs ss = true) : ∀ i ∈ vs, ∀ b, ss[i]? ≠ some (.hand b) := fun i hi b e => by
  have := List.all_eq_true.mp h i hi
  rw [e] at this
  cases this
/-- all items give true -/
theorem all_true {f : D → Option D} : ∀ {ds : List D}, (∀ d ∈ ds, f d = some (.bool true)) → ∃ bs, allBools (ds.filterMap f) = some bs ∧ bs.all id = true
  | [], _ => ⟨[], rfl, rfl⟩
  | d :: ds, h => by
    obtain ⟨bs, e, a⟩ := all_true (ds := ds) fun e m => h e (List.mem_cons_of_mem _ m)
    refine ⟨true :: bs, ?_, a⟩
    rw [List.filterMap_cons, h d (List.mem_cons_self ..)]
    show (allBools (ds.filterMap f)).map (true :: ·) = _
    rw [e]
    rfl
theorem rangeD_len (a : Int) (n : Nat) : (rangeD a n).length = n := by unfold rangeD; rw [List.length_map, List.length_range]
def rangeI (n : Nat) : List Int := (List.range n).map fun (i : Nat) => (i : Int)
theorem rangeD_eq (n : Nat) : rangeD 0 n = (rangeI n).map .int := by
  unfold rangeD rangeI
  rw [List.map_map]
  apply List.map_congr_left
  intro i _
  show PyData.int (0 + (i : Int)) = .int (i : Int)
  rw [Int.zero_add]
theorem mem_rangeI {n : Nat} {i : Int} : i ∈ rangeI n ↔ 0 ≤ i ∧ i < n := by
  unfold rangeI
  rw [List.mem_map]
  constructor
  · rintro ⟨j, hj, rfl⟩
    have := List.mem_range.mp hj
    omega
  · rintro ⟨h0, h1⟩
    exact ⟨i.toNat, List.mem_range.mpr (by omega), by omega⟩

/-! ### data: alike, plain, deep -/
section
open PySem.W
theorem plain_ints : ∀ ns : List Int, PyData.plainAll (ns.map .int) = true
  | [] => rfl
  | n :: ns => by
    rw [List.map_cons, PyData.plainAll, plain_ints ns]
    rfl
theorem depth_ints : ∀ ns : List Int, PyData.depthAll (ns.map .int) = 0
  | [] => rfl
  | n :: ns => by
    rw [List.map_cons, PyData.depthAll, depth_ints ns]
    rfl
theorem ord_ints (ns : List Int) : OrdD (ns.map .int) := by
  refine ⟨fun d hd e he => ?_, fun d hd => ?_, plain_ints ns, by rw [depth_ints]; omega⟩
  · obtain ⟨i, _, rfl⟩ := List.mem_map.mp hd
    obtain ⟨j, _, rfl⟩ := List.mem_map.mp he
    simp only [alike]
  · obtain ⟨i, _, rfl⟩ := List.mem_map.mp hd
    exact fun z => nomatch z
theorem sortable_ints (ns : List Int) : Sortable (ns.map .int) := .inr fun d hd => by
  obtain ⟨i, _, rfl⟩ := List.mem_map.mp hd
  exact ⟨PyData.noConfusion, fun xs => PyData.noConfusion⟩
def sortI (ns : List Int) : List Int := ns.mergeSort fun a b => decide (a ≤ b)
theorem sortD_ints (ns : List Int) : sortD (ns.map .int) = (sortI ns).map .int := by
  unfold sortD sortI
  refine (List.map_mergeSort (f := PyData.int) (r := fun a b => decide (a ≤ b)) (s := fun a b => !dataLt b a) (l := ns) (fun a _ b _ => ?_)).symm
  rw [dataLt_int]
  by_cases h : b < a
  · rw [decide_eq_true h, decide_eq_false (by omega)]
    rfl
  · rw [decide_eq_false h, decide_eq_true (by omega)]
    rfl
theorem sortI_perm (ns : List Int) : (sortI ns).Perm ns := List.mergeSort_perm ..
theorem sortI_sorted (ns : List Int) : (sortI ns).Pairwise (· ≤ ·) := by
  have := List.pairwise_mergeSort (le := fun a b : Int => decide (a ≤ b)) (fun a b c h1 h2 => by
    have := of_decide_eq_true h1
    have := of_decide_eq_true h2
    exact decide_eq_true (by omega)) (fun a b => by
    by_cases h : a ≤ b
    · rw [decide_eq_true h, Bool.true_or]
    · rw [decide_eq_true (show b ≤ a by omega), Bool.or_true]) ns
  exact this.imp fun h => of_decide_eq_true h
theorem sorted_unique : ∀ {xs ys : List Int}, xs.Perm ys → xs.Pairwise (· ≤ ·) → ys.Pairwise (· ≤ ·) → xs = ys := fun {xs ys} p a b =>
  List.Perm.eq_of_pairwise (le := (· ≤ ·)) (fun x y _ _ h1 h2 => Int.le_antisymm h1 h2) a b p
theorem rangeI_sorted (n : Nat) : (rangeI n).Pairwise (· ≤ ·) := by
  unfold rangeI
  rw [List.pairwise_map]
  exact List.pairwise_lt_range.imp fun h => by omega
theorem sortI_range {ns : List Int} {n : Nat} (p : ns.Perm (rangeI n)) : sortI ns = rangeI n := sorted_unique ((sortI_perm ns).trans p) (sortI_sorted ns) (rangeI_sorted n)
theorem eqv_ints : ∀ xs ys : List Int, PyData.eqvAll (xs.map .int) (ys.map .int) = decide (xs = ys)
  | [], [] => rfl
  | [], y :: ys => rfl
  | x :: xs, [] => rfl
  | x :: xs, y :: ys => by
    rw [List.map_cons, List.map_cons, PyData.eqvAll, eqv_ints xs ys, PyData.eqv]
    by_cases h : x = y <;> by_cases h2 : xs = ys <;> simp [h, h2]
end
end Z3

set_option maxRecDepth 100000
set_option maxHeartbeats 4000000
/-! Zo: the law's def. -/
namespace Z3
open PySem PySem.Spec PyProof.Rows L2
open Evl (Ex ex_rd ex_l ex_t)

section
variable {K : PySem.W.Frag} {F H : Hp}
theorem p1_sat {N : List Str} {d : D} {v : V} (ex : Ex F H) (dn : Den K F d v) : Sat K F H F H (start N [v]) (.p d :: List.replicate (N.length - 1) .any) := by
  have rest : ∀ (i : Nat) (sv : SV), (List.replicate (N.length - 1) SV.any)[i]? = some sv → sv = .any := fun i sv h => by
    rw [List.getElem?_replicate] at h
    split at h
    · cases h
      rfl
    · cases h
  refine ⟨Grow.refl ex, ?_, fun i sv h => ?_, fun i j sv sw a n h1 h2 x1 x2 e1 e2 => ?_, fun i j a b h1 h2 => ?_⟩
  · unfold L2.start
    simp only [List.length_append, List.length_map, List.length_replicate, List.length_cons, List.length_nil]
    omega
  · cases i with
    | zero =>
      cases h
      exact ⟨v, rfl, dn⟩
    | succ i =>
      rw [rest i sv h]
      trivial
  · cases i with
    | zero =>
      cases h1
      cases x1
    | succ i =>
      rw [rest i sv h1] at x1
      cases x1
  · cases i with
    | zero => cases h1
    | succ i =>
      have := rest i _ h1
      cases this
end
/-- what the law's def promises -/
def SpL (K : PySem.W.Frag) : Sp := fun vs H Q _ => ∃ (a : Addr) (ns : List Int), vs = [.ref a] ∧ ns.length ≤ 63 ∧ SqL K H a (ns.map V.int) ∧ ∀ H', Q (.bl true) H'
theorem fn_L {Pg : Program} {w : World} {K : PySem.W.Frag} {mg : Str → Option Value} {base : Heap} {x qual y : Str} {params : Arguments} {body : List Stmt} {scope : Scope} {f : Addr} {fd : FuncData} {N : List Str} {k : Nat} {T : SE}
    (FD : FunD K x qual params body scope [] [] f fd) (S : FnScope N [y] scope) (hw : Walks Pg w K mg base N qual scope f k body T)
    (hp : ∀ ns : List Int, ns.length ≤ 63 → T { nx := fun _ => False, rt := fun d _ => d = .bool true } (.p (.list (ns.map .int)) :: List.replicate (N.length - 1) .any)) : FnOk Pg w K mg base CX0 (k + 1) f fd [y] (SpL K) :=
  FD.ok S (fun vs H Q E ⟨a, ns, e, _⟩ => by rw [e]; rfl) fun cdv A outer s H vs Q E hr ⟨a, ns, ev, hl, hS, q⟩ => ⟨_, PSs.nox (hw cdv A outer s H E hr).ps, by
    subst ev
    exact ⟨H, H, H, _, _, p1_sat (Ex.refl H) (.list hS (Dens.of_ints ns)), hp ns hl, ⟨fun _ _ _ _ z => z.elim, fun _ _ _ _ z => z.elim, fun _ _ _ _ z => z.elim, fun d ss' v σ' F' H' m x S' dn => by
      subst m
      cases dn
      exact q H'⟩⟩⟩
end Z3

set_option maxRecDepth 100000
set_option maxHeartbeats 0
namespace Gk01
open PySem PySem.Spec PyProof.Rows L2 Z3
def top (i : Nat) : Stmt := PySem.Challenge.pw_kitchenhall_k01_whole_two_stations_turne.main.body.getD i (.Pass ⟨0, 0, 0, 0⟩)
abbrev s_is_integer : Stmt := top 1
abbrev s_is_within : Stmt := top 2
abbrev s_is_sized : Stmt := top 3
abbrev s_are_rising : Stmt := top 4
abbrev s_is_lot : Stmt := top 5
abbrev s_is_order : Stmt := top 6
abbrev s_all_lots : Stmt := top 7
abbrev s_all_orders : Stmt := top 8
abbrev s_are_minutes : Stmt := top 26
abbrev s_are_twos : Stmt := top 27
abbrev s_check_twos : Stmt := top 28
abbrev s_check_two_order : Stmt := top 29
abbrev s_raw_ends : Stmt := top 30
abbrev s_raw_end : Stmt := top 31
abbrev s_end_by : Stmt := top 32
abbrev s_check_side : Stmt := top 33
abbrev s_raw_paper_worth : Stmt := top 34
abbrev s_paper_worth : Stmt := top 35
abbrev s_papers_above : Stmt := top 36
abbrev s_check_two_minute : Stmt := top 37
abbrev s_twos_told : Stmt := top 38
abbrev s_rule_order : Stmt := top 39
abbrev s_rule_of_twos : Stmt := top 40
abbrev s_least_end : Stmt := top 41
abbrev s_best_two_orders : Stmt := top 42
abbrev s_raw_barring : Stmt := top 43
abbrev s_end_without_place : Stmt := top 44
abbrev s_end_at_once : Stmt := top 45
abbrev s_least_at_once : Stmt := top 46
abbrev s_check_threes : Stmt := top 47
abbrev s_raw_threes : Stmt := top 48
abbrev s_end_of_threes : Stmt := top 49
abbrev s_least_of_threes : Stmt := top 50
abbrev s_is_middle_light : Stmt := top 51
abbrev s_law_hand : Stmt := top 53
abbrev s_law_draw : Stmt := top 54
abbrev s_law_any : Stmt := top 55
abbrev s_law_mixed : Stmt := top 56
abbrev s_law_end : Stmt := top 57
abbrev s_law_at_once : Stmt := top 58
abbrev s_law_is_right : Stmt := top 59
abbrev s_law_are_threes_right : Stmt := top 60
abbrev s_law : Stmt := top 61
theorem bb_abs : bootBuiltins "abs" = some (.builtin "abs") := by kernel_rfl
theorem bb_all : bootBuiltins "all" = some (.builtin "all") := by kernel_rfl
theorem bt_bool : bootBuiltins "bool" = some (.type "bool") := by kernel_rfl
theorem bt_enumerate : bootBuiltins "enumerate" = some (.type "enumerate") := by kernel_rfl
theorem bt_int : bootBuiltins "int" = some (.type "int") := by kernel_rfl
theorem bb_isinstance : bootBuiltins "isinstance" = some (.builtin "isinstance") := by kernel_rfl
theorem bb_len : bootBuiltins "len" = some (.builtin "len") := by kernel_rfl
theorem bt_list : bootBuiltins "list" = some (.type "list") := by kernel_rfl
theorem bb_max : bootBuiltins "max" = some (.builtin "max") := by kernel_rfl
theorem bb_min : bootBuiltins "min" = some (.builtin "min") := by kernel_rfl
theorem bt_range : bootBuiltins "range" = some (.type "range") := by kernel_rfl
theorem bb_repr : bootBuiltins "repr" = some (.builtin "repr") := by kernel_rfl
theorem bb_sorted : bootBuiltins "sorted" = some (.builtin "sorted") := by kernel_rfl
theorem bt_str : bootBuiltins "str" = some (.type "str") := by kernel_rfl
theorem bb_sum : bootBuiltins "sum" = some (.builtin "sum") := by kernel_rfl
theorem bt_tuple : bootBuiltins "tuple" = some (.type "tuple") := by kernel_rfl
theorem bt_zip : bootBuiltins "zip" = some (.type "zip") := by kernel_rfl
structure Nm (K : PySem.W.Frag) (mg : PySem.Str → Option Value) : Prop where
  b_abs : mg "abs" = none
  b_all : mg "all" = none
  b_bool : mg "bool" = none
  b_enumerate : mg "enumerate" = none
  b_int : mg "int" = none
  b_isinstance : mg "isinstance" = none
  b_len : mg "len" = none
  b_list : mg "list" = none
  b_max : mg "max" = none
  b_min : mg "min" = none
  b_range : mg "range" = none
  b_repr : mg "repr" = none
  b_sorted : mg "sorted" = none
  b_str : mg "str" = none
  b_sum : mg "sum" = none
  b_tuple : mg "tuple" = none
  b_zip : mg "zip" = none
  c_MOST_TWOS : ∃ t, mg "MOST_TWOS" = some (.int 7 t)
  c_MOST_STATION_MINUTES : ∃ t, mg "MOST_STATION_MINUTES" = some (.int 60 t)
  c_MOST_BY : ∃ t, mg "MOST_BY" = some (.int 2000 t)
  c_MOST_THREES : ∃ t, mg "MOST_THREES" = some (.int 6 t)
  c_FIRST_SIDE : ∃ t, mg "FIRST_SIDE" = some (.str "first" t)
  c_LAST_SIDE : ∃ t, mg "LAST_SIDE" = some (.str "last" t)
  c_ORDER_TOLD : ∃ t, mg "ORDER_TOLD" = some (.str "order" t)
  c_PAPER_BARS : ∃ t, mg "PAPER_BARS" = some (.str "bar" t)
  f_is_integer : FnAt K mg "is_integer" s_is_integer
  f_is_within : FnAt K mg "is_within" s_is_within
  f_is_sized : FnAt K mg "is_sized" s_is_sized
  f_are_rising : FnAt K mg "are_rising" s_are_rising
  f_is_lot : FnAt K mg "is_lot" s_is_lot
  f_is_order : FnAt K mg "is_order" s_is_order
  f_all_lots : FnAt K mg "all_lots" s_all_lots
  f_all_orders : FnAt K mg "all_orders" s_all_orders
  f_are_minutes : FnAt K mg "are_minutes" s_are_minutes
  f_are_twos : FnAt K mg "are_twos" s_are_twos
  f_check_twos : FnAt K mg "check_twos" s_check_twos
  f_check_two_order : FnAt K mg "check_two_order" s_check_two_order
  f_raw_ends : FnAt K mg "raw_ends" s_raw_ends
  f_raw_end : FnAt K mg "raw_end" s_raw_end
  f_end_by : FnAt K mg "end_by" s_end_by
  f_check_side : FnAt K mg "check_side" s_check_side
  f_raw_paper_worth : FnAt K mg "raw_paper_worth" s_raw_paper_worth
  f_paper_worth : FnAt K mg "paper_worth" s_paper_worth
  f_papers_above : FnAt K mg "papers_above" s_papers_above
  f_check_two_minute : FnAt K mg "check_two_minute" s_check_two_minute
  f_twos_told : FnAt K mg "twos_told" s_twos_told
  f_rule_order : FnAt K mg "rule_order" s_rule_order
  f_rule_of_twos : FnAt K mg "rule_of_twos" s_rule_of_twos
  f_least_end : FnAt K mg "least_end" s_least_end
  f_best_two_orders : FnAt K mg "best_two_orders" s_best_two_orders
  f_raw_barring : FnAt K mg "raw_barring" s_raw_barring
  f_end_without_place : FnAt K mg "end_without_place" s_end_without_place
  f_end_at_once : FnAt K mg "end_at_once" s_end_at_once
  f_least_at_once : FnAt K mg "least_at_once" s_least_at_once
  f_check_threes : FnAt K mg "check_threes" s_check_threes
  f_raw_threes : FnAt K mg "raw_threes" s_raw_threes
  f_end_of_threes : FnAt K mg "end_of_threes" s_end_of_threes
  f_least_of_threes : FnAt K mg "least_of_threes" s_least_of_threes
  f_is_middle_light : FnAt K mg "is_middle_light" s_is_middle_light
  f_law_hand : FnAt K mg "_law_hand" s_law_hand
  f_law_draw : FnAt K mg "_law_draw" s_law_draw
  f_law_any : FnAt K mg "_law_any" s_law_any
  f_law_mixed : FnAt K mg "_law_mixed" s_law_mixed
  f_law_end : FnAt K mg "_law_end" s_law_end
  f_law_at_once : FnAt K mg "_law_at_once" s_law_at_once
  f_law_is_right : FnAt K mg "_law_is_right" s_law_is_right
  f_law_are_threes_right : FnAt K mg "_law_are_threes_right" s_law_are_threes_right
  f_law : FnAt K mg "law" s_law
end Gk01

set_option maxRecDepth 100000
set_option maxHeartbeats 0
namespace Gk01
open PySem PySem.Spec PyProof.Rows L2 Z3
abbrev n_is_integer : List PySem.Str := ["thing"]
theorem sc_is_integer : FnScope n_is_integer ["thing"] (defScope s_is_integer) := ⟨rfl, rfl, rfl, by decide +kernel, rfl, by decide +kernel, by decide +kernel⟩
theorem bi_is_integer : BindsAll "is_integer" s_is_integer ["thing"] := fun _ _ _ _ _ _ us hl => match us, hl with | [_], _ => rfl
def rd_is_integer : SE := (sRet (eAnd (eOp1 (dIsi "int") (eVar 0)) (eNot (eOp1 (dIsi "bool") (eVar 0)))))
theorem w_is_integer {Pg : Program} {w : World} {K : PySem.W.Frag} {mg : PySem.Str → Option Value} {base : Heap} (e : Nm K mg) (f : Addr) : Walks Pg w K mg base n_is_integer "is_integer" (defScope s_is_integer) f 0 (defBody s_is_integer) (rd_is_integer) :=
    fun cdv A outer s H E hr =>
    (dss_one (ds_ret (de_and (de_isi (by rfl) e.b_isinstance (by rfl) e.b_int bt_int (de_var 0)) (de_one (de_not (de_isi (by rfl) e.b_isinstance (by rfl) e.b_bool bt_bool (de_var 0)))))))
abbrev n_is_within : List PySem.Str := ["thing", "low", "high"]
theorem sc_is_within : FnScope n_is_within ["thing", "low", "high"] (defScope s_is_within) := ⟨rfl, rfl, rfl, by decide +kernel, rfl, by decide +kernel, by decide +kernel⟩
theorem bi_is_within : BindsAll "is_within" s_is_within ["thing", "low", "high"] := fun _ _ _ _ _ _ us hl => match us, hl with | [_, _, _], _ => rfl
def rd_is_within (sp_is_integer : Sd) : SE := (sRet (eAnd (eCall 1 sp_is_integer (eCons (eVar 0) eNil)) (eChain dLe dLe (eVar 1) (eVar 0) (eVar 2))))
theorem w_is_within {Pg : Program} {w : World} {K : PySem.W.Frag} {mg : PySem.Str → Option Value} {base : Heap} {sp_is_integer : Sd} (e : Nm K mg) (c_is_integer : CalD Pg w K mg base 1 "is_integer" 1 sp_is_integer) (f : Addr) : Walks Pg w K mg base n_is_within "is_within" (defScope s_is_within) f 1 (defBody s_is_within) (rd_is_within sp_is_integer) :=
    fun cdv A outer s H E hr =>
    (dss_one (ds_ret (de_and (de_callC c_is_integer hr (by rfl) (da_cons (de_var 0) da_nil)) (de_one (de_chain (od_le hr.units) (od_le hr.units) (de_var 1) (de_var 0) (de_var 2))))))
abbrev n_is_sized : List PySem.Str := ["thing", "low", "high"]
theorem sc_is_sized : FnScope n_is_sized ["thing", "low", "high"] (defScope s_is_sized) := ⟨rfl, rfl, rfl, by decide +kernel, rfl, by decide +kernel, by decide +kernel⟩
theorem bi_is_sized : BindsAll "is_sized" s_is_sized ["thing", "low", "high"] := fun _ _ _ _ _ _ us hl => match us, hl with | [_, _, _], _ => rfl
def rd_is_sized : SE := (sRet (eAnd (eOp1 (dIsi "tuple") (eVar 0)) (eChain dLe dLe (eVar 1) (eApp gLen (eCons (eVar 0) eNil)) (eVar 2))))
theorem w_is_sized {Pg : Program} {w : World} {K : PySem.W.Frag} {mg : PySem.Str → Option Value} {base : Heap} (e : Nm K mg) (f : Addr) : Walks Pg w K mg base n_is_sized "is_sized" (defScope s_is_sized) f 0 (defBody s_is_sized) (rd_is_sized) :=
    fun cdv A outer s H E hr =>
    (dss_one (ds_ret (de_and (de_isi (by rfl) e.b_isinstance (by rfl) e.b_tuple bt_tuple (de_var 0)) (de_one (de_chain (od_le hr.units) (od_le hr.units) (de_var 1) (de_callB oc_len (by rfl) e.b_len bb_len (da_cons (de_var 0) da_nil)) (de_var 2))))))
abbrev n_are_rising : List PySem.Str := ["things", "one", "other"]
theorem sc_are_rising : FnScope n_are_rising ["things"] (defScope s_are_rising) := ⟨rfl, rfl, rfl, by decide +kernel, rfl, by decide +kernel, by decide +kernel⟩
theorem bi_are_rising : BindsAll "are_rising" s_are_rising ["things"] := fun _ _ _ _ _ _ us hl => match us, hl with | [_], _ => rfl
def rd_are_rising : SE := (sRet (eApp gAll (eCons (eLc [1, 2] (iZp (eVar 0) (eSl (eVar 0) (oSome (eC (.int 1))) oNone)) (gT 2 (gCn (gN 1) (gCn (gN 2) gNl))) tYs (eOp2 dLt (eVar 1) (eVar 2))) eNil)))
theorem w_are_rising {Pg : Program} {w : World} {K : PySem.W.Frag} {mg : PySem.Str → Option Value} {base : Heap} (e : Nm K mg) (f : Addr) : Walks Pg w K mg base n_are_rising "are_rising" (defScope s_are_rising) f 0 (defBody s_are_rising) (rd_are_rising) :=
    fun cdv A outer s H E hr =>
    (dss_one (ds_ret (de_callB (oc_all rfl) (by rfl) e.b_all bb_all (da_cons (de_lc (own := [("one", 1), ("other", 2)]) rfl sc_are_rising.nd (di_zip (by rfl) e.b_zip (de_var 0) (de_slice (de_var 0) (do_some de_int) do_none)) (blkOk_by (by rfl)) (fun _ _ _ _ _ => (dg_tup rfl (dgs_cons (dg_name (i := 1) sc_are_rising.nd rfl (by first | exact Or.inl rfl | exact Or.inr rfl)) (dgs_cons (dg_name (i := 2) sc_are_rising.nd rfl (by first | exact Or.inl rfl | exact Or.inr rfl)) dgs_nil)))) (fun _ _ _ _ _ => dts_nil) (fun _ _ _ _ _ => (de_cmp (od_lt hr.units) (de_var 1) (de_var 2) (by rfl)))) da_nil))))
abbrev n_is_lot : List PySem.Str := ["thing", "many", "one"]
theorem sc_is_lot : FnScope n_is_lot ["thing", "many"] (defScope s_is_lot) := ⟨rfl, rfl, rfl, by decide +kernel, rfl, by decide +kernel, by decide +kernel⟩
theorem bi_is_lot : BindsAll "is_lot" s_is_lot ["thing", "many"] := fun _ _ _ _ _ _ us hl => match us, hl with | [_, _], _ => rfl
def rd_is_lot (sp_are_rising sp_is_within : Sd) : SE := (sSeq (sIf (tOr (tNt (tV (eOp1 (dIsi "tuple") (eVar 0)))) (tNt (tV (eApp gAll (eCons (eLc [2] (iSq (eVar 0)) (gN 2) tYs (eCall 3 sp_is_within (eCons (eVar 2) (eCons (eC (.int 0)) (eCons (eOp2 dSub (eVar 1) (eC (.int 1))) eNil))))) eNil))))) (sRet (eC (.bool false))) sNext)
  (sRet (eCall 1 sp_are_rising (eCons (eVar 0) eNil))))
theorem w_is_lot {Pg : Program} {w : World} {K : PySem.W.Frag} {mg : PySem.Str → Option Value} {base : Heap} {sp_are_rising sp_is_within : Sd} (e : Nm K mg) (c_are_rising : CalD Pg w K mg base 1 "are_rising" 1 sp_are_rising) (c_is_within : CalD Pg w K mg base 2 "is_within" 3 sp_is_within) (f : Addr) : Walks Pg w K mg base n_is_lot "is_lot" (defScope s_is_lot) f 2 (defBody s_is_lot) (rd_is_lot sp_are_rising sp_is_within) :=
    fun cdv A outer s H E hr =>
    (dss_cons (ds_if (DW.dt (dw_or (dt_not (dt_val (de_isi (by rfl) e.b_isinstance (by rfl) e.b_tuple bt_tuple (de_var 0)))) (dw_or1 (dt_not (dt_val (de_callB (oc_all rfl) (by rfl) e.b_all bb_all (da_cons (de_lc (own := [("one", 2)]) rfl sc_is_lot.nd (di_seq (de_var 0)) (blkOk_by (by rfl)) (fun _ _ _ _ _ => (dg_name (i := 2) sc_is_lot.nd rfl (by first | exact Or.inl rfl | exact Or.inr rfl))) (fun _ _ _ _ _ => dts_nil) (fun _ _ _ _ _ => (de_callC c_is_within hr (by rfl) (da_cons (de_var 2) (da_cons de_int (da_cons (de_op od_sub (de_var 1) de_int) da_nil)))))) da_nil))))))) (dss_one (ds_ret de_bl)) dss_nil)
      (dss_one (ds_ret (de_callC c_are_rising hr (by rfl) (da_cons (de_var 0) da_nil)))))
abbrev n_is_order : List PySem.Str := ["thing", "many", "one"]
theorem sc_is_order : FnScope n_is_order ["thing", "many"] (defScope s_is_order) := ⟨rfl, rfl, rfl, by decide +kernel, rfl, by decide +kernel, by decide +kernel⟩
theorem bi_is_order : BindsAll "is_order" s_is_order ["thing", "many"] := fun _ _ _ _ _ _ us hl => match us, hl with | [_, _], _ => rfl
def rd_is_order (sp_is_sized sp_is_integer : Sd) : SE := (sSeq (sIf (tOr (tNt (tV (eCall 3 sp_is_sized (eCons (eVar 0) (eCons (eVar 1) (eCons (eVar 1) eNil)))))) (tNt (tV (eApp gAll (eCons (eLc [2] (iSq (eVar 0)) (gN 2) tYs (eCall 1 sp_is_integer (eCons (eVar 2) eNil))) eNil))))) (sRet (eC (.bool false))) sNext)
  (sRet (eOp2 dEq (eApp gSorted (eCons (eVar 0) eNil)) (eLRg1 true (eVar 1)))))
theorem w_is_order {Pg : Program} {w : World} {K : PySem.W.Frag} {mg : PySem.Str → Option Value} {base : Heap} {sp_is_sized sp_is_integer : Sd} (e : Nm K mg) (c_is_sized : CalD Pg w K mg base 1 "is_sized" 3 sp_is_sized) (c_is_integer : CalD Pg w K mg base 1 "is_integer" 1 sp_is_integer) (f : Addr) : Walks Pg w K mg base n_is_order "is_order" (defScope s_is_order) f 1 (defBody s_is_order) (rd_is_order sp_is_sized sp_is_integer) :=
    fun cdv A outer s H E hr =>
    (dss_cons (ds_if (DW.dt (dw_or (dt_not (dt_val (de_callC c_is_sized hr (by rfl) (da_cons (de_var 0) (da_cons (de_var 1) (da_cons (de_var 1) da_nil)))))) (dw_or1 (dt_not (dt_val (de_callB (oc_all rfl) (by rfl) e.b_all bb_all (da_cons (de_lc (own := [("one", 2)]) rfl sc_is_order.nd (di_seq (de_var 0)) (blkOk_by (by rfl)) (fun _ _ _ _ _ => (dg_name (i := 2) sc_is_order.nd rfl (by first | exact Or.inl rfl | exact Or.inr rfl))) (fun _ _ _ _ _ => dts_nil) (fun _ _ _ _ _ => (de_callC c_is_integer hr (by rfl) (da_cons (de_var 2) da_nil)))) da_nil))))))) (dss_one (ds_ret de_bl)) dss_nil)
      (dss_one (ds_ret (de_cmp (od_eq hr.units) (de_callB (oc_sorted hr.units) (by rfl) e.b_sorted bb_sorted (da_cons (de_var 0) da_nil)) (de_listRg (by rfl) (by rfl) e.b_list (by rfl) e.b_range (de_var 1)) (by rfl)))))
abbrev n_all_lots : List PySem.Str := ["things", "found", "one", "size", "lot"]
theorem sc_all_lots : FnScope n_all_lots ["things"] (defScope s_all_lots) := ⟨rfl, rfl, rfl, by decide +kernel, rfl, by decide +kernel, by decide +kernel⟩
theorem bi_all_lots : BindsAll "all_lots" s_all_lots ["things"] := fun _ _ _ _ _ _ us hl => match us, hl with | [_], _ => rfl
def lb1_all_lots : SE := (sAsg 1 (eOp2 dAdd (eVar 1) (eLc [4] (iSq (eVar 1)) (gN 4) tYs (eOp2 dAdd (eVar 4) (eTup (eConsF (eVar 2) eNil))))))
def rd_all_lots : SE := (sSeq (sAsg 1 (eLst (eConsF (eTup eNil) eNil)))
  (sSeq (sFor (iSq (eVar 0)) (gN 2) lb1_all_lots)
  (sRet (eLc [3, 4] (iSq (eApp gSorted (eCons (eLc [4] (iSq (eVar 1)) (gN 4) tYs (eTup (eConsF (eApp gLen (eCons (eVar 4) eNil)) (eConsF (eVar 4) eNil)))) eNil))) (gT 2 (gCn (gN 3) (gCn (gN 4) gNl))) tYs (eVar 4)))))
theorem w_all_lots {Pg : Program} {w : World} {K : PySem.W.Frag} {mg : PySem.Str → Option Value} {base : Heap} (e : Nm K mg) (f : Addr) : Walks Pg w K mg base n_all_lots "all_lots" (defScope s_all_lots) f 0 (defBody s_all_lots) (rd_all_lots) :=
    fun cdv A outer s H E hr =>
    (dss_cons (ds_set (i := 1) sc_all_lots.nd rfl (by first | exact Or.inl rfl | exact Or.inr rfl) (de_lst (df_cons (de_tup df_nil) df_nil)))
      (dss_cons (ds_for PassesOwn.never rfl (di_seq (de_var 0)) (dg_name (i := 2) sc_all_lots.nd rfl (by first | exact Or.inl rfl | exact Or.inr rfl)) (dss_one (ds_set (i := 1) sc_all_lots.nd rfl (by first | exact Or.inl rfl | exact Or.inr rfl) (de_op od_add (de_var 1) (de_lc (own := [("lot", 4)]) rfl sc_all_lots.nd (di_seq (de_var 1)) (blkOk_by (by rfl)) (fun _ _ _ _ _ => (dg_name (i := 4) sc_all_lots.nd rfl (by first | exact Or.inl rfl | exact Or.inr rfl))) (fun _ _ _ _ _ => dts_nil) (fun _ _ _ _ _ => (de_op od_add (de_var 4) (de_tup (df_cons (de_var 2) df_nil)))))))))
      (dss_one (ds_ret (de_lc (own := [("size", 3), ("lot", 4)]) rfl sc_all_lots.nd (di_seq (de_callB (oc_sorted hr.units) (by rfl) e.b_sorted bb_sorted (da_cons (de_lc (own := [("lot", 4)]) rfl sc_all_lots.nd (di_seq (de_var 1)) (blkOk_by (by rfl)) (fun _ _ _ _ _ => (dg_name (i := 4) sc_all_lots.nd rfl (by first | exact Or.inl rfl | exact Or.inr rfl))) (fun _ _ _ _ _ => dts_nil) (fun _ _ _ _ _ => (de_tup (df_cons (de_callB oc_len (by rfl) e.b_len bb_len (da_cons (de_var 4) da_nil)) (df_cons (de_var 4) df_nil))))) da_nil))) (blkOk_by (by rfl)) (fun _ _ _ _ _ => (dg_tup rfl (dgs_cons (dg_name (i := 3) sc_all_lots.nd rfl (by first | exact Or.inl rfl | exact Or.inr rfl)) (dgs_cons (dg_name (i := 4) sc_all_lots.nd rfl (by first | exact Or.inl rfl | exact Or.inr rfl)) dgs_nil)))) (fun _ _ _ _ _ => dts_nil) (fun _ _ _ _ _ => (de_var 4)))))))
abbrev n_all_orders : List PySem.Str := ["many", "found", "turn", "longer", "row", "one"]
theorem sc_all_orders : FnScope n_all_orders ["many"] (defScope s_all_orders) := ⟨rfl, rfl, rfl, by decide +kernel, rfl, by decide +kernel, by decide +kernel⟩
theorem bi_all_orders : BindsAll "all_orders" s_all_orders ["many"] := fun _ _ _ _ _ _ us hl => match us, hl with | [_], _ => rfl
def lb1_all_orders : SE := (sExt 3 (eLc [5] (iR1 (eVar 0)) (gN 5) (tV (eOp2 dNi (eVar 5) (eVar 4))) (eOp2 dAdd (eVar 4) (eTup (eConsF (eVar 5) eNil)))))
def lb2_all_orders : SE := (sSeq (sAsg 3 (eLst eNil))
  (sSeq (sFor (iSq (eVar 1)) (gN 4) lb1_all_orders)
  (sAsg 1 (eVar 3))))
def rd_all_orders : SE := (sSeq (sAsg 1 (eLst (eConsF (eTup eNil) eNil)))
  (sSeq (sFor (iR1 (eVar 0)) (gN 2) lb2_all_orders)
  (sRet (eVar 1))))
theorem w_all_orders {Pg : Program} {w : World} {K : PySem.W.Frag} {mg : PySem.Str → Option Value} {base : Heap} (e : Nm K mg) (f : Addr) : Walks Pg w K mg base n_all_orders "all_orders" (defScope s_all_orders) f 0 (defBody s_all_orders) (rd_all_orders) :=
    fun cdv A outer s H E hr =>
    (dss_cons (ds_set (i := 1) sc_all_orders.nd rfl (by first | exact Or.inl rfl | exact Or.inr rfl) (de_lst (df_cons (de_tup df_nil) df_nil)))
      (dss_cons (ds_for PassesOwn.never rfl (di_range1 (by rfl) e.b_range (de_var 0)) (dg_name (i := 2) sc_all_orders.nd rfl (by first | exact Or.inl rfl | exact Or.inr rfl)) (dss_cons (ds_set (i := 3) sc_all_orders.nd rfl (by first | exact Or.inl rfl | exact Or.inr rfl) (de_lst df_nil))
      (dss_cons (ds_for PassesOwn.never rfl (di_seq (de_var 1)) (dg_name (i := 4) sc_all_orders.nd rfl (by first | exact Or.inl rfl | exact Or.inr rfl)) (dss_one (ds_ext 3 (de_lc (own := [("one", 5)]) rfl sc_all_orders.nd (di_range1 (by rfl) e.b_range (de_var 0)) (blkOk_by (by rfl)) (fun _ _ _ _ _ => (dg_name (i := 5) sc_all_orders.nd rfl (by first | exact Or.inl rfl | exact Or.inr rfl))) (fun _ _ _ _ _ => (dts_one (dt_cmp (od_ni hr.units) (de_var 5) (de_var 4) (by rfl)))) (fun _ _ _ _ _ => (de_op od_add (de_var 4) (de_tup (df_cons (de_var 5) df_nil))))))))
      (dss_one (ds_set (i := 1) sc_all_orders.nd rfl (by first | exact Or.inl rfl | exact Or.inr rfl) (de_var 3))))))
      (dss_one (ds_ret (de_var 1)))))
abbrev n_are_minutes : List PySem.Str := ["thing", "many", "one"]
theorem sc_are_minutes : FnScope n_are_minutes ["thing", "many"] (defScope s_are_minutes) := ⟨rfl, rfl, rfl, by decide +kernel, rfl, by decide +kernel, by decide +kernel⟩
theorem bi_are_minutes : BindsAll "are_minutes" s_are_minutes ["thing", "many"] := fun _ _ _ _ _ _ us hl => match us, hl with | [_, _], _ => rfl
def rd_are_minutes (sp_is_sized sp_is_within : Sd) : SE := (sRet (eAnd (eCall 3 sp_is_sized (eCons (eVar 0) (eCons (eVar 1) (eCons (eVar 1) eNil)))) (eApp gAll (eCons (eLc [2] (iSq (eVar 0)) (gN 2) tYs (eCall 3 sp_is_within (eCons (eVar 2) (eCons (eC (.int 1)) (eCons (eC (.int 60)) eNil))))) eNil))))
theorem w_are_minutes {Pg : Program} {w : World} {K : PySem.W.Frag} {mg : PySem.Str → Option Value} {base : Heap} {sp_is_sized sp_is_within : Sd} (e : Nm K mg) (c_is_sized : CalD Pg w K mg base 1 "is_sized" 3 sp_is_sized) (c_is_within : CalD Pg w K mg base 2 "is_within" 3 sp_is_within) (f : Addr) : Walks Pg w K mg base n_are_minutes "are_minutes" (defScope s_are_minutes) f 2 (defBody s_are_minutes) (rd_are_minutes sp_is_sized sp_is_within) :=
    fun cdv A outer s H E hr =>
    (dss_one (ds_ret (de_and (de_callC c_is_sized hr (by rfl) (da_cons (de_var 0) (da_cons (de_var 1) (da_cons (de_var 1) da_nil)))) (de_one (de_callB (oc_all rfl) (by rfl) e.b_all bb_all (da_cons (de_lc (own := [("one", 2)]) rfl sc_are_minutes.nd (di_seq (de_var 0)) (blkOk_by (by rfl)) (fun _ _ _ _ _ => (dg_name (i := 2) sc_are_minutes.nd rfl (by first | exact Or.inl rfl | exact Or.inr rfl))) (fun _ _ _ _ _ => dts_nil) (fun _ _ _ _ _ => (de_callC c_is_within hr (by rfl) (da_cons (de_var 2) (da_cons de_int (da_cons (de_gint (by rfl) e.c_MOST_STATION_MINUTES) da_nil)))))) da_nil))))))
abbrev n_are_twos : List PySem.Str := ["thing", "dish"]
theorem sc_are_twos : FnScope n_are_twos ["thing"] (defScope s_are_twos) := ⟨rfl, rfl, rfl, by decide +kernel, rfl, by decide +kernel, by decide +kernel⟩
theorem bi_are_twos : BindsAll "are_twos" s_are_twos ["thing"] := fun _ _ _ _ _ _ us hl => match us, hl with | [_], _ => rfl
def rd_are_twos (sp_is_sized sp_are_minutes : Sd) : SE := (sRet (eAnd (eCall 3 sp_is_sized (eCons (eVar 0) (eCons (eC (.int 1)) (eCons (eC (.int 7)) eNil)))) (eApp gAll (eCons (eLc [1] (iSq (eVar 0)) (gN 1) tYs (eCall 2 sp_are_minutes (eCons (eVar 1) (eCons (eC (.int 2)) eNil)))) eNil))))
theorem w_are_twos {Pg : Program} {w : World} {K : PySem.W.Frag} {mg : PySem.Str → Option Value} {base : Heap} {sp_is_sized sp_are_minutes : Sd} (e : Nm K mg) (c_is_sized : CalD Pg w K mg base 1 "is_sized" 3 sp_is_sized) (c_are_minutes : CalD Pg w K mg base 3 "are_minutes" 2 sp_are_minutes) (f : Addr) : Walks Pg w K mg base n_are_twos "are_twos" (defScope s_are_twos) f 3 (defBody s_are_twos) (rd_are_twos sp_is_sized sp_are_minutes) :=
    fun cdv A outer s H E hr =>
    (dss_one (ds_ret (de_and (de_callC c_is_sized hr (by rfl) (da_cons (de_var 0) (da_cons de_int (da_cons (de_gint (by rfl) e.c_MOST_TWOS) da_nil)))) (de_one (de_callB (oc_all rfl) (by rfl) e.b_all bb_all (da_cons (de_lc (own := [("dish", 1)]) rfl sc_are_twos.nd (di_seq (de_var 0)) (blkOk_by (by rfl)) (fun _ _ _ _ _ => (dg_name (i := 1) sc_are_twos.nd rfl (by first | exact Or.inl rfl | exact Or.inr rfl))) (fun _ _ _ _ _ => dts_nil) (fun _ _ _ _ _ => (de_callC c_are_minutes hr (by rfl) (da_cons (de_var 1) (da_cons de_int da_nil))))) da_nil))))))
abbrev n_check_twos : List PySem.Str := ["twos"]
theorem sc_check_twos : FnScope n_check_twos ["twos"] (defScope s_check_twos) := ⟨rfl, rfl, rfl, by decide +kernel, rfl, by decide +kernel, by decide +kernel⟩
theorem bi_check_twos : BindsAll "check_twos" s_check_twos ["twos"] := fun _ _ _ _ _ _ us hl => match us, hl with | [_], _ => rfl
def rd_check_twos (sp_are_twos : Sd) : SE := (sIf (tNt (tV (eCall 1 sp_are_twos (eCons (eVar 0) eNil)))) sNever sNext)
theorem w_check_twos {Pg : Program} {w : World} {K : PySem.W.Frag} {mg : PySem.Str → Option Value} {base : Heap} {sp_are_twos : Sd} (e : Nm K mg) (c_are_twos : CalD Pg w K mg base 4 "are_twos" 1 sp_are_twos) (f : Addr) : Walks Pg w K mg base n_check_twos "check_twos" (defScope s_check_twos) f 4 (defBody s_check_twos) (rd_check_twos sp_are_twos) :=
    fun cdv A outer s H E hr =>
    (dss_one (ds_if (dt_not (dt_val (de_callC c_are_twos hr (by rfl) (da_cons (de_var 0) da_nil)))) dss_never dss_nil))
abbrev n_check_two_order : List PySem.Str := ["twos", "order"]
theorem sc_check_two_order : FnScope n_check_two_order ["twos", "order"] (defScope s_check_two_order) := ⟨rfl, rfl, rfl, by decide +kernel, rfl, by decide +kernel, by decide +kernel⟩
theorem bi_check_two_order : BindsAll "check_two_order" s_check_two_order ["twos", "order"] := fun _ _ _ _ _ _ us hl => match us, hl with | [_, _], _ => rfl
def rd_check_two_order (sp_check_twos sp_is_order : Sd) : SE := (sSeq (sDrop (eCall 1 sp_check_twos (eCons (eVar 0) eNil)))
  (sIf (tNt (tV (eCall 2 sp_is_order (eCons (eVar 1) (eCons (eApp gLen (eCons (eVar 0) eNil)) eNil))))) sNever sNext))
theorem w_check_two_order {Pg : Program} {w : World} {K : PySem.W.Frag} {mg : PySem.Str → Option Value} {base : Heap} {sp_check_twos sp_is_order : Sd} (e : Nm K mg) (c_check_twos : CalD Pg w K mg base 5 "check_twos" 1 sp_check_twos) (c_is_order : CalD Pg w K mg base 2 "is_order" 2 sp_is_order) (f : Addr) : Walks Pg w K mg base n_check_two_order "check_two_order" (defScope s_check_two_order) f 5 (defBody s_check_two_order) (rd_check_two_order sp_check_twos sp_is_order) :=
    fun cdv A outer s H E hr =>
    (dss_cons (ds_expr (de_callC c_check_twos hr (by rfl) (da_cons (de_var 0) da_nil)))
      (dss_one (ds_if (dt_not (dt_val (de_callC c_is_order hr (by rfl) (da_cons (de_var 1) (da_cons (de_callB oc_len (by rfl) e.b_len bb_len (da_cons (de_var 0) da_nil)) da_nil))))) dss_never dss_nil)))
abbrev n_raw_ends : List PySem.Str := ["twos", "order", "dish", "found", "board", "stove"]
theorem sc_raw_ends : FnScope n_raw_ends ["twos", "order"] (defScope s_raw_ends) := ⟨rfl, rfl, rfl, by decide +kernel, rfl, by decide +kernel, by decide +kernel⟩
theorem bi_raw_ends : BindsAll "raw_ends" s_raw_ends ["twos", "order"] := fun _ _ _ _ _ _ us hl => match us, hl with | [_, _], _ => rfl
def lb1_raw_ends : SE := (sSeq (sAug 4 dIAdd (eOp2 dIx (eOp2 dIx (eVar 0) (eVar 2)) (eC (.int 0))))
  (sSeq (sAsg 5 (eOp2 dAdd (eApp gMax (eCons (eVar 4) (eCons (eVar 5) eNil))) (eOp2 dIx (eOp2 dIx (eVar 0) (eVar 2)) (eC (.int 1)))))
  (sPut 3 (eVar 2) (eTup (eConsF (eVar 4) (eConsF (eVar 5) eNil))))))
def rd_raw_ends : SE := (sSeq (sPars [3, 4, 5] (vCons eDic0 (vCons (eC (.int 0)) (vCons (eC (.int 0)) vNil))))
  (sSeq (sFor (iSq (eVar 1)) (gN 2) lb1_raw_ends)
  (sRet (eVar 3))))
theorem w_raw_ends {Pg : Program} {w : World} {K : PySem.W.Frag} {mg : PySem.Str → Option Value} {base : Heap} (e : Nm K mg) (f : Addr) : Walks Pg w K mg base n_raw_ends "raw_ends" (defScope s_raw_ends) f 0 (defBody s_raw_ends) (rd_raw_ends) :=
    fun cdv A outer s H E hr =>
    (dss_cons (by first | exact ds_par3 (i := 3) (j := 4) (l := 5) rfl sc_raw_ends.nd rfl rfl rfl (by decide) (by decide) (by decide) (by rfl) (by rfl) (by rfl) (dv_cons de_dic0 (dv_cons de_int (dv_cons de_int dv_nil))) (by rfl) | exact ds_parT (is := [3, 4, 5]) (n := 3) rfl (pgs_cons (pg_name (i := 3) sc_raw_ends.nd rfl (by first | exact Or.inl rfl | exact Or.inr rfl)) (pgs_cons (pg_name (i := 4) sc_raw_ends.nd rfl (by first | exact Or.inl rfl | exact Or.inr rfl)) (pgs_cons (pg_name (i := 5) sc_raw_ends.nd rfl (by first | exact Or.inl rfl | exact Or.inr rfl)) pgs_nil))) (dv_cons de_dic0 (dv_cons de_int (dv_cons de_int dv_nil))))
      (dss_cons (ds_for PassesOwn.never rfl (di_seq (de_var 1)) (dg_name (i := 2) sc_raw_ends.nd rfl (by first | exact Or.inl rfl | exact Or.inr rfl)) (dss_cons (ds_aug (i := 4) oi_add sc_raw_ends.nd rfl (by first | exact Or.inl rfl | exact Or.inr rfl) (de_ix (od_ix hr.units) (de_ix (od_ix hr.units) (de_var 0) (de_var 2) (fun _ _ => rfl)) de_int (fun _ _ => rfl)))
      (dss_cons (ds_set (i := 5) sc_raw_ends.nd rfl (by first | exact Or.inl rfl | exact Or.inr rfl) (de_op od_add (de_callB (oc_max rfl hr.units) (by rfl) e.b_max bb_max (da_cons (de_var 4) (da_cons (de_var 5) da_nil))) (de_ix (od_ix hr.units) (de_ix (od_ix hr.units) (de_var 0) (de_var 2) (fun _ _ => rfl)) de_int (fun _ _ => rfl))))
      (dss_one (ds_put hr.units 3 (de_var 2) (de_tup (df_cons (de_var 4) (df_cons (de_var 5) df_nil))))))))
      (dss_one (ds_ret (de_var 3)))))
abbrev n_raw_end : List PySem.Str := ["twos", "order"]
theorem sc_raw_end : FnScope n_raw_end ["twos", "order"] (defScope s_raw_end) := ⟨rfl, rfl, rfl, by decide +kernel, rfl, by decide +kernel, by decide +kernel⟩
theorem bi_raw_end : BindsAll "raw_end" s_raw_end ["twos", "order"] := fun _ _ _ _ _ _ us hl => match us, hl with | [_, _], _ => rfl
def rd_raw_end (sp_raw_ends : Sd) : SE := (sRet (eOp2 dIx (eOp2 dIx (eCall 2 sp_raw_ends (eCons (eVar 0) (eCons (eVar 1) eNil))) (eOp2 dIx (eVar 1) (eOp1 dNeg (eC (.int 1))))) (eC (.int 1))))
theorem w_raw_end {Pg : Program} {w : World} {K : PySem.W.Frag} {mg : PySem.Str → Option Value} {base : Heap} {sp_raw_ends : Sd} (e : Nm K mg) (c_raw_ends : CalD Pg w K mg base 1 "raw_ends" 2 sp_raw_ends) (f : Addr) : Walks Pg w K mg base n_raw_end "raw_end" (defScope s_raw_end) f 1 (defBody s_raw_end) (rd_raw_end sp_raw_ends) :=
    fun cdv A outer s H E hr =>
    (dss_one (ds_ret (de_ix (od_ix hr.units) (de_ix (od_ix hr.units) (de_callC c_raw_ends hr (by rfl) (da_cons (de_var 0) (da_cons (de_var 1) da_nil))) (de_ix (od_ix hr.units) (de_var 1) (de_un od_neg de_int) (fun _ _ => rfl)) (fun _ _ => rfl)) de_int (fun _ _ => rfl))))
abbrev n_end_by : List PySem.Str := ["twos", "order"]
theorem sc_end_by : FnScope n_end_by ["twos", "order"] (defScope s_end_by) := ⟨rfl, rfl, rfl, by decide +kernel, rfl, by decide +kernel, by decide +kernel⟩
theorem bi_end_by : BindsAll "end_by" s_end_by ["twos", "order"] := fun _ _ _ _ _ _ us hl => match us, hl with | [_, _], _ => rfl
def rd_end_by (sp_check_two_order sp_raw_end : Sd) : SE := (sSeq (sDrop (eCall 2 sp_check_two_order (eCons (eVar 0) (eCons (eVar 1) eNil))))
  (sRet (eCall 2 sp_raw_end (eCons (eVar 0) (eCons (eVar 1) eNil)))))
theorem w_end_by {Pg : Program} {w : World} {K : PySem.W.Frag} {mg : PySem.Str → Option Value} {base : Heap} {sp_check_two_order sp_raw_end : Sd} (e : Nm K mg) (c_check_two_order : CalD Pg w K mg base 6 "check_two_order" 2 sp_check_two_order) (c_raw_end : CalD Pg w K mg base 2 "raw_end" 2 sp_raw_end) (f : Addr) : Walks Pg w K mg base n_end_by "end_by" (defScope s_end_by) f 6 (defBody s_end_by) (rd_end_by sp_check_two_order sp_raw_end) :=
    fun cdv A outer s H E hr =>
    (dss_cons (ds_expr (de_callC c_check_two_order hr (by rfl) (da_cons (de_var 0) (da_cons (de_var 1) da_nil))))
      (dss_one (ds_ret (de_callC c_raw_end hr (by rfl) (da_cons (de_var 0) (da_cons (de_var 1) da_nil))))))
abbrev n_check_side : List PySem.Str := ["side"]
theorem sc_check_side : FnScope n_check_side ["side"] (defScope s_check_side) := ⟨rfl, rfl, rfl, by decide +kernel, rfl, by decide +kernel, by decide +kernel⟩
theorem bi_check_side : BindsAll "check_side" s_check_side ["side"] := fun _ _ _ _ _ _ us hl => match us, hl with | [_], _ => rfl
def rd_check_side : SE := (sIf (tOr (tNt (tV (eOp1 (dIsi "str") (eVar 0)))) (tV (eOp2 dNi (eVar 0) (eTup (eConsF (eC (.str "first")) (eConsF (eC (.str "last")) eNil)))))) sNever sNext)
theorem w_check_side {Pg : Program} {w : World} {K : PySem.W.Frag} {mg : PySem.Str → Option Value} {base : Heap} (e : Nm K mg) (f : Addr) : Walks Pg w K mg base n_check_side "check_side" (defScope s_check_side) f 0 (defBody s_check_side) (rd_check_side) :=
    fun cdv A outer s H E hr =>
    (dss_one (ds_if (DW.dt (dw_or (dt_not (dt_val (de_isi (by rfl) e.b_isinstance (by rfl) e.b_str bt_str (de_var 0)))) (dw_or1 (dt_cmp (od_ni hr.units) (de_var 0) (de_tup (df_cons (de_gstr (by rfl) e.c_FIRST_SIDE) (df_cons (de_gstr (by rfl) e.c_LAST_SIDE) df_nil))) (by rfl))))) dss_never dss_nil))
abbrev n_raw_paper_worth : List PySem.Str := ["twos", "side", "lot", "own", "rest", "at", "dish"]
theorem sc_raw_paper_worth : FnScope n_raw_paper_worth ["twos", "side", "lot"] (defScope s_raw_paper_worth) := ⟨rfl, rfl, rfl, by decide +kernel, rfl, by decide +kernel, by decide +kernel⟩
theorem bi_raw_paper_worth : BindsAll "raw_paper_worth" s_raw_paper_worth ["twos", "side", "lot"] := fun _ _ _ _ _ _ us hl => match us, hl with | [_, _, _], _ => rfl
def rd_raw_paper_worth : SE := (sSeq (sAsg 3 (eIf (tV (eOp2 dEq (eVar 1) (eC (.str "first")))) (eC (.int 0)) (eC (.int 1))))
  (sSeq (sAsg 4 (eApp gSum (eCons (eLc [5, 6] (iEn (eVar 0)) (gT 2 (gCn (gN 5) (gCn (gN 6) gNl))) (tV (eOp2 dNi (eVar 5) (eVar 2))) (eApp gMin (eCons (eVar 6) eNil))) eNil)))
  (sRet (eOp2 dAdd (eOp2 dAdd (eApp gMin (eCons (eLc [5] (iSq (eVar 2)) (gN 5) tYs (eOp2 dIx (eOp2 dIx (eVar 0) (eVar 5)) (eVar 3))) eNil)) (eApp gSum (eCons (eLc [5] (iSq (eVar 2)) (gN 5) tYs (eOp2 dIx (eOp2 dIx (eVar 0) (eVar 5)) (eOp2 dSub (eC (.int 1)) (eVar 3)))) eNil))) (eVar 4)))))
theorem w_raw_paper_worth {Pg : Program} {w : World} {K : PySem.W.Frag} {mg : PySem.Str → Option Value} {base : Heap} (e : Nm K mg) (f : Addr) : Walks Pg w K mg base n_raw_paper_worth "raw_paper_worth" (defScope s_raw_paper_worth) f 0 (defBody s_raw_paper_worth) (rd_raw_paper_worth) :=
    fun cdv A outer s H E hr =>
    (dss_cons (ds_set (i := 3) sc_raw_paper_worth.nd rfl (by first | exact Or.inl rfl | exact Or.inr rfl) (de_if (dt_cmp (od_eq hr.units) (de_var 1) (de_gstr (by rfl) e.c_FIRST_SIDE) (by rfl)) de_int de_int))
      (dss_cons (ds_set (i := 4) sc_raw_paper_worth.nd rfl (by first | exact Or.inl rfl | exact Or.inr rfl) (de_callB (oc_sum rfl) (by rfl) e.b_sum bb_sum (da_cons (de_lc (own := [("at", 5), ("dish", 6)]) rfl sc_raw_paper_worth.nd (di_enum (by rfl) e.b_enumerate (de_var 0)) (blkOk_by (by rfl)) (fun _ _ _ _ _ => (dg_tup rfl (dgs_cons (dg_name (i := 5) sc_raw_paper_worth.nd rfl (by first | exact Or.inl rfl | exact Or.inr rfl)) (dgs_cons (dg_name (i := 6) sc_raw_paper_worth.nd rfl (by first | exact Or.inl rfl | exact Or.inr rfl)) dgs_nil)))) (fun _ _ _ _ _ => (dts_one (dt_cmp (od_ni hr.units) (de_var 5) (de_var 2) (by rfl)))) (fun _ _ _ _ _ => (de_callB (oc_min rfl hr.units) (by rfl) e.b_min bb_min (da_cons (de_var 6) da_nil)))) da_nil)))
      (dss_one (ds_ret (de_op od_add (de_op od_add (de_callB (oc_min rfl hr.units) (by rfl) e.b_min bb_min (da_cons (de_lc (own := [("at", 5)]) rfl sc_raw_paper_worth.nd (di_seq (de_var 2)) (blkOk_by (by rfl)) (fun _ _ _ _ _ => (dg_name (i := 5) sc_raw_paper_worth.nd rfl (by first | exact Or.inl rfl | exact Or.inr rfl))) (fun _ _ _ _ _ => dts_nil) (fun _ _ _ _ _ => (de_ix (od_ix hr.units) (de_ix (od_ix hr.units) (de_var 0) (de_var 5) (fun _ _ => rfl)) (de_var 3) (fun _ _ => rfl)))) da_nil)) (de_callB (oc_sum rfl) (by rfl) e.b_sum bb_sum (da_cons (de_lc (own := [("at", 5)]) rfl sc_raw_paper_worth.nd (di_seq (de_var 2)) (blkOk_by (by rfl)) (fun _ _ _ _ _ => (dg_name (i := 5) sc_raw_paper_worth.nd rfl (by first | exact Or.inl rfl | exact Or.inr rfl))) (fun _ _ _ _ _ => dts_nil) (fun _ _ _ _ _ => (de_ix (od_ix hr.units) (de_ix (od_ix hr.units) (de_var 0) (de_var 5) (fun _ _ => rfl)) (de_op od_sub de_int (de_var 3)) (fun _ _ => rfl)))) da_nil))) (de_var 4))))))
abbrev n_paper_worth : List PySem.Str := ["twos", "side", "lot"]
theorem sc_paper_worth : FnScope n_paper_worth ["twos", "side", "lot"] (defScope s_paper_worth) := ⟨rfl, rfl, rfl, by decide +kernel, rfl, by decide +kernel, by decide +kernel⟩
theorem bi_paper_worth : BindsAll "paper_worth" s_paper_worth ["twos", "side", "lot"] := fun _ _ _ _ _ _ us hl => match us, hl with | [_, _, _], _ => rfl
def rd_paper_worth (sp_check_twos sp_check_side sp_raw_paper_worth sp_is_lot : Sd) : SE := (sSeq (sDrop (eCall 1 sp_check_twos (eCons (eVar 0) eNil)))
  (sSeq (sDrop (eCall 1 sp_check_side (eCons (eVar 1) eNil)))
  (sSeq (sIf (tOr (tNt (tV (eCall 2 sp_is_lot (eCons (eVar 2) (eCons (eApp gLen (eCons (eVar 0) eNil)) eNil))))) (tV (eOp2 dEq (eApp gLen (eCons (eVar 2) eNil)) (eC (.int 0))))) sNever sNext)
  (sRet (eCall 3 sp_raw_paper_worth (eCons (eVar 0) (eCons (eVar 1) (eCons (eVar 2) eNil))))))))
theorem w_paper_worth {Pg : Program} {w : World} {K : PySem.W.Frag} {mg : PySem.Str → Option Value} {base : Heap} {sp_check_twos sp_check_side sp_raw_paper_worth sp_is_lot : Sd} (e : Nm K mg) (c_check_twos : CalD Pg w K mg base 5 "check_twos" 1 sp_check_twos) (c_check_side : CalD Pg w K mg base 1 "check_side" 1 sp_check_side) (c_raw_paper_worth : CalD Pg w K mg base 1 "raw_paper_worth" 3 sp_raw_paper_worth) (c_is_lot : CalD Pg w K mg base 3 "is_lot" 2 sp_is_lot) (f : Addr) : Walks Pg w K mg base n_paper_worth "paper_worth" (defScope s_paper_worth) f 5 (defBody s_paper_worth) (rd_paper_worth sp_check_twos sp_check_side sp_raw_paper_worth sp_is_lot) :=
    fun cdv A outer s H E hr =>
    (dss_cons (ds_expr (de_callC c_check_twos hr (by rfl) (da_cons (de_var 0) da_nil)))
      (dss_cons (ds_expr (de_callC c_check_side hr (by rfl) (da_cons (de_var 1) da_nil)))
      (dss_cons (ds_if (DW.dt (dw_or (dt_not (dt_val (de_callC c_is_lot hr (by rfl) (da_cons (de_var 2) (da_cons (de_callB oc_len (by rfl) e.b_len bb_len (da_cons (de_var 0) da_nil)) da_nil))))) (dw_or1 (dt_cmp (od_eq hr.units) (de_callB oc_len (by rfl) e.b_len bb_len (da_cons (de_var 2) da_nil)) de_int (by rfl))))) dss_never dss_nil)
      (dss_one (ds_ret (de_callC c_raw_paper_worth hr (by rfl) (da_cons (de_var 0) (da_cons (de_var 1) (da_cons (de_var 2) da_nil)))))))))
abbrev n_papers_above : List PySem.Str := ["twos", "by", "lots", "found", "side", "lot"]
theorem sc_papers_above : FnScope n_papers_above ["twos", "by"] (defScope s_papers_above) := ⟨rfl, rfl, rfl, by decide +kernel, rfl, by decide +kernel, by decide +kernel⟩
theorem bi_papers_above : BindsAll "papers_above" s_papers_above ["twos", "by"] := fun _ _ _ _ _ _ us hl => match us, hl with | [_, _], _ => rfl
def lb1_papers_above (sp_raw_paper_worth : Sd) : SE := (sExt 3 (eLc [5] (iSq (eVar 2)) (gN 5) (tV (eOp2 dGt (eCall 3 sp_raw_paper_worth (eCons (eVar 0) (eCons (eVar 4) (eCons (eVar 5) eNil)))) (eVar 1))) (eTup (eConsF (eVar 4) (eConsF (eVar 5) eNil)))))
def rd_papers_above (sp_all_lots sp_raw_paper_worth : Sd) : SE := (sSeq (sAsg 2 (eApp gSorted (eCons (eLc [5] (iSq (eCall 1 sp_all_lots (eCons (eLRg1 true (eApp gLen (eCons (eVar 0) eNil))) eNil))) (gN 5) (tV (eOp2 dGt (eApp gLen (eCons (eVar 5) eNil)) (eC (.int 0)))) (eVar 5)) eNil)))
  (sSeq (sAsg 3 (eLst eNil))
  (sSeq (sFor (iSq (eTup (eConsF (eC (.str "first")) (eConsF (eC (.str "last")) eNil)))) (gN 4) (lb1_papers_above sp_raw_paper_worth))
  (sRet (eVar 3)))))
theorem w_papers_above {Pg : Program} {w : World} {K : PySem.W.Frag} {mg : PySem.Str → Option Value} {base : Heap} {sp_all_lots sp_raw_paper_worth : Sd} (e : Nm K mg) (c_all_lots : CalD Pg w K mg base 1 "all_lots" 1 sp_all_lots) (c_raw_paper_worth : CalD Pg w K mg base 1 "raw_paper_worth" 3 sp_raw_paper_worth) (f : Addr) : Walks Pg w K mg base n_papers_above "papers_above" (defScope s_papers_above) f 1 (defBody s_papers_above) (rd_papers_above sp_all_lots sp_raw_paper_worth) :=
    fun cdv A outer s H E hr =>
    (dss_cons (ds_set (i := 2) sc_papers_above.nd rfl (by first | exact Or.inl rfl | exact Or.inr rfl) (de_callB (oc_sorted hr.units) (by rfl) e.b_sorted bb_sorted (da_cons (de_lc (own := [("lot", 5)]) rfl sc_papers_above.nd (di_seq (de_callC c_all_lots hr (by rfl) (da_cons (de_listRg (by rfl) (by rfl) e.b_list (by rfl) e.b_range (de_callB oc_len (by rfl) e.b_len bb_len (da_cons (de_var 0) da_nil))) da_nil))) (blkOk_by (by rfl)) (fun _ _ _ _ _ => (dg_name (i := 5) sc_papers_above.nd rfl (by first | exact Or.inl rfl | exact Or.inr rfl))) (fun _ _ _ _ _ => (dts_one (dt_cmp (od_gt hr.units) (de_callB oc_len (by rfl) e.b_len bb_len (da_cons (de_var 5) da_nil)) de_int (by rfl)))) (fun _ _ _ _ _ => (de_var 5))) da_nil)))
      (dss_cons (ds_set (i := 3) sc_papers_above.nd rfl (by first | exact Or.inl rfl | exact Or.inr rfl) (de_lst df_nil))
      (dss_cons (ds_for PassesOwn.never rfl (di_seq (de_tup (df_cons (de_gstr (by rfl) e.c_FIRST_SIDE) (df_cons (de_gstr (by rfl) e.c_LAST_SIDE) df_nil)))) (dg_name (i := 4) sc_papers_above.nd rfl (by first | exact Or.inl rfl | exact Or.inr rfl)) (dss_one (ds_ext 3 (de_lc (own := [("lot", 5)]) rfl sc_papers_above.nd (di_seq (de_var 2)) (blkOk_by (by rfl)) (fun _ _ _ _ _ => (dg_name (i := 5) sc_papers_above.nd rfl (by first | exact Or.inl rfl | exact Or.inr rfl))) (fun _ _ _ _ _ => (dts_one (dt_cmp (od_gt hr.units) (de_callC c_raw_paper_worth hr (by rfl) (da_cons (de_var 0) (da_cons (de_var 4) (da_cons (de_var 5) da_nil)))) (de_var 1) (by rfl)))) (fun _ _ _ _ _ => (de_tup (df_cons (de_var 4) (df_cons (de_var 5) df_nil))))))))
      (dss_one (ds_ret (de_var 3))))))
abbrev n_check_two_minute : List PySem.Str := ["twos", "by"]
theorem sc_check_two_minute : FnScope n_check_two_minute ["twos", "by"] (defScope s_check_two_minute) := ⟨rfl, rfl, rfl, by decide +kernel, rfl, by decide +kernel, by decide +kernel⟩
theorem bi_check_two_minute : BindsAll "check_two_minute" s_check_two_minute ["twos", "by"] := fun _ _ _ _ _ _ us hl => match us, hl with | [_, _], _ => rfl
def rd_check_two_minute (sp_check_twos sp_is_within : Sd) : SE := (sSeq (sDrop (eCall 1 sp_check_twos (eCons (eVar 0) eNil)))
  (sIf (tNt (tV (eCall 3 sp_is_within (eCons (eVar 1) (eCons (eC (.int 0)) (eCons (eC (.int 2000)) eNil)))))) sNever sNext))
theorem w_check_two_minute {Pg : Program} {w : World} {K : PySem.W.Frag} {mg : PySem.Str → Option Value} {base : Heap} {sp_check_twos sp_is_within : Sd} (e : Nm K mg) (c_check_twos : CalD Pg w K mg base 5 "check_twos" 1 sp_check_twos) (c_is_within : CalD Pg w K mg base 2 "is_within" 3 sp_is_within) (f : Addr) : Walks Pg w K mg base n_check_two_minute "check_two_minute" (defScope s_check_two_minute) f 5 (defBody s_check_two_minute) (rd_check_two_minute sp_check_twos sp_is_within) :=
    fun cdv A outer s H E hr =>
    (dss_cons (ds_expr (de_callC c_check_twos hr (by rfl) (da_cons (de_var 0) da_nil)))
      (dss_one (ds_if (dt_not (dt_val (de_callC c_is_within hr (by rfl) (da_cons (de_var 1) (da_cons de_int (da_cons (de_gint (by rfl) e.c_MOST_BY) da_nil)))))) dss_never dss_nil)))
abbrev n_rule_order : List PySem.Str := ["twos", "ahead", "behind", "at", "minutes", "board", "stove"]
theorem sc_rule_order : FnScope n_rule_order ["twos"] (defScope s_rule_order) := ⟨rfl, rfl, rfl, by decide +kernel, rfl, by decide +kernel, by decide +kernel⟩
theorem bi_rule_order : BindsAll "rule_order" s_rule_order ["twos"] := fun _ _ _ _ _ _ us hl => match us, hl with | [_], _ => rfl
def rd_rule_order : SE := (sSeq (sAsg 1 (eApp gSorted (eCons (eLc [3, 5, 6] (iEn (eVar 0)) (gT 2 (gCn (gN 3) (gCn (gT 2 (gCn (gN 5) (gCn (gN 6) gNl))) gNl))) (tV (eOp2 dLe (eVar 5) (eVar 6))) (eTup (eConsF (eVar 5) (eConsF (eVar 3) eNil)))) eNil)))
  (sSeq (sAsg 2 (eApp gSorted (eCons (eLc [3, 5, 6] (iEn (eVar 0)) (gT 2 (gCn (gN 3) (gCn (gT 2 (gCn (gN 5) (gCn (gN 6) gNl))) gNl))) (tV (eOp2 dGt (eVar 5) (eVar 6))) (eTup (eConsF (eOp2 dSub (eC (.int 0)) (eVar 6)) (eConsF (eVar 3) eNil)))) eNil)))
  (sRet (eApp gTuple (eCons (eLc [4, 3] (iSq (eOp2 dAdd (eVar 1) (eVar 2))) (gT 2 (gCn (gN 4) (gCn (gN 3) gNl))) tYs (eVar 3)) eNil)))))
theorem w_rule_order {Pg : Program} {w : World} {K : PySem.W.Frag} {mg : PySem.Str → Option Value} {base : Heap} (e : Nm K mg) (f : Addr) : Walks Pg w K mg base n_rule_order "rule_order" (defScope s_rule_order) f 0 (defBody s_rule_order) (rd_rule_order) :=
    fun cdv A outer s H E hr =>
    (dss_cons (ds_set (i := 1) sc_rule_order.nd rfl (by first | exact Or.inl rfl | exact Or.inr rfl) (de_callB (oc_sorted hr.units) (by rfl) e.b_sorted bb_sorted (da_cons (de_lc (own := [("at", 3), ("board", 5), ("stove", 6)]) rfl sc_rule_order.nd (di_enum (by rfl) e.b_enumerate (de_var 0)) (blkOk_by (by rfl)) (fun _ _ _ _ _ => (dg_tup rfl (dgs_cons (dg_name (i := 3) sc_rule_order.nd rfl (by first | exact Or.inl rfl | exact Or.inr rfl)) (dgs_cons (dg_tup rfl (dgs_cons (dg_name (i := 5) sc_rule_order.nd rfl (by first | exact Or.inl rfl | exact Or.inr rfl)) (dgs_cons (dg_name (i := 6) sc_rule_order.nd rfl (by first | exact Or.inl rfl | exact Or.inr rfl)) dgs_nil))) dgs_nil)))) (fun _ _ _ _ _ => (dts_one (dt_cmp (od_le hr.units) (de_var 5) (de_var 6) (by rfl)))) (fun _ _ _ _ _ => (de_tup (df_cons (de_var 5) (df_cons (de_var 3) df_nil))))) da_nil)))
      (dss_cons (ds_set (i := 2) sc_rule_order.nd rfl (by first | exact Or.inl rfl | exact Or.inr rfl) (de_callB (oc_sorted hr.units) (by rfl) e.b_sorted bb_sorted (da_cons (de_lc (own := [("at", 3), ("board", 5), ("stove", 6)]) rfl sc_rule_order.nd (di_enum (by rfl) e.b_enumerate (de_var 0)) (blkOk_by (by rfl)) (fun _ _ _ _ _ => (dg_tup rfl (dgs_cons (dg_name (i := 3) sc_rule_order.nd rfl (by first | exact Or.inl rfl | exact Or.inr rfl)) (dgs_cons (dg_tup rfl (dgs_cons (dg_name (i := 5) sc_rule_order.nd rfl (by first | exact Or.inl rfl | exact Or.inr rfl)) (dgs_cons (dg_name (i := 6) sc_rule_order.nd rfl (by first | exact Or.inl rfl | exact Or.inr rfl)) dgs_nil))) dgs_nil)))) (fun _ _ _ _ _ => (dts_one (dt_cmp (od_gt hr.units) (de_var 5) (de_var 6) (by rfl)))) (fun _ _ _ _ _ => (de_tup (df_cons (de_op od_sub de_int (de_var 6)) (df_cons (de_var 3) df_nil))))) da_nil)))
      (dss_one (ds_ret (de_callTy oc_tuple (by rfl) e.b_tuple bt_tuple (da_cons (de_lc (own := [("minutes", 4), ("at", 3)]) rfl sc_rule_order.nd (di_seq (de_op od_add (de_var 1) (de_var 2))) (blkOk_by (by rfl)) (fun _ _ _ _ _ => (dg_tup rfl (dgs_cons (dg_name (i := 4) sc_rule_order.nd rfl (by first | exact Or.inl rfl | exact Or.inr rfl)) (dgs_cons (dg_name (i := 3) sc_rule_order.nd rfl (by first | exact Or.inl rfl | exact Or.inr rfl)) dgs_nil)))) (fun _ _ _ _ _ => dts_nil) (fun _ _ _ _ _ => (de_var 3))) da_nil))))))
abbrev n_twos_told : List PySem.Str := ["twos", "by", "order"]
theorem sc_twos_told : FnScope n_twos_told ["twos", "by"] (defScope s_twos_told) := ⟨rfl, rfl, rfl, by decide +kernel, rfl, by decide +kernel, by decide +kernel⟩
theorem bi_twos_told : BindsAll "twos_told" s_twos_told ["twos", "by"] := fun _ _ _ _ _ _ us hl => match us, hl with | [_, _], _ => rfl
def rd_twos_told (sp_check_two_minute sp_raw_end sp_rule_order sp_papers_above sp_all_orders : Sd) : SE := (sSeq (sDrop (eCall 2 sp_check_two_minute (eCons (eVar 0) (eCons (eVar 1) eNil))))
  (sSeq (sIf (tV (eOp2 dGt (eCall 2 sp_raw_end (eCons (eVar 0) (eCons (eCall 1 sp_rule_order (eCons (eVar 0) eNil)) eNil))) (eVar 1))) (sRet (eOp2 dAdd (eTup (eConsF (eC (.str "bar")) eNil)) (eOp2 dIx (eCall 2 sp_papers_above (eCons (eVar 0) (eCons (eVar 1) eNil))) (eC (.int 0))))) sNext)
  (sRet (eTup (eConsF (eC (.str "order")) (eConsF (eOp2 dIx (eLc [2] (iSq (eCall 1 sp_all_orders (eCons (eApp gLen (eCons (eVar 0) eNil)) eNil))) (gN 2) (tV (eOp2 dLe (eCall 2 sp_raw_end (eCons (eVar 0) (eCons (eVar 2) eNil))) (eVar 1))) (eVar 2)) (eC (.int 0))) eNil))))))
theorem w_twos_told {Pg : Program} {w : World} {K : PySem.W.Frag} {mg : PySem.Str → Option Value} {base : Heap} {sp_check_two_minute sp_raw_end sp_rule_order sp_papers_above sp_all_orders : Sd} (e : Nm K mg) (c_check_two_minute : CalD Pg w K mg base 6 "check_two_minute" 2 sp_check_two_minute) (c_raw_end : CalD Pg w K mg base 2 "raw_end" 2 sp_raw_end) (c_rule_order : CalD Pg w K mg base 1 "rule_order" 1 sp_rule_order) (c_papers_above : CalD Pg w K mg base 2 "papers_above" 2 sp_papers_above) (c_all_orders : CalD Pg w K mg base 1 "all_orders" 1 sp_all_orders) (f : Addr) : Walks Pg w K mg base n_twos_told "twos_told" (defScope s_twos_told) f 6 (defBody s_twos_told) (rd_twos_told sp_check_two_minute sp_raw_end sp_rule_order sp_papers_above sp_all_orders) :=
    fun cdv A outer s H E hr =>
    (dss_cons (ds_expr (de_callC c_check_two_minute hr (by rfl) (da_cons (de_var 0) (da_cons (de_var 1) da_nil))))
      (dss_cons (ds_if (dt_cmp (od_gt hr.units) (de_callC c_raw_end hr (by rfl) (da_cons (de_var 0) (da_cons (de_callC c_rule_order hr (by rfl) (da_cons (de_var 0) da_nil)) da_nil))) (de_var 1) (by rfl)) (dss_one (ds_ret (de_op od_add (de_tup (df_cons (de_gstr (by rfl) e.c_PAPER_BARS) df_nil)) (de_ix (od_ix hr.units) (de_callC c_papers_above hr (by rfl) (da_cons (de_var 0) (da_cons (de_var 1) da_nil))) de_int (fun _ _ => rfl))))) dss_nil)
      (dss_one (ds_ret (de_tup (df_cons (de_gstr (by rfl) e.c_ORDER_TOLD) (df_cons (de_ix (od_ix hr.units) (de_lc (own := [("order", 2)]) rfl sc_twos_told.nd (di_seq (de_callC c_all_orders hr (by rfl) (da_cons (de_callB oc_len (by rfl) e.b_len bb_len (da_cons (de_var 0) da_nil)) da_nil))) (blkOk_by (by rfl)) (fun _ _ _ _ _ => (dg_name (i := 2) sc_twos_told.nd rfl (by first | exact Or.inl rfl | exact Or.inr rfl))) (fun _ _ _ _ _ => (dts_one (dt_cmp (od_le hr.units) (de_callC c_raw_end hr (by rfl) (da_cons (de_var 0) (da_cons (de_var 2) da_nil))) (de_var 1) (by rfl)))) (fun _ _ _ _ _ => (de_var 2))) de_int (fun _ _ => rfl)) df_nil)))))))
abbrev n_rule_of_twos : List PySem.Str := ["twos"]
theorem sc_rule_of_twos : FnScope n_rule_of_twos ["twos"] (defScope s_rule_of_twos) := ⟨rfl, rfl, rfl, by decide +kernel, rfl, by decide +kernel, by decide +kernel⟩
theorem bi_rule_of_twos : BindsAll "rule_of_twos" s_rule_of_twos ["twos"] := fun _ _ _ _ _ _ us hl => match us, hl with | [_], _ => rfl
def rd_rule_of_twos (sp_check_twos sp_rule_order : Sd) : SE := (sSeq (sDrop (eCall 1 sp_check_twos (eCons (eVar 0) eNil)))
  (sRet (eCall 1 sp_rule_order (eCons (eVar 0) eNil))))
theorem w_rule_of_twos {Pg : Program} {w : World} {K : PySem.W.Frag} {mg : PySem.Str → Option Value} {base : Heap} {sp_check_twos sp_rule_order : Sd} (e : Nm K mg) (c_check_twos : CalD Pg w K mg base 5 "check_twos" 1 sp_check_twos) (c_rule_order : CalD Pg w K mg base 1 "rule_order" 1 sp_rule_order) (f : Addr) : Walks Pg w K mg base n_rule_of_twos "rule_of_twos" (defScope s_rule_of_twos) f 5 (defBody s_rule_of_twos) (rd_rule_of_twos sp_check_twos sp_rule_order) :=
    fun cdv A outer s H E hr =>
    (dss_cons (ds_expr (de_callC c_check_twos hr (by rfl) (da_cons (de_var 0) da_nil)))
      (dss_one (ds_ret (de_callC c_rule_order hr (by rfl) (da_cons (de_var 0) da_nil)))))
abbrev n_least_end : List PySem.Str := ["twos"]
theorem sc_least_end : FnScope n_least_end ["twos"] (defScope s_least_end) := ⟨rfl, rfl, rfl, by decide +kernel, rfl, by decide +kernel, by decide +kernel⟩
theorem bi_least_end : BindsAll "least_end" s_least_end ["twos"] := fun _ _ _ _ _ _ us hl => match us, hl with | [_], _ => rfl
def rd_least_end (sp_check_twos sp_raw_end sp_rule_order : Sd) : SE := (sSeq (sDrop (eCall 1 sp_check_twos (eCons (eVar 0) eNil)))
  (sRet (eCall 2 sp_raw_end (eCons (eVar 0) (eCons (eCall 1 sp_rule_order (eCons (eVar 0) eNil)) eNil)))))
theorem w_least_end {Pg : Program} {w : World} {K : PySem.W.Frag} {mg : PySem.Str → Option Value} {base : Heap} {sp_check_twos sp_raw_end sp_rule_order : Sd} (e : Nm K mg) (c_check_twos : CalD Pg w K mg base 5 "check_twos" 1 sp_check_twos) (c_raw_end : CalD Pg w K mg base 2 "raw_end" 2 sp_raw_end) (c_rule_order : CalD Pg w K mg base 1 "rule_order" 1 sp_rule_order) (f : Addr) : Walks Pg w K mg base n_least_end "least_end" (defScope s_least_end) f 5 (defBody s_least_end) (rd_least_end sp_check_twos sp_raw_end sp_rule_order) :=
    fun cdv A outer s H E hr =>
    (dss_cons (ds_expr (de_callC c_check_twos hr (by rfl) (da_cons (de_var 0) da_nil)))
      (dss_one (ds_ret (de_callC c_raw_end hr (by rfl) (da_cons (de_var 0) (da_cons (de_callC c_rule_order hr (by rfl) (da_cons (de_var 0) da_nil)) da_nil))))))
abbrev n_best_two_orders : List PySem.Str := ["twos", "least", "order"]
theorem sc_best_two_orders : FnScope n_best_two_orders ["twos"] (defScope s_best_two_orders) := ⟨rfl, rfl, rfl, by decide +kernel, rfl, by decide +kernel, by decide +kernel⟩
theorem bi_best_two_orders : BindsAll "best_two_orders" s_best_two_orders ["twos"] := fun _ _ _ _ _ _ us hl => match us, hl with | [_], _ => rfl
def rd_best_two_orders (sp_check_twos sp_raw_end sp_rule_order sp_all_orders : Sd) : SE := (sSeq (sDrop (eCall 1 sp_check_twos (eCons (eVar 0) eNil)))
  (sSeq (sAsg 1 (eCall 2 sp_raw_end (eCons (eVar 0) (eCons (eCall 1 sp_rule_order (eCons (eVar 0) eNil)) eNil))))
  (sRet (eApp gLen (eCons (eLc [2] (iSq (eCall 1 sp_all_orders (eCons (eApp gLen (eCons (eVar 0) eNil)) eNil))) (gN 2) (tV (eOp2 dEq (eCall 2 sp_raw_end (eCons (eVar 0) (eCons (eVar 2) eNil))) (eVar 1))) (eC (.int 1))) eNil)))))
theorem w_best_two_orders {Pg : Program} {w : World} {K : PySem.W.Frag} {mg : PySem.Str → Option Value} {base : Heap} {sp_check_twos sp_raw_end sp_rule_order sp_all_orders : Sd} (e : Nm K mg) (c_check_twos : CalD Pg w K mg base 5 "check_twos" 1 sp_check_twos) (c_raw_end : CalD Pg w K mg base 2 "raw_end" 2 sp_raw_end) (c_rule_order : CalD Pg w K mg base 1 "rule_order" 1 sp_rule_order) (c_all_orders : CalD Pg w K mg base 1 "all_orders" 1 sp_all_orders) (f : Addr) : Walks Pg w K mg base n_best_two_orders "best_two_orders" (defScope s_best_two_orders) f 5 (defBody s_best_two_orders) (rd_best_two_orders sp_check_twos sp_raw_end sp_rule_order sp_all_orders) :=
    fun cdv A outer s H E hr =>
    (dss_cons (ds_expr (de_callC c_check_twos hr (by rfl) (da_cons (de_var 0) da_nil)))
      (dss_cons (ds_set (i := 1) sc_best_two_orders.nd rfl (by first | exact Or.inl rfl | exact Or.inr rfl) (de_callC c_raw_end hr (by rfl) (da_cons (de_var 0) (da_cons (de_callC c_rule_order hr (by rfl) (da_cons (de_var 0) da_nil)) da_nil))))
      (dss_one (ds_ret (de_callB oc_len (by rfl) e.b_len bb_len (da_cons (de_lc (own := [("order", 2)]) rfl sc_best_two_orders.nd (di_seq (de_callC c_all_orders hr (by rfl) (da_cons (de_callB oc_len (by rfl) e.b_len bb_len (da_cons (de_var 0) da_nil)) da_nil))) (blkOk_by (by rfl)) (fun _ _ _ _ _ => (dg_name (i := 2) sc_best_two_orders.nd rfl (by first | exact Or.inl rfl | exact Or.inr rfl))) (fun _ _ _ _ _ => (dts_one (dt_cmp (od_eq hr.units) (de_callC c_raw_end hr (by rfl) (da_cons (de_var 0) (da_cons (de_var 2) da_nil))) (de_var 1) (by rfl)))) (fun _ _ _ _ _ => de_int)) da_nil))))))
abbrev n_raw_barring : List PySem.Str := ["twos", "order", "dish", "left", "stove"]
theorem sc_raw_barring : FnScope n_raw_barring ["twos", "order"] (defScope s_raw_barring) := ⟨rfl, rfl, rfl, by decide +kernel, rfl, by decide +kernel, by decide +kernel⟩
theorem bi_raw_barring : BindsAll "raw_barring" s_raw_barring ["twos", "order"] := fun _ _ _ _ _ _ us hl => match us, hl with | [_, _], _ => rfl
def lb1_raw_barring : SE := (sSeq (sAsg 3 (eApp gMax (eCons (eOp2 dAdd (eVar 3) (eOp2 dIx (eOp2 dIx (eVar 0) (eVar 2)) (eC (.int 0)))) (eCons (eVar 4) eNil))))
  (sAsg 4 (eOp2 dAdd (eVar 3) (eOp2 dIx (eOp2 dIx (eVar 0) (eVar 2)) (eC (.int 1))))))
def rd_raw_barring : SE := (sSeq (sPars [3, 4] (vCons (eC (.int 0)) (vCons (eC (.int 0)) vNil)))
  (sSeq (sFor (iSq (eVar 1)) (gN 2) lb1_raw_barring)
  (sRet (eVar 4))))
theorem w_raw_barring {Pg : Program} {w : World} {K : PySem.W.Frag} {mg : PySem.Str → Option Value} {base : Heap} (e : Nm K mg) (f : Addr) : Walks Pg w K mg base n_raw_barring "raw_barring" (defScope s_raw_barring) f 0 (defBody s_raw_barring) (rd_raw_barring) :=
    fun cdv A outer s H E hr =>
    (dss_cons (by first | exact ds_par2 (i := 3) (j := 4) rfl sc_raw_barring.nd rfl rfl (by decide) (by rfl) (by rfl) (dv_cons de_int (dv_cons de_int dv_nil)) (by rfl) | exact ds_parT (is := [3, 4]) (n := 2) rfl (pgs_cons (pg_name (i := 3) sc_raw_barring.nd rfl (by first | exact Or.inl rfl | exact Or.inr rfl)) (pgs_cons (pg_name (i := 4) sc_raw_barring.nd rfl (by first | exact Or.inl rfl | exact Or.inr rfl)) pgs_nil)) (dv_cons de_int (dv_cons de_int dv_nil)))
      (dss_cons (ds_for PassesOwn.never rfl (di_seq (de_var 1)) (dg_name (i := 2) sc_raw_barring.nd rfl (by first | exact Or.inl rfl | exact Or.inr rfl)) (dss_cons (ds_set (i := 3) sc_raw_barring.nd rfl (by first | exact Or.inl rfl | exact Or.inr rfl) (de_callB (oc_max rfl hr.units) (by rfl) e.b_max bb_max (da_cons (de_op od_add (de_var 3) (de_ix (od_ix hr.units) (de_ix (od_ix hr.units) (de_var 0) (de_var 2) (fun _ _ => rfl)) de_int (fun _ _ => rfl))) (da_cons (de_var 4) da_nil))))
      (dss_one (ds_set (i := 4) sc_raw_barring.nd rfl (by first | exact Or.inl rfl | exact Or.inr rfl) (de_op od_add (de_var 3) (de_ix (od_ix hr.units) (de_ix (od_ix hr.units) (de_var 0) (de_var 2) (fun _ _ => rfl)) de_int (fun _ _ => rfl)))))))
      (dss_one (ds_ret (de_var 4)))))
abbrev n_end_without_place : List PySem.Str := ["twos", "order"]
theorem sc_end_without_place : FnScope n_end_without_place ["twos", "order"] (defScope s_end_without_place) := ⟨rfl, rfl, rfl, by decide +kernel, rfl, by decide +kernel, by decide +kernel⟩
theorem bi_end_without_place : BindsAll "end_without_place" s_end_without_place ["twos", "order"] := fun _ _ _ _ _ _ us hl => match us, hl with | [_, _], _ => rfl
def rd_end_without_place (sp_check_two_order sp_raw_barring : Sd) : SE := (sSeq (sDrop (eCall 2 sp_check_two_order (eCons (eVar 0) (eCons (eVar 1) eNil))))
  (sRet (eCall 2 sp_raw_barring (eCons (eVar 0) (eCons (eVar 1) eNil)))))
theorem w_end_without_place {Pg : Program} {w : World} {K : PySem.W.Frag} {mg : PySem.Str → Option Value} {base : Heap} {sp_check_two_order sp_raw_barring : Sd} (e : Nm K mg) (c_check_two_order : CalD Pg w K mg base 6 "check_two_order" 2 sp_check_two_order) (c_raw_barring : CalD Pg w K mg base 1 "raw_barring" 2 sp_raw_barring) (f : Addr) : Walks Pg w K mg base n_end_without_place "end_without_place" (defScope s_end_without_place) f 6 (defBody s_end_without_place) (rd_end_without_place sp_check_two_order sp_raw_barring) :=
    fun cdv A outer s H E hr =>
    (dss_cons (ds_expr (de_callC c_check_two_order hr (by rfl) (da_cons (de_var 0) (da_cons (de_var 1) da_nil))))
      (dss_one (ds_ret (de_callC c_raw_barring hr (by rfl) (da_cons (de_var 0) (da_cons (de_var 1) da_nil))))))
abbrev n_end_at_once : List PySem.Str := ["twos", "order", "dish", "board", "stove", "begin"]
theorem sc_end_at_once : FnScope n_end_at_once ["twos", "order"] (defScope s_end_at_once) := ⟨rfl, rfl, rfl, by decide +kernel, rfl, by decide +kernel, by decide +kernel⟩
theorem bi_end_at_once : BindsAll "end_at_once" s_end_at_once ["twos", "order"] := fun _ _ _ _ _ _ us hl => match us, hl with | [_, _], _ => rfl
def lb1_end_at_once : SE := (sSeq (sAsg 5 (eApp gMax (eCons (eVar 3) (eCons (eOp2 dSub (eVar 4) (eOp2 dIx (eOp2 dIx (eVar 0) (eVar 2)) (eC (.int 0)))) eNil))))
  (sSeq (sAsg 3 (eOp2 dAdd (eVar 5) (eOp2 dIx (eOp2 dIx (eVar 0) (eVar 2)) (eC (.int 0)))))
  (sAsg 4 (eOp2 dAdd (eVar 3) (eOp2 dIx (eOp2 dIx (eVar 0) (eVar 2)) (eC (.int 1)))))))
def rd_end_at_once (sp_check_two_order : Sd) : SE := (sSeq (sDrop (eCall 2 sp_check_two_order (eCons (eVar 0) (eCons (eVar 1) eNil))))
  (sSeq (sPars [3, 4] (vCons (eC (.int 0)) (vCons (eC (.int 0)) vNil)))
  (sSeq (sFor (iSq (eVar 1)) (gN 2) lb1_end_at_once)
  (sRet (eVar 4)))))
theorem w_end_at_once {Pg : Program} {w : World} {K : PySem.W.Frag} {mg : PySem.Str → Option Value} {base : Heap} {sp_check_two_order : Sd} (e : Nm K mg) (c_check_two_order : CalD Pg w K mg base 6 "check_two_order" 2 sp_check_two_order) (f : Addr) : Walks Pg w K mg base n_end_at_once "end_at_once" (defScope s_end_at_once) f 6 (defBody s_end_at_once) (rd_end_at_once sp_check_two_order) :=
    fun cdv A outer s H E hr =>
    (dss_cons (ds_expr (de_callC c_check_two_order hr (by rfl) (da_cons (de_var 0) (da_cons (de_var 1) da_nil))))
      (dss_cons (by first | exact ds_par2 (i := 3) (j := 4) rfl sc_end_at_once.nd rfl rfl (by decide) (by rfl) (by rfl) (dv_cons de_int (dv_cons de_int dv_nil)) (by rfl) | exact ds_parT (is := [3, 4]) (n := 2) rfl (pgs_cons (pg_name (i := 3) sc_end_at_once.nd rfl (by first | exact Or.inl rfl | exact Or.inr rfl)) (pgs_cons (pg_name (i := 4) sc_end_at_once.nd rfl (by first | exact Or.inl rfl | exact Or.inr rfl)) pgs_nil)) (dv_cons de_int (dv_cons de_int dv_nil)))
      (dss_cons (ds_for PassesOwn.never rfl (di_seq (de_var 1)) (dg_name (i := 2) sc_end_at_once.nd rfl (by first | exact Or.inl rfl | exact Or.inr rfl)) (dss_cons (ds_set (i := 5) sc_end_at_once.nd rfl (by first | exact Or.inl rfl | exact Or.inr rfl) (de_callB (oc_max rfl hr.units) (by rfl) e.b_max bb_max (da_cons (de_var 3) (da_cons (de_op od_sub (de_var 4) (de_ix (od_ix hr.units) (de_ix (od_ix hr.units) (de_var 0) (de_var 2) (fun _ _ => rfl)) de_int (fun _ _ => rfl))) da_nil))))
      (dss_cons (ds_set (i := 3) sc_end_at_once.nd rfl (by first | exact Or.inl rfl | exact Or.inr rfl) (de_op od_add (de_var 5) (de_ix (od_ix hr.units) (de_ix (od_ix hr.units) (de_var 0) (de_var 2) (fun _ _ => rfl)) de_int (fun _ _ => rfl))))
      (dss_one (ds_set (i := 4) sc_end_at_once.nd rfl (by first | exact Or.inl rfl | exact Or.inr rfl) (de_op od_add (de_var 3) (de_ix (od_ix hr.units) (de_ix (od_ix hr.units) (de_var 0) (de_var 2) (fun _ _ => rfl)) de_int (fun _ _ => rfl))))))))
      (dss_one (ds_ret (de_var 4))))))
abbrev n_least_at_once : List PySem.Str := ["twos", "order"]
theorem sc_least_at_once : FnScope n_least_at_once ["twos"] (defScope s_least_at_once) := ⟨rfl, rfl, rfl, by decide +kernel, rfl, by decide +kernel, by decide +kernel⟩
theorem bi_least_at_once : BindsAll "least_at_once" s_least_at_once ["twos"] := fun _ _ _ _ _ _ us hl => match us, hl with | [_], _ => rfl
def rd_least_at_once (sp_check_twos sp_raw_barring sp_all_orders : Sd) : SE := (sSeq (sDrop (eCall 1 sp_check_twos (eCons (eVar 0) eNil)))
  (sRet (eApp gMin (eCons (eLc [1] (iSq (eCall 1 sp_all_orders (eCons (eApp gLen (eCons (eVar 0) eNil)) eNil))) (gN 1) tYs (eTup (eConsF (eCall 2 sp_raw_barring (eCons (eVar 0) (eCons (eVar 1) eNil))) (eConsF (eVar 1) eNil)))) eNil))))
theorem w_least_at_once {Pg : Program} {w : World} {K : PySem.W.Frag} {mg : PySem.Str → Option Value} {base : Heap} {sp_check_twos sp_raw_barring sp_all_orders : Sd} (e : Nm K mg) (c_check_twos : CalD Pg w K mg base 5 "check_twos" 1 sp_check_twos) (c_raw_barring : CalD Pg w K mg base 1 "raw_barring" 2 sp_raw_barring) (c_all_orders : CalD Pg w K mg base 1 "all_orders" 1 sp_all_orders) (f : Addr) : Walks Pg w K mg base n_least_at_once "least_at_once" (defScope s_least_at_once) f 5 (defBody s_least_at_once) (rd_least_at_once sp_check_twos sp_raw_barring sp_all_orders) :=
    fun cdv A outer s H E hr =>
    (dss_cons (ds_expr (de_callC c_check_twos hr (by rfl) (da_cons (de_var 0) da_nil)))
      (dss_one (ds_ret (de_callB (oc_min rfl hr.units) (by rfl) e.b_min bb_min (da_cons (de_lc (own := [("order", 1)]) rfl sc_least_at_once.nd (di_seq (de_callC c_all_orders hr (by rfl) (da_cons (de_callB oc_len (by rfl) e.b_len bb_len (da_cons (de_var 0) da_nil)) da_nil))) (blkOk_by (by rfl)) (fun _ _ _ _ _ => (dg_name (i := 1) sc_least_at_once.nd rfl (by first | exact Or.inl rfl | exact Or.inr rfl))) (fun _ _ _ _ _ => dts_nil) (fun _ _ _ _ _ => (de_tup (df_cons (de_callC c_raw_barring hr (by rfl) (da_cons (de_var 0) (da_cons (de_var 1) da_nil))) (df_cons (de_var 1) df_nil))))) da_nil)))))
abbrev n_check_threes : List PySem.Str := ["threes", "three"]
theorem sc_check_threes : FnScope n_check_threes ["threes"] (defScope s_check_threes) := ⟨rfl, rfl, rfl, by decide +kernel, rfl, by decide +kernel, by decide +kernel⟩
theorem bi_check_threes : BindsAll "check_threes" s_check_threes ["threes"] := fun _ _ _ _ _ _ us hl => match us, hl with | [_], _ => rfl
def rd_check_threes (sp_is_sized sp_are_minutes : Sd) : SE := (sIf (tOr (tNt (tV (eCall 3 sp_is_sized (eCons (eVar 0) (eCons (eC (.int 1)) (eCons (eC (.int 6)) eNil)))))) (tNt (tV (eApp gAll (eCons (eLc [1] (iSq (eVar 0)) (gN 1) tYs (eCall 2 sp_are_minutes (eCons (eVar 1) (eCons (eC (.int 3)) eNil)))) eNil))))) sNever sNext)
theorem w_check_threes {Pg : Program} {w : World} {K : PySem.W.Frag} {mg : PySem.Str → Option Value} {base : Heap} {sp_is_sized sp_are_minutes : Sd} (e : Nm K mg) (c_is_sized : CalD Pg w K mg base 1 "is_sized" 3 sp_is_sized) (c_are_minutes : CalD Pg w K mg base 3 "are_minutes" 2 sp_are_minutes) (f : Addr) : Walks Pg w K mg base n_check_threes "check_threes" (defScope s_check_threes) f 3 (defBody s_check_threes) (rd_check_threes sp_is_sized sp_are_minutes) :=
    fun cdv A outer s H E hr =>
    (dss_one (ds_if (DW.dt (dw_or (dt_not (dt_val (de_callC c_is_sized hr (by rfl) (da_cons (de_var 0) (da_cons de_int (da_cons (de_gint (by rfl) e.c_MOST_THREES) da_nil)))))) (dw_or1 (dt_not (dt_val (de_callB (oc_all rfl) (by rfl) e.b_all bb_all (da_cons (de_lc (own := [("three", 1)]) rfl sc_check_threes.nd (di_seq (de_var 0)) (blkOk_by (by rfl)) (fun _ _ _ _ _ => (dg_name (i := 1) sc_check_threes.nd rfl (by first | exact Or.inl rfl | exact Or.inr rfl))) (fun _ _ _ _ _ => dts_nil) (fun _ _ _ _ _ => (de_callC c_are_minutes hr (by rfl) (da_cons (de_var 1) (da_cons de_int da_nil))))) da_nil))))))) dss_never dss_nil))
abbrev n_raw_threes : List PySem.Str := ["threes", "order", "ends", "dish"]
theorem sc_raw_threes : FnScope n_raw_threes ["threes", "order"] (defScope s_raw_threes) := ⟨rfl, rfl, rfl, by decide +kernel, rfl, by decide +kernel, by decide +kernel⟩
theorem bi_raw_threes : BindsAll "raw_threes" s_raw_threes ["threes", "order"] := fun _ _ _ _ _ _ us hl => match us, hl with | [_, _], _ => rfl
def lb1_raw_threes : SE := (sSeq (sAugIx 2 dIAdd (eC (.int 0)) (eOp2 dIx (eOp2 dIx (eVar 0) (eVar 3)) (eC (.int 0))))
  (sSeq (sSetIx 2 (eC (.int 1)) (eOp2 dAdd (eApp gMax (eCons (eOp2 dIx (eVar 2) (eC (.int 0))) (eCons (eOp2 dIx (eVar 2) (eC (.int 1))) eNil))) (eOp2 dIx (eOp2 dIx (eVar 0) (eVar 3)) (eC (.int 1)))))
  (sSetIx 2 (eC (.int 2)) (eOp2 dAdd (eApp gMax (eCons (eOp2 dIx (eVar 2) (eC (.int 1))) (eCons (eOp2 dIx (eVar 2) (eC (.int 2))) eNil))) (eOp2 dIx (eOp2 dIx (eVar 0) (eVar 3)) (eC (.int 2)))))))
def rd_raw_threes : SE := (sSeq (sAsg 2 (eLst (eConsF (eC (.int 0)) (eConsF (eC (.int 0)) (eConsF (eC (.int 0)) eNil)))))
  (sSeq (sFor (iSq (eVar 1)) (gN 3) lb1_raw_threes)
  (sRet (eOp2 dIx (eVar 2) (eC (.int 2))))))
theorem w_raw_threes {Pg : Program} {w : World} {K : PySem.W.Frag} {mg : PySem.Str → Option Value} {base : Heap} (e : Nm K mg) (f : Addr) : Walks Pg w K mg base n_raw_threes "raw_threes" (defScope s_raw_threes) f 0 (defBody s_raw_threes) (rd_raw_threes) :=
    fun cdv A outer s H E hr =>
    (dss_cons (ds_set (i := 2) sc_raw_threes.nd rfl (by first | exact Or.inl rfl | exact Or.inr rfl) (de_lst (df_cons de_int (df_cons de_int (df_cons de_int df_nil)))))
      (dss_cons (ds_for PassesOwn.never rfl (di_seq (de_var 1)) (dg_name (i := 3) sc_raw_threes.nd rfl (by first | exact Or.inl rfl | exact Or.inr rfl)) (dss_cons (ds_augIx 2 oi_add de_int (de_ix (od_ix hr.units) (de_ix (od_ix hr.units) (de_var 0) (de_var 3) (fun _ _ => rfl)) de_int (fun _ _ => rfl)))
      (dss_cons (ds_setIx 2 de_int (de_op od_add (de_callB (oc_max rfl hr.units) (by rfl) e.b_max bb_max (da_cons (de_ix (od_ix hr.units) (de_var 2) de_int (fun _ _ => rfl)) (da_cons (de_ix (od_ix hr.units) (de_var 2) de_int (fun _ _ => rfl)) da_nil))) (de_ix (od_ix hr.units) (de_ix (od_ix hr.units) (de_var 0) (de_var 3) (fun _ _ => rfl)) de_int (fun _ _ => rfl))))
      (dss_one (ds_setIx 2 de_int (de_op od_add (de_callB (oc_max rfl hr.units) (by rfl) e.b_max bb_max (da_cons (de_ix (od_ix hr.units) (de_var 2) de_int (fun _ _ => rfl)) (da_cons (de_ix (od_ix hr.units) (de_var 2) de_int (fun _ _ => rfl)) da_nil))) (de_ix (od_ix hr.units) (de_ix (od_ix hr.units) (de_var 0) (de_var 3) (fun _ _ => rfl)) de_int (fun _ _ => rfl))))))))
      (dss_one (ds_ret (de_ix (od_ix hr.units) (de_var 2) de_int (fun _ _ => rfl))))))
abbrev n_end_of_threes : List PySem.Str := ["threes", "order"]
theorem sc_end_of_threes : FnScope n_end_of_threes ["threes", "order"] (defScope s_end_of_threes) := ⟨rfl, rfl, rfl, by decide +kernel, rfl, by decide +kernel, by decide +kernel⟩
theorem bi_end_of_threes : BindsAll "end_of_threes" s_end_of_threes ["threes", "order"] := fun _ _ _ _ _ _ us hl => match us, hl with | [_, _], _ => rfl
def rd_end_of_threes (sp_check_threes sp_raw_threes sp_is_order : Sd) : SE := (sSeq (sDrop (eCall 1 sp_check_threes (eCons (eVar 0) eNil)))
  (sSeq (sIf (tNt (tV (eCall 2 sp_is_order (eCons (eVar 1) (eCons (eApp gLen (eCons (eVar 0) eNil)) eNil))))) sNever sNext)
  (sRet (eCall 2 sp_raw_threes (eCons (eVar 0) (eCons (eVar 1) eNil))))))
theorem w_end_of_threes {Pg : Program} {w : World} {K : PySem.W.Frag} {mg : PySem.Str → Option Value} {base : Heap} {sp_check_threes sp_raw_threes sp_is_order : Sd} (e : Nm K mg) (c_check_threes : CalD Pg w K mg base 4 "check_threes" 1 sp_check_threes) (c_raw_threes : CalD Pg w K mg base 1 "raw_threes" 2 sp_raw_threes) (c_is_order : CalD Pg w K mg base 2 "is_order" 2 sp_is_order) (f : Addr) : Walks Pg w K mg base n_end_of_threes "end_of_threes" (defScope s_end_of_threes) f 4 (defBody s_end_of_threes) (rd_end_of_threes sp_check_threes sp_raw_threes sp_is_order) :=
    fun cdv A outer s H E hr =>
    (dss_cons (ds_expr (de_callC c_check_threes hr (by rfl) (da_cons (de_var 0) da_nil)))
      (dss_cons (ds_if (dt_not (dt_val (de_callC c_is_order hr (by rfl) (da_cons (de_var 1) (da_cons (de_callB oc_len (by rfl) e.b_len bb_len (da_cons (de_var 0) da_nil)) da_nil))))) dss_never dss_nil)
      (dss_one (ds_ret (de_callC c_raw_threes hr (by rfl) (da_cons (de_var 0) (da_cons (de_var 1) da_nil)))))))
abbrev n_least_of_threes : List PySem.Str := ["threes", "order"]
theorem sc_least_of_threes : FnScope n_least_of_threes ["threes"] (defScope s_least_of_threes) := ⟨rfl, rfl, rfl, by decide +kernel, rfl, by decide +kernel, by decide +kernel⟩
theorem bi_least_of_threes : BindsAll "least_of_threes" s_least_of_threes ["threes"] := fun _ _ _ _ _ _ us hl => match us, hl with | [_], _ => rfl
def rd_least_of_threes (sp_check_threes sp_raw_threes sp_all_orders : Sd) : SE := (sSeq (sDrop (eCall 1 sp_check_threes (eCons (eVar 0) eNil)))
  (sRet (eApp gMin (eCons (eLc [1] (iSq (eCall 1 sp_all_orders (eCons (eApp gLen (eCons (eVar 0) eNil)) eNil))) (gN 1) tYs (eTup (eConsF (eCall 2 sp_raw_threes (eCons (eVar 0) (eCons (eVar 1) eNil))) (eConsF (eVar 1) eNil)))) eNil))))
theorem w_least_of_threes {Pg : Program} {w : World} {K : PySem.W.Frag} {mg : PySem.Str → Option Value} {base : Heap} {sp_check_threes sp_raw_threes sp_all_orders : Sd} (e : Nm K mg) (c_check_threes : CalD Pg w K mg base 4 "check_threes" 1 sp_check_threes) (c_raw_threes : CalD Pg w K mg base 1 "raw_threes" 2 sp_raw_threes) (c_all_orders : CalD Pg w K mg base 1 "all_orders" 1 sp_all_orders) (f : Addr) : Walks Pg w K mg base n_least_of_threes "least_of_threes" (defScope s_least_of_threes) f 4 (defBody s_least_of_threes) (rd_least_of_threes sp_check_threes sp_raw_threes sp_all_orders) :=
    fun cdv A outer s H E hr =>
    (dss_cons (ds_expr (de_callC c_check_threes hr (by rfl) (da_cons (de_var 0) da_nil)))
      (dss_one (ds_ret (de_callB (oc_min rfl hr.units) (by rfl) e.b_min bb_min (da_cons (de_lc (own := [("order", 1)]) rfl sc_least_of_threes.nd (di_seq (de_callC c_all_orders hr (by rfl) (da_cons (de_callB oc_len (by rfl) e.b_len bb_len (da_cons (de_var 0) da_nil)) da_nil))) (blkOk_by (by rfl)) (fun _ _ _ _ _ => (dg_name (i := 1) sc_least_of_threes.nd rfl (by first | exact Or.inl rfl | exact Or.inr rfl))) (fun _ _ _ _ _ => dts_nil) (fun _ _ _ _ _ => (de_tup (df_cons (de_callC c_raw_threes hr (by rfl) (da_cons (de_var 0) (da_cons (de_var 1) da_nil))) (df_cons (de_var 1) df_nil))))) da_nil)))))
abbrev n_is_middle_light : List PySem.Str := ["threes", "most", "first", "middle", "last", "three"]
theorem sc_is_middle_light : FnScope n_is_middle_light ["threes"] (defScope s_is_middle_light) := ⟨rfl, rfl, rfl, by decide +kernel, rfl, by decide +kernel, by decide +kernel⟩
theorem bi_is_middle_light : BindsAll "is_middle_light" s_is_middle_light ["threes"] := fun _ _ _ _ _ _ us hl => match us, hl with | [_], _ => rfl
def rd_is_middle_light (sp_check_threes : Sd) : SE := (sSeq (sDrop (eCall 1 sp_check_threes (eCons (eVar 0) eNil)))
  (sSeq (sAsg 1 (eApp gMax (eCons (eLc [2, 3, 4] (iSq (eVar 0)) (gT 3 (gCn (gN 2) (gCn (gN 3) (gCn (gN 4) gNl)))) tYs (eVar 3)) eNil)))
  (sRet (eOr (eOp2 dLe (eVar 1) (eApp gMin (eCons (eLc [5] (iSq (eVar 0)) (gN 5) tYs (eOp2 dIx (eVar 5) (eC (.int 0)))) eNil))) (eOp2 dLe (eVar 1) (eApp gMin (eCons (eLc [5] (iSq (eVar 0)) (gN 5) tYs (eOp2 dIx (eVar 5) (eC (.int 2)))) eNil)))))))
theorem w_is_middle_light {Pg : Program} {w : World} {K : PySem.W.Frag} {mg : PySem.Str → Option Value} {base : Heap} {sp_check_threes : Sd} (e : Nm K mg) (c_check_threes : CalD Pg w K mg base 4 "check_threes" 1 sp_check_threes) (f : Addr) : Walks Pg w K mg base n_is_middle_light "is_middle_light" (defScope s_is_middle_light) f 4 (defBody s_is_middle_light) (rd_is_middle_light sp_check_threes) :=
    fun cdv A outer s H E hr =>
    (dss_cons (ds_expr (de_callC c_check_threes hr (by rfl) (da_cons (de_var 0) da_nil)))
      (dss_cons (ds_set (i := 1) sc_is_middle_light.nd rfl (by first | exact Or.inl rfl | exact Or.inr rfl) (de_callB (oc_max rfl hr.units) (by rfl) e.b_max bb_max (da_cons (de_lc (own := [("first", 2), ("middle", 3), ("last", 4)]) rfl sc_is_middle_light.nd (di_seq (de_var 0)) (blkOk_by (by rfl)) (fun _ _ _ _ _ => (dg_tup rfl (dgs_cons (dg_name (i := 2) sc_is_middle_light.nd rfl (by first | exact Or.inl rfl | exact Or.inr rfl)) (dgs_cons (dg_name (i := 3) sc_is_middle_light.nd rfl (by first | exact Or.inl rfl | exact Or.inr rfl)) (dgs_cons (dg_name (i := 4) sc_is_middle_light.nd rfl (by first | exact Or.inl rfl | exact Or.inr rfl)) dgs_nil))))) (fun _ _ _ _ _ => dts_nil) (fun _ _ _ _ _ => (de_var 3))) da_nil)))
      (dss_one (ds_ret (de_or (de_cmp (od_le hr.units) (de_var 1) (de_callB (oc_min rfl hr.units) (by rfl) e.b_min bb_min (da_cons (de_lc (own := [("three", 5)]) rfl sc_is_middle_light.nd (di_seq (de_var 0)) (blkOk_by (by rfl)) (fun _ _ _ _ _ => (dg_name (i := 5) sc_is_middle_light.nd rfl (by first | exact Or.inl rfl | exact Or.inr rfl))) (fun _ _ _ _ _ => dts_nil) (fun _ _ _ _ _ => (de_ix (od_ix hr.units) (de_var 5) de_int (fun _ _ => rfl)))) da_nil)) (by rfl)) (de_one (de_cmp (od_le hr.units) (de_var 1) (de_callB (oc_min rfl hr.units) (by rfl) e.b_min bb_min (da_cons (de_lc (own := [("three", 5)]) rfl sc_is_middle_light.nd (di_seq (de_var 0)) (blkOk_by (by rfl)) (fun _ _ _ _ _ => (dg_name (i := 5) sc_is_middle_light.nd rfl (by first | exact Or.inl rfl | exact Or.inr rfl))) (fun _ _ _ _ _ => dts_nil) (fun _ _ _ _ _ => (de_ix (od_ix hr.units) (de_var 5) de_int (fun _ _ => rfl)))) da_nil)) (by rfl))))))))
abbrev n_law_hand : List PySem.Str := ["script", "cells", "cell"]
theorem sc_law_hand : FnScope n_law_hand ["script"] (defScope s_law_hand) := ⟨rfl, rfl, rfl, by decide +kernel, rfl, by decide +kernel, by decide +kernel⟩
theorem bi_law_hand : BindsAll "_law_hand" s_law_hand ["script"] := fun _ _ _ _ _ _ us hl => match us, hl with | [_], _ => rfl
def rd_law_hand : SE := (sAsg 1 (eLc [2] (iSq (eSl (eVar 0) oNone (oSome (eC (.int 63))))) (gN 2) tYs (eApp gAbs (eCons (eApp gInt (eCons (eVar 2) eNil)) eNil))))
def re_law_hand : E := (eLst (eConsF (eVar 1) (eConsF (eC (.int 0)) (eConsF (eC (.int 0)) (eConsF (eOp2 dAdd (eC (.int 99201)) (eOp2 dMul (eC (.int 7)) (eApp gLen (eCons (eVar 1) eNil)))) (eConsF (eC (.int 0)) eNil))))))
def st1_law_hand : Stmt := (defBody s_law_hand).headD (.Pass ⟨0, 0, 0, 0⟩)
theorem w_law_hand {Pg : Program} {w : World} {K : PySem.W.Frag} {mg : PySem.Str → Option Value} {base : Heap} (e : Nm K mg) (f : Addr) (cdv : Value) (A : Around) (outer : List Env) (s : Shared) (H : Hp) (E : XK) (hr : Room 0 (A.deeper (envOfC "_law_hand" (defScope s_law_hand) s.heap.objs.size f cdv))) :
    DS (cxOf CX0 Pg w K mg base n_law_hand "_law_hand" (defScope s_law_hand) f cdv A outer s H E).nox st1_law_hand rd_law_hand :=
    (by first | exact ds_set (i := 1) sc_law_hand.nd rfl (by first | exact Or.inl rfl | exact Or.inr rfl) (de_lc (own := [("cell", 2)]) rfl sc_law_hand.nd (di_seq (de_slice (de_var 0) do_none (do_some de_int))) (blkOk_by (by rfl)) (fun _ _ _ _ _ => (dg_name (i := 2) sc_law_hand.nd rfl (by first | exact Or.inl rfl | exact Or.inr rfl))) (fun _ _ _ _ _ => dts_nil) (fun _ _ _ _ _ => (de_callB oc_abs (by rfl) e.b_abs bb_abs (da_cons (de_callTy oc_int (by rfl) e.b_int bt_int (da_cons (de_var 2) da_nil)) da_nil)))) | exact ds_setLc (i := 1) (own := [("cell", 2)]) rfl sc_law_hand.nd rfl (by rfl) (by rfl) (di_seq (de_slice (de_var 0) do_none (do_some de_int))) (blkOk_by (by rfl)) (fun _ _ _ _ _ => (dg_name (i := 2) sc_law_hand.nd rfl (by first | exact Or.inl rfl | exact Or.inr rfl))) (fun _ _ _ _ _ => dts_nil) (fun _ _ _ _ _ => (de_callB oc_abs (by rfl) e.b_abs bb_abs (da_cons (de_callTy oc_int (by rfl) e.b_int bt_int (da_cons (de_var 2) da_nil)) da_nil))))
def ev_law_hand : Expr := match (defBody s_law_hand).getD 1 (.Pass ⟨0, 0, 0, 0⟩) with | .Return (some e) _ => e | _ => .Constant .none 0 ⟨0, 0, 0, 0⟩
theorem v_law_hand {Pg : Program} {w : World} {K : PySem.W.Frag} {mg : PySem.Str → Option Value} {base : Heap} (e : Nm K mg) (f : Addr) (cdv : Value) (A : Around) (outer : List Env) (s : Shared) (H : Hp) (E : XK) (hr : Room 0 (A.deeper (envOfC "_law_hand" (defScope s_law_hand) s.heap.objs.size f cdv))) :
    DE (cxOf CX0 Pg w K mg base n_law_hand "_law_hand" (defScope s_law_hand) f cdv A outer s H E).nox ev_law_hand re_law_hand :=
    (de_lst (df_cons (de_var 1) (df_cons de_int (df_cons de_int (df_cons (de_op od_add de_int (de_op od_mul de_int (de_callB oc_len (by rfl) e.b_len bb_len (da_cons (de_var 1) da_nil)))) (df_cons de_int df_nil))))))
abbrev n_law_draw : List PySem.Str := ["hand", "many", "mixed_here", "cell", "digit"]
theorem sc_law_draw : FnScope n_law_draw ["hand", "many"] (defScope s_law_draw) := ⟨rfl, rfl, rfl, by decide +kernel, rfl, by decide +kernel, by decide +kernel⟩
theorem bi_law_draw : BindsAll "_law_draw" s_law_draw ["hand", "many"] := fun _ _ _ _ _ _ us hl => match us, hl with | [_, _], _ => rfl
def tl1_law_draw : SE := (sRet (eOp2 dMod (eApp gInt (eCons (eOp2 dFdiv (eVar 2) (eC (.int 16))) eNil)) (eVar 1)))
def tl2_law_draw : SE := (sSeq (sAsg 2 (eOp2 dMod (eApp gInt (eCons (eOp2 dMul (eVar 2) (eOp2 dAdd (eOp2 dFdiv (eVar 2) (eC (.int 2003))) (eC (.int 40014)))) eNil)) (eC (.int 2147483563))))
  tl1_law_draw)
def tl3_law_draw : SE := (sSeq (sAsg 2 (eOp2 dMod (eApp gInt (eCons (eOp2 dMul (eVar 2) (eOp2 dAdd (eOp2 dFdiv (eVar 2) (eC (.int 1009))) (eC (.int 69621)))) eNil)) (eC (.int 2147483647))))
  tl2_law_draw)
def tl4_law_draw : SE := (sSeq (sAsg 2 (eOp2 dMod (eApp gInt (eCons (eOp2 dMul (eApp gInt (eCons (eOp2 dAdd (eOp2 dIx (eVar 0) (eC (.int 3))) (eOp2 dMul (eC (.int 7919)) (eOp2 dIx (eVar 0) (eC (.int 4))))) eNil)) (eC (.int 48271))) eNil)) (eC (.int 2147483647))))
  tl3_law_draw)
def tl5_law_draw : SE := (sSeq (sSetIx 0 (eC (.int 4)) (eOp2 dAdd (eOp2 dIx (eVar 0) (eC (.int 4))) (eC (.int 1))))
  tl4_law_draw)
def tl6_law_draw : SE := (sSeq (sIf (tV (eOp2 dGt (eOp2 dIx (eVar 0) (eC (.int 2))) (eC (.int 0)))) (sSeq (sAsg 4 (eOp2 dMod (eApp gInt (eCons (eOp2 dIx (eVar 0) (eC (.int 2))) eNil)) (eVar 1)))
  (sSeq (sSetIx 0 (eC (.int 2)) (eOp2 dFdiv (eOp2 dIx (eVar 0) (eC (.int 2))) (eVar 1)))
  (sRet (eVar 4)))) sNext)
  tl5_law_draw)
def rd_law_draw : SE := (sSeq (sIf (tAnd (tV (eOp2 dEq (eOp2 dIx (eVar 0) (eC (.int 2))) (eC (.int 0)))) (tV (eOp2 dLt (eOp2 dIx (eVar 0) (eC (.int 1))) (eApp gLen (eCons (eOp2 dIx (eVar 0) (eC (.int 0))) eNil))))) (sSeq (sAsg 3 (eOp2 dIx (eOp2 dIx (eVar 0) (eC (.int 0))) (eOp2 dIx (eVar 0) (eC (.int 1)))))
  (sSeq (sSetIx 0 (eC (.int 1)) (eOp2 dAdd (eOp2 dIx (eVar 0) (eC (.int 1))) (eC (.int 1))))
  (sSeq (sSetIx 0 (eC (.int 3)) (eOp2 dMod (eApp gInt (eCons (eOp2 dAdd (eOp2 dAdd (eOp2 dMul (eOp2 dIx (eVar 0) (eC (.int 3))) (eC (.int 69621))) (eOp2 dMul (eVar 3) (eC (.int 40692)))) (eC (.int 31))) eNil)) (eC (.int 2147483629))))
  (sIf (tV (eOp2 dGe (eVar 3) (eOp2 dPow (eC (.int 10)) (eC (.int 18))))) (sSetIx 0 (eC (.int 2)) (eVar 3)) sNext)))) sNext)
  tl6_law_draw)
theorem w_law_draw {Pg : Program} {w : World} {K : PySem.W.Frag} {mg : PySem.Str → Option Value} {base : Heap} (e : Nm K mg) (f h : Addr) (cdv : Value) (A : Around) (outer : List Env) (s : Shared) (H : Hp) (E : XK) (hr : Room 0 (A.deeper (envOfC "_law_draw" (defScope s_law_draw) s.heap.objs.size f cdv))) :
    DWs h (cxOf CX0 Pg w K mg base n_law_draw "_law_draw" (defScope s_law_draw) f cdv A outer s H E).nox (defBody s_law_draw) (rd_law_draw) :=
    (dws_cons (dw1_if (DW.dt (dw_and (dt_cmp (od_eq hr.units) (de_ix (od_ix hr.units) (de_var 0) de_int (fun _ _ => rfl)) de_int (by rfl)) (dw_and1 (dt_cmp (od_lt hr.units) (de_ix (od_ix hr.units) (de_var 0) de_int (fun _ _ => rfl)) (de_callB oc_len (by rfl) e.b_len bb_len (da_cons (de_ix (od_ix hr.units) (de_var 0) de_int (fun _ _ => rfl)) da_nil)) (by rfl))))) (dws_cons (dw1_set (i := 2) sc_law_draw.nd rfl (by first | exact Or.inl rfl | exact Or.inr rfl) (de_ix (od_ix hr.units) (de_ix (od_ix hr.units) (de_var 0) de_int (fun _ _ => rfl)) (de_ix (od_ix hr.units) (de_var 0) de_int (fun _ _ => rfl)) (fun _ _ => rfl)))
      (dws_cons (dw1_setIx 0 de_int (de_op od_add (de_ix (od_ix hr.units) (de_var 0) de_int (fun _ _ => rfl)) de_int))
      (dws_cons (dw1_setIx 0 de_int (de_op od_mod (de_callTy oc_int (by rfl) e.b_int bt_int (da_cons (de_op od_add (de_op od_add (de_op od_mul (de_ix (od_ix hr.units) (de_var 0) de_int (fun _ _ => rfl)) de_int) (de_op od_mul (de_var 3) de_int)) de_int) da_nil)) de_int))
      (dws_one (dw1_if (dt_cmp (od_ge hr.units) (de_var 3) (de_op od_pow de_int de_int) (by rfl)) (dws_one (dw1_setIx 0 de_int (de_var 3))) dws_nil))))) dws_nil)
      (dws_cons (dw1_if (dt_cmp (od_gt hr.units) (de_ix (od_ix hr.units) (de_var 0) de_int (fun _ _ => rfl)) de_int (by rfl)) (dws_cons (dw1_set (i := 3) sc_law_draw.nd rfl (by first | exact Or.inl rfl | exact Or.inr rfl) (de_op od_mod (de_callTy oc_int (by rfl) e.b_int bt_int (da_cons (de_ix (od_ix hr.units) (de_var 0) de_int (fun _ _ => rfl)) da_nil)) (de_var 1)))
      (dws_cons (dw1_setIx 0 de_int (de_op od_fdiv (de_ix (od_ix hr.units) (de_var 0) de_int (fun _ _ => rfl)) (de_var 1)))
      (dws_one (dw1_ret (de_var 4))))) dws_nil)
      (dws_cons (dw1_setIx 0 de_int (de_op od_add (de_ix (od_ix hr.units) (de_var 0) de_int (fun _ _ => rfl)) de_int))
      (dws_cons (dw1_set (i := 1) sc_law_draw.nd rfl (by first | exact Or.inl rfl | exact Or.inr rfl) (de_op od_mod (de_callTy oc_int (by rfl) e.b_int bt_int (da_cons (de_op od_mul (de_callTy oc_int (by rfl) e.b_int bt_int (da_cons (de_op od_add (de_ix (od_ix hr.units) (de_var 0) de_int (fun _ _ => rfl)) (de_op od_mul de_int (de_ix (od_ix hr.units) (de_var 0) de_int (fun _ _ => rfl)))) da_nil)) de_int) da_nil)) de_int))
      (dws_cons (dw1_set (i := 1) sc_law_draw.nd rfl (by first | exact Or.inl rfl | exact Or.inr rfl) (de_op od_mod (de_callTy oc_int (by rfl) e.b_int bt_int (da_cons (de_op od_mul (de_var 2) (de_op od_add (de_op od_fdiv (de_var 2) de_int) de_int)) da_nil)) de_int))
      (dws_cons (dw1_set (i := 1) sc_law_draw.nd rfl (by first | exact Or.inl rfl | exact Or.inr rfl) (de_op od_mod (de_callTy oc_int (by rfl) e.b_int bt_int (da_cons (de_op od_mul (de_var 2) (de_op od_add (de_op od_fdiv (de_var 2) de_int) de_int)) da_nil)) de_int))
      (dws_one (dw1_ret (de_op od_mod (de_callTy oc_int (by rfl) e.b_int bt_int (da_cons (de_op od_fdiv (de_var 2) de_int) da_nil)) (de_var 1))))))))))
abbrev n_law_any : List PySem.Str := ["hand", "some"]
theorem sc_law_any : FnScope n_law_any ["hand", "some"] (defScope s_law_any) := ⟨rfl, rfl, rfl, by decide +kernel, rfl, by decide +kernel, by decide +kernel⟩
theorem bi_law_any : BindsAll "_law_any" s_law_any ["hand", "some"] := fun _ _ _ _ _ _ us hl => match us, hl with | [_, _], _ => rfl
def rd_law_any (sp_law_draw : Sd) : SE := (sRet (eOp2 dIx (eVar 1) (eCallH 0 1 sp_law_draw (eCons (eApp gLen (eCons (eVar 1) eNil)) eNil))))
theorem w_law_any {Pg : Program} {w : World} {K : PySem.W.Frag} {mg : PySem.Str → Option Value} {base : Heap} {sp_law_draw : Sd} (e : Nm K mg) (c_law_draw : CalH Pg w K mg base 1 "_law_draw" 1 sp_law_draw) (f : Addr) : Walks Pg w K mg base n_law_any "_law_any" (defScope s_law_any) f 1 (defBody s_law_any) (rd_law_any sp_law_draw) :=
    fun cdv A outer s H E hr =>
    (dss_one (ds_ret (de_ix (od_ix hr.units) (de_var 1) (de_callHC 0 c_law_draw hr (by rfl) (da_cons (de_callB oc_len (by rfl) e.b_len bb_len (da_cons (de_var 1) da_nil)) da_nil)) (fun _ _ => rfl))))
abbrev n_law_mixed : List PySem.Str := ["hand", "some", "rest", "found"]
theorem sc_law_mixed : FnScope n_law_mixed ["hand", "some"] (defScope s_law_mixed) := ⟨rfl, rfl, rfl, by decide +kernel, rfl, by decide +kernel, by decide +kernel⟩
theorem bi_law_mixed : BindsAll "_law_mixed" s_law_mixed ["hand", "some"] := fun _ _ _ _ _ _ us hl => match us, hl with | [_, _], _ => rfl
def lb1_law_mixed (sp_law_draw : Sd) : SE := (sAppPop 3 2 (eCallH 0 1 sp_law_draw (eCons (eApp gLen (eCons (eVar 2) eNil)) eNil)))
def rd_law_mixed (sp_law_draw : Sd) : SE := (sSeq (sPars [2, 3] (vCons (eApp gList (eCons (eVar 1) eNil)) (vCons (eLst eNil) vNil)))
  (sSeq (sWhile (tV (eOp2 dGt (eApp gLen (eCons (eVar 2) eNil)) (eC (.int 0)))) (lb1_law_mixed sp_law_draw))
  (sRet (eVar 3))))
theorem w_law_mixed {Pg : Program} {w : World} {K : PySem.W.Frag} {mg : PySem.Str → Option Value} {base : Heap} {sp_law_draw : Sd} (e : Nm K mg) (c_law_draw : CalH Pg w K mg base 1 "_law_draw" 1 sp_law_draw) (f : Addr) : Walks Pg w K mg base n_law_mixed "_law_mixed" (defScope s_law_mixed) f 1 (defBody s_law_mixed) (rd_law_mixed sp_law_draw) :=
    fun cdv A outer s H E hr =>
    (dss_cons (by first | exact ds_par2 (i := 2) (j := 3) rfl sc_law_mixed.nd rfl rfl (by decide) (by rfl) (by rfl) (dv_cons (de_callTy oc_list (by rfl) e.b_list bt_list (da_cons (de_var 1) da_nil)) (dv_cons (de_lst df_nil) dv_nil)) (by rfl) | exact ds_parT (is := [2, 3]) (n := 2) rfl (pgs_cons (pg_name (i := 2) sc_law_mixed.nd rfl (by first | exact Or.inl rfl | exact Or.inr rfl)) (pgs_cons (pg_name (i := 3) sc_law_mixed.nd rfl (by first | exact Or.inl rfl | exact Or.inr rfl)) pgs_nil)) (dv_cons (de_callTy oc_list (by rfl) e.b_list bt_list (da_cons (de_var 1) da_nil)) (dv_cons (de_lst df_nil) dv_nil)))
      (dss_cons (ds_while PassesOwn.never (dt_cmp (od_gt hr.units) (de_callB oc_len (by rfl) e.b_len bb_len (da_cons (de_var 2) da_nil)) de_int (by rfl)) (dss_one (ds_appPop 3 2 (by decide) (de_callHC 0 c_law_draw hr (by rfl) (da_cons (de_callB oc_len (by rfl) e.b_len bb_len (da_cons (de_var 2) da_nil)) da_nil)))))
      (dss_one (ds_ret (de_var 3)))))
abbrev n_law_end : List PySem.Str := ["rows", "order", "free", "one", "here", "at", "minutes"]
theorem sc_law_end : FnScope n_law_end ["rows", "order"] (defScope s_law_end) := ⟨rfl, rfl, rfl, by decide +kernel, rfl, by decide +kernel, by decide +kernel⟩
theorem bi_law_end : BindsAll "_law_end" s_law_end ["rows", "order"] := fun _ _ _ _ _ _ us hl => match us, hl with | [_, _], _ => rfl
def lb1_law_end : SE := (sSeq (sAsg 4 (eOp2 dAdd (eApp gMax (eCons (eVar 4) (eCons (eOp2 dIx (eVar 2) (eVar 5)) eNil))) (eVar 6)))
  (sSetIx 2 (eVar 5) (eVar 4)))
def lb2_law_end : SE := (sSeq (sAsg 4 (eC (.int 0)))
  (sFor (iEn (eOp2 dIx (eVar 0) (eVar 3))) (gT 2 (gCn (gN 5) (gCn (gN 6) gNl))) lb1_law_end))
def rd_law_end : SE := (sSeq (sAsg 2 (eOp2 dMul (eLst (eConsF (eC (.int 0)) eNil)) (eApp gLen (eCons (eOp2 dIx (eVar 0) (eC (.int 0))) eNil))))
  (sSeq (sFor (iSq (eVar 1)) (gN 3) lb2_law_end)
  (sRet (eOp2 dIx (eVar 2) (eOp1 dNeg (eC (.int 1)))))))
theorem w_law_end {Pg : Program} {w : World} {K : PySem.W.Frag} {mg : PySem.Str → Option Value} {base : Heap} (e : Nm K mg) (f : Addr) : Walks Pg w K mg base n_law_end "_law_end" (defScope s_law_end) f 0 (defBody s_law_end) (rd_law_end) :=
    fun cdv A outer s H E hr =>
    (dss_cons (ds_set (i := 2) sc_law_end.nd rfl (by first | exact Or.inl rfl | exact Or.inr rfl) (de_op od_mul (de_lst (df_cons de_int df_nil)) (de_callB oc_len (by rfl) e.b_len bb_len (da_cons (de_ix (od_ix hr.units) (de_var 0) de_int (fun _ _ => rfl)) da_nil))))
      (dss_cons (ds_for PassesOwn.never rfl (di_seq (de_var 1)) (dg_name (i := 3) sc_law_end.nd rfl (by first | exact Or.inl rfl | exact Or.inr rfl)) (dss_cons (ds_set (i := 4) sc_law_end.nd rfl (by first | exact Or.inl rfl | exact Or.inr rfl) de_int)
      (dss_one (ds_for PassesOwn.never rfl (di_enum (by rfl) e.b_enumerate (de_ix (od_ix hr.units) (de_var 0) (de_var 3) (fun _ _ => rfl))) (dg_tup rfl (dgs_cons (dg_name (i := 5) sc_law_end.nd rfl (by first | exact Or.inl rfl | exact Or.inr rfl)) (dgs_cons (dg_name (i := 6) sc_law_end.nd rfl (by first | exact Or.inl rfl | exact Or.inr rfl)) dgs_nil))) (dss_cons (ds_set (i := 4) sc_law_end.nd rfl (by first | exact Or.inl rfl | exact Or.inr rfl) (de_op od_add (de_callB (oc_max rfl hr.units) (by rfl) e.b_max bb_max (da_cons (de_var 4) (da_cons (de_ix (od_ix hr.units) (de_var 2) (de_var 5) (fun _ _ => rfl)) da_nil))) (de_var 6)))
      (dss_one (ds_setIx 2 (de_var 5) (de_var 4))))))))
      (dss_one (ds_ret (de_ix (od_ix hr.units) (de_var 2) (de_un od_neg de_int) (fun _ _ => rfl))))))
abbrev n_law_at_once : List PySem.Str := ["twos", "order", "one", "board", "stove", "begin", "first", "last"]
theorem sc_law_at_once : FnScope n_law_at_once ["twos", "order"] (defScope s_law_at_once) := ⟨rfl, rfl, rfl, by decide +kernel, rfl, by decide +kernel, by decide +kernel⟩
theorem bi_law_at_once : BindsAll "_law_at_once" s_law_at_once ["twos", "order"] := fun _ _ _ _ _ _ us hl => match us, hl with | [_, _], _ => rfl
def lb1_law_at_once : SE := (sSeq (sUnp (eOp2 dIx (eVar 0) (eVar 2)) (gT 2 (gCn (gN 6) (gCn (gN 7) gNl))))
  (sSeq (sAsg 5 (eApp gMax (eCons (eVar 3) (eCons (eOp2 dSub (eVar 4) (eVar 6)) eNil))))
  (sPars [3, 4] (vCons (eOp2 dAdd (eVar 5) (eVar 6)) (vCons (eOp2 dAdd (eOp2 dAdd (eVar 5) (eVar 6)) (eVar 7)) vNil)))))
def rd_law_at_once : SE := (sSeq (sPars [3, 4] (vCons (eC (.int 0)) (vCons (eC (.int 0)) vNil)))
  (sSeq (sFor (iSq (eVar 1)) (gN 2) lb1_law_at_once)
  (sRet (eVar 4))))
theorem w_law_at_once {Pg : Program} {w : World} {K : PySem.W.Frag} {mg : PySem.Str → Option Value} {base : Heap} (e : Nm K mg) (f : Addr) : Walks Pg w K mg base n_law_at_once "_law_at_once" (defScope s_law_at_once) f 0 (defBody s_law_at_once) (rd_law_at_once) :=
    fun cdv A outer s H E hr =>
    (dss_cons (by first | exact ds_par2 (i := 3) (j := 4) rfl sc_law_at_once.nd rfl rfl (by decide) (by rfl) (by rfl) (dv_cons de_int (dv_cons de_int dv_nil)) (by rfl) | exact ds_parT (is := [3, 4]) (n := 2) rfl (pgs_cons (pg_name (i := 3) sc_law_at_once.nd rfl (by first | exact Or.inl rfl | exact Or.inr rfl)) (pgs_cons (pg_name (i := 4) sc_law_at_once.nd rfl (by first | exact Or.inl rfl | exact Or.inr rfl)) pgs_nil)) (dv_cons de_int (dv_cons de_int dv_nil)))
      (dss_cons (ds_for PassesOwn.never rfl (di_seq (de_var 1)) (dg_name (i := 2) sc_law_at_once.nd rfl (by first | exact Or.inl rfl | exact Or.inr rfl)) (dss_cons (ds_unp (de_ix (od_ix hr.units) (de_var 0) (de_var 2) (fun _ _ => rfl)) (dg_tup rfl (dgs_cons (dg_name (i := 6) sc_law_at_once.nd rfl (by first | exact Or.inl rfl | exact Or.inr rfl)) (dgs_cons (dg_name (i := 7) sc_law_at_once.nd rfl (by first | exact Or.inl rfl | exact Or.inr rfl)) dgs_nil))))
      (dss_cons (ds_set (i := 5) sc_law_at_once.nd rfl (by first | exact Or.inl rfl | exact Or.inr rfl) (de_callB (oc_max rfl hr.units) (by rfl) e.b_max bb_max (da_cons (de_var 3) (da_cons (de_op od_sub (de_var 4) (de_var 6)) da_nil))))
      (dss_one (by first | exact ds_par2 (i := 3) (j := 4) rfl sc_law_at_once.nd rfl rfl (by decide) (by rfl) (by rfl) (dv_cons (de_op od_add (de_var 5) (de_var 6)) (dv_cons (de_op od_add (de_op od_add (de_var 5) (de_var 6)) (de_var 7)) dv_nil)) (by rfl) | exact ds_parT (is := [3, 4]) (n := 2) rfl (pgs_cons (pg_name (i := 3) sc_law_at_once.nd rfl (by first | exact Or.inl rfl | exact Or.inr rfl)) (pgs_cons (pg_name (i := 4) sc_law_at_once.nd rfl (by first | exact Or.inl rfl | exact Or.inr rfl)) pgs_nil)) (dv_cons (de_op od_add (de_var 5) (de_var 6)) (dv_cons (de_op od_add (de_op od_add (de_var 5) (de_var 6)) (de_var 7)) dv_nil)))))))
      (dss_one (ds_ret (de_var 4)))))
abbrev n_law_are_threes_right : List PySem.Str := ["hand", "wide", "threes", "turned", "order", "due", "least", "best", "dish", "row", "at"]
theorem sc_law_are_threes_right : FnScope n_law_are_threes_right ["hand"] (defScope s_law_are_threes_right) := ⟨rfl, rfl, rfl, by decide +kernel, rfl, by decide +kernel, by decide +kernel⟩
theorem bi_law_are_threes_right : BindsAll "_law_are_threes_right" s_law_are_threes_right ["hand"] := fun _ _ _ _ _ _ us hl => match us, hl with | [_], _ => rfl
def tl1_law_are_threes_right (sp_law_end sp_least_of_threes : Sd) : SE := (sRet (eAnd (eOp2 dEq (eOp2 dIx (eCall 1 sp_least_of_threes (eCons (eVar 3) eNil)) (eC (.int 0))) (eVar 6)) (eOp2 dEq (eCall 2 sp_law_end (eCons (eVar 3) (eCons (eRev (eVar 7)) eNil))) (eVar 6))))
def tl2_law_are_threes_right (sp_law_end sp_least_of_threes : Sd) : SE := (sSeq (sUnp (eCall 1 sp_least_of_threes (eCons (eVar 2) eNil)) (gT 2 (gCn (gN 6) (gCn (gN 7) gNl))))
  (tl1_law_are_threes_right sp_law_end sp_least_of_threes))
def tl3_law_are_threes_right (sp_is_middle_light sp_law_end sp_least_of_threes : Sd) : SE := (sSeq (sIf (tV (eOp2 dNe (eApp gRepr (eCons (eCall 1 sp_is_middle_light (eCons (eVar 2) eNil)) eNil)) (eApp gRepr (eCons (eCall 1 sp_is_middle_light (eCons (eVar 3) eNil)) eNil)))) (sRet (eC (.bool false))) sNext)
  (tl2_law_are_threes_right sp_law_end sp_least_of_threes))
def tl4_law_are_threes_right (sp_end_of_threes sp_is_middle_light sp_law_end sp_least_of_threes : Sd) : SE := (sSeq (sIf (tOr (tV (eOp2 dNe (eCall 2 sp_end_of_threes (eCons (eVar 2) (eCons (eVar 4) eNil))) (eVar 5))) (tV (eOp2 dNe (eCall 2 sp_end_of_threes (eCons (eVar 3) (eCons (eRev (eVar 4)) eNil))) (eVar 5)))) (sRet (eC (.bool false))) sNext)
  (tl3_law_are_threes_right sp_is_middle_light sp_law_end sp_least_of_threes))
def tl5_law_are_threes_right (sp_end_of_threes sp_is_middle_light sp_law_end sp_least_of_threes : Sd) : SE := (sSeq (sAsg 5 (eCall 2 sp_law_end (eCons (eVar 2) (eCons (eVar 4) eNil))))
  (tl4_law_are_threes_right sp_end_of_threes sp_is_middle_light sp_law_end sp_least_of_threes))
def tl6_law_are_threes_right (sp_end_of_threes sp_is_middle_light sp_law_end sp_law_mixed sp_least_of_threes : Sd) : SE := (sSeq (sAsg 4 (eApp gTuple (eCons (eCallH 0 1 sp_law_mixed (eCons (eLRg1 true (eApp gLen (eCons (eVar 2) eNil))) eNil)) eNil)))
  (tl5_law_are_threes_right sp_end_of_threes sp_is_middle_light sp_law_end sp_least_of_threes))
def tl7_law_are_threes_right (sp_end_of_threes sp_is_middle_light sp_law_end sp_law_mixed sp_least_of_threes : Sd) : SE := (sSeq (sAsg 3 (eApp gTuple (eCons (eLc [9] (iSq (eVar 2)) (gN 9) tYs (eRev (eVar 9))) eNil)))
  (tl6_law_are_threes_right sp_end_of_threes sp_is_middle_light sp_law_end sp_law_mixed sp_least_of_threes))
def tl8_law_are_threes_right (sp_end_of_threes sp_is_middle_light sp_law_draw sp_law_end sp_law_mixed sp_least_of_threes : Sd) : SE := (sSeq (sAsg 2 (eApp gTuple (eCons (eLc [8] (iR1 (eOp2 dAdd (eC (.int 1)) (eCallH 0 1 sp_law_draw (eCons (eC (.int 5)) eNil)))) (gN 8) tYs (eApp gTuple (eCons (eLc [10] (iR1 (eC (.int 3))) (gN 10) tYs (eOp2 dAdd (eC (.int 1)) (eCallH 0 1 sp_law_draw (eCons (eVar 1) eNil)))) eNil))) eNil)))
  (tl7_law_are_threes_right sp_end_of_threes sp_is_middle_light sp_law_end sp_law_mixed sp_least_of_threes))
def rd_law_are_threes_right (sp_law_any sp_law_end sp_least_of_threes sp_law_mixed sp_end_of_threes sp_is_middle_light sp_law_draw : Sd) : SE := (sSeq (sAsg 1 (eCallH 0 1 sp_law_any (eCons (eLst (eConsF (eC (.int 3)) (eConsF (eC (.int 20)) (eConsF (eC (.int 60)) eNil)))) eNil)))
  (tl8_law_are_threes_right sp_end_of_threes sp_is_middle_light sp_law_draw sp_law_end sp_law_mixed sp_least_of_threes))
theorem w_law_are_threes_right {Pg : Program} {w : World} {K : PySem.W.Frag} {mg : PySem.Str → Option Value} {base : Heap} {sp_law_any sp_law_end sp_least_of_threes sp_law_mixed sp_end_of_threes sp_is_middle_light sp_law_draw : Sd} (e : Nm K mg) (c_law_any : CalH Pg w K mg base 2 "_law_any" 1 sp_law_any) (c_law_end : CalD Pg w K mg base 1 "_law_end" 2 sp_law_end) (c_least_of_threes : CalD Pg w K mg base 5 "least_of_threes" 1 sp_least_of_threes) (c_law_mixed : CalH Pg w K mg base 2 "_law_mixed" 1 sp_law_mixed) (c_end_of_threes : CalD Pg w K mg base 5 "end_of_threes" 2 sp_end_of_threes) (c_is_middle_light : CalD Pg w K mg base 5 "is_middle_light" 1 sp_is_middle_light) (c_law_draw : CalH Pg w K mg base 1 "_law_draw" 1 sp_law_draw) (f : Addr) : Walks Pg w K mg base n_law_are_threes_right "_law_are_threes_right" (defScope s_law_are_threes_right) f 5 (defBody s_law_are_threes_right) (rd_law_are_threes_right sp_law_any sp_law_end sp_least_of_threes sp_law_mixed sp_end_of_threes sp_is_middle_light sp_law_draw) :=
    fun cdv A outer s H E hr =>
    (dss_cons (ds_set (i := 1) sc_law_are_threes_right.nd rfl (by first | exact Or.inl rfl | exact Or.inr rfl) (de_callHC 0 c_law_any hr (by rfl) (da_cons (de_lst (df_cons de_int (df_cons de_int (df_cons de_int df_nil)))) da_nil)))
      (dss_cons (ds_set (i := 2) sc_law_are_threes_right.nd rfl (by first | exact Or.inl rfl | exact Or.inr rfl) (de_callTy oc_tuple (by rfl) e.b_tuple bt_tuple (da_cons (de_lc (own := [("dish", 8)]) rfl sc_law_are_threes_right.nd (di_range1 (by rfl) e.b_range (de_op od_add de_int (de_callHC 0 c_law_draw hr (by rfl) (da_cons de_int da_nil)))) (blkOk_by (by rfl)) (fun _ _ _ _ _ => (dg_name (i := 8) sc_law_are_threes_right.nd rfl (by first | exact Or.inl rfl | exact Or.inr rfl))) (fun _ _ _ _ _ => dts_nil) (fun _ _ _ _ _ => (de_callTy oc_tuple (by rfl) e.b_tuple bt_tuple (da_cons (de_lc (own := [("at", 10)]) rfl sc_law_are_threes_right.nd (di_range1 (by rfl) e.b_range de_int) (blkOk_by (by rfl)) (fun _ _ _ _ _ => (dg_name (i := 10) sc_law_are_threes_right.nd rfl (by first | exact Or.inl rfl | exact Or.inr rfl))) (fun _ _ _ _ _ => dts_nil) (fun _ _ _ _ _ => (de_op od_add de_int (de_callHC 0 c_law_draw hr (by rfl) (da_cons (de_var 1) da_nil))))) da_nil)))) da_nil)))
      (dss_cons (ds_set (i := 3) sc_law_are_threes_right.nd rfl (by first | exact Or.inl rfl | exact Or.inr rfl) (de_callTy oc_tuple (by rfl) e.b_tuple bt_tuple (da_cons (de_lc (own := [("row", 9)]) rfl sc_law_are_threes_right.nd (di_seq (de_var 2)) (blkOk_by (by rfl)) (fun _ _ _ _ _ => (dg_name (i := 9) sc_law_are_threes_right.nd rfl (by first | exact Or.inl rfl | exact Or.inr rfl))) (fun _ _ _ _ _ => dts_nil) (fun _ _ _ _ _ => (de_back (de_var 9)))) da_nil)))
      (dss_cons (ds_set (i := 4) sc_law_are_threes_right.nd rfl (by first | exact Or.inl rfl | exact Or.inr rfl) (de_callTy oc_tuple (by rfl) e.b_tuple bt_tuple (da_cons (de_callHC 0 c_law_mixed hr (by rfl) (da_cons (de_listRg (by rfl) (by rfl) e.b_list (by rfl) e.b_range (de_callB oc_len (by rfl) e.b_len bb_len (da_cons (de_var 2) da_nil))) da_nil)) da_nil)))
      (dss_cons (ds_set (i := 5) sc_law_are_threes_right.nd rfl (by first | exact Or.inl rfl | exact Or.inr rfl) (de_callC c_law_end hr (by rfl) (da_cons (de_var 2) (da_cons (de_var 4) da_nil))))
      (dss_cons (ds_if (DW.dt (dw_or (dt_cmp (od_ne hr.units) (de_callC c_end_of_threes hr (by rfl) (da_cons (de_var 2) (da_cons (de_var 4) da_nil))) (de_var 5) (by rfl)) (dw_or1 (dt_cmp (od_ne hr.units) (de_callC c_end_of_threes hr (by rfl) (da_cons (de_var 3) (da_cons (de_back (de_var 4)) da_nil))) (de_var 5) (by rfl))))) (dss_one (ds_ret de_bl)) dss_nil)
      (dss_cons (ds_if (dt_cmp (od_ne hr.units) (de_callB oc_repr (by rfl) e.b_repr bb_repr (da_cons (de_callC c_is_middle_light hr (by rfl) (da_cons (de_var 2) da_nil)) da_nil)) (de_callB oc_repr (by rfl) e.b_repr bb_repr (da_cons (de_callC c_is_middle_light hr (by rfl) (da_cons (de_var 3) da_nil)) da_nil)) (by rfl)) (dss_one (ds_ret de_bl)) dss_nil)
      (dss_cons (ds_unp (de_callC c_least_of_threes hr (by rfl) (da_cons (de_var 2) da_nil)) (dg_tup rfl (dgs_cons (dg_name (i := 6) sc_law_are_threes_right.nd rfl (by first | exact Or.inl rfl | exact Or.inr rfl)) (dgs_cons (dg_name (i := 7) sc_law_are_threes_right.nd rfl (by first | exact Or.inl rfl | exact Or.inr rfl)) dgs_nil))))
      (dss_one (ds_ret (de_and (de_cmp (od_eq hr.units) (de_ix (od_ix hr.units) (de_callC c_least_of_threes hr (by rfl) (da_cons (de_var 3) da_nil)) de_int (fun _ _ => rfl)) (de_var 6) (by rfl)) (de_one (de_cmp (od_eq hr.units) (de_callC c_law_end hr (by rfl) (da_cons (de_var 3) (da_cons (de_back (de_var 7)) da_nil))) (de_var 6) (by rfl))))))))))))))
abbrev n_law_is_right : List PySem.Str := ["hand", "wide", "twos", "turned", "order", "back", "lot", "rest", "worth", "least", "due", "once", "dish", "one", "first", "last", "pair"]
theorem sc_law_is_right : FnScope n_law_is_right ["hand"] (defScope s_law_is_right) := ⟨rfl, rfl, rfl, by decide +kernel, rfl, by decide +kernel, by decide +kernel⟩
theorem bi_law_is_right : BindsAll "_law_is_right" s_law_is_right ["hand"] := fun _ _ _ _ _ _ us hl => match us, hl with | [_], _ => rfl
def tl1_law_is_right (sp_law_are_threes_right : Sd) : SE := (sRet (eCallH 0 0 sp_law_are_threes_right eNil))
def tl2_law_is_right (sp_law_are_threes_right sp_least_at_once : Sd) : SE := (sSeq (sIf (tAnd (tV (eOp2 dLt (eApp gLen (eCons (eVar 2) eNil)) (eC (.int 7)))) (tV (eOp2 dNe (eOp2 dIx (eCall 1 sp_least_at_once (eCons (eVar 2) eNil)) (eC (.int 0))) (eOp2 dIx (eCall 1 sp_least_at_once (eCons (eVar 3) eNil)) (eC (.int 0)))))) (sRet (eC (.bool false))) sNext)
  (tl1_law_is_right sp_law_are_threes_right))
def tl3_law_is_right (sp_best_two_orders sp_law_are_threes_right sp_least_at_once : Sd) : SE := (sSeq (sIf (tAnd (tV (eOp2 dLt (eApp gLen (eCons (eVar 2) eNil)) (eC (.int 7)))) (tV (eOp2 dNe (eCall 1 sp_best_two_orders (eCons (eVar 2) eNil)) (eCall 1 sp_best_two_orders (eCons (eVar 3) eNil))))) (sRet (eC (.bool false))) sNext)
  (tl2_law_is_right sp_law_are_threes_right sp_least_at_once))
def tl4_law_is_right (sp_best_two_orders sp_law_are_threes_right sp_least_at_once sp_twos_told : Sd) : SE := (sSeq (sIf (tOr (tV (eOp2 dNe (eOp2 dIx (eCall 2 sp_twos_told (eCons (eVar 3) (eCons (eVar 9) eNil))) (eC (.int 0))) (eC (.str "order")))) (tV (eOp2 dNe (eOp2 dIx (eCall 2 sp_twos_told (eCons (eVar 3) (eCons (eOp2 dSub (eVar 9) (eC (.int 1))) eNil))) (eC (.int 0))) (eC (.str "bar"))))) (sRet (eC (.bool false))) sNext)
  (tl3_law_is_right sp_best_two_orders sp_law_are_threes_right sp_least_at_once))
def tl5_law_is_right (sp_best_two_orders sp_law_are_threes_right sp_least_at_once sp_twos_told : Sd) : SE := (sSeq (sIf (tOr (tV (eOp2 dGt (eVar 9) (eVar 10))) (tV (eOp2 dGt (eVar 8) (eVar 9)))) (sRet (eC (.bool false))) sNext)
  (tl4_law_is_right sp_best_two_orders sp_law_are_threes_right sp_least_at_once sp_twos_told))
def tl6_law_is_right (sp_best_two_orders sp_law_are_threes_right sp_law_end sp_least_at_once sp_least_end sp_rule_of_twos sp_twos_told : Sd) : SE := (sSeq (sIf (tOr (tV (eOp2 dNe (eCall 1 sp_least_end (eCons (eVar 3) eNil)) (eVar 9))) (tV (eOp2 dNe (eCall 2 sp_law_end (eCons (eVar 3) (eCons (eRev (eCall 1 sp_rule_of_twos (eCons (eVar 2) eNil))) eNil))) (eVar 9)))) (sRet (eC (.bool false))) sNext)
  (tl5_law_is_right sp_best_two_orders sp_law_are_threes_right sp_least_at_once sp_twos_told))
def tl7_law_is_right (sp_best_two_orders sp_law_are_threes_right sp_law_end sp_least_at_once sp_least_end sp_rule_of_twos sp_twos_told : Sd) : SE := (sSeq (sAsg 9 (eCall 1 sp_least_end (eCons (eVar 2) eNil)))
  (tl6_law_is_right sp_best_two_orders sp_law_are_threes_right sp_law_end sp_least_at_once sp_least_end sp_rule_of_twos sp_twos_told))
def tl8_law_is_right (sp_best_two_orders sp_law_are_threes_right sp_law_end sp_least_at_once sp_least_end sp_paper_worth sp_rule_of_twos sp_twos_told : Sd) : SE := (sSeq (sIf (tV (eOp2 dNe (eCall 3 sp_paper_worth (eCons (eVar 2) (eCons (eC (.str "last")) (eCons (eVar 6) eNil)))) (eCall 3 sp_paper_worth (eCons (eVar 3) (eCons (eC (.str "first")) (eCons (eVar 6) eNil)))))) (sRet (eC (.bool false))) sNext)
  (tl7_law_is_right sp_best_two_orders sp_law_are_threes_right sp_law_end sp_least_at_once sp_least_end sp_rule_of_twos sp_twos_told))
def tl9_law_is_right (sp_best_two_orders sp_law_are_threes_right sp_law_end sp_least_at_once sp_least_end sp_paper_worth sp_rule_of_twos sp_twos_told : Sd) : SE := (sSeq (sIf (tOr (tV (eOp2 dNe (eCall 3 sp_paper_worth (eCons (eVar 2) (eCons (eC (.str "first")) (eCons (eVar 6) eNil)))) (eVar 8))) (tV (eOp2 dNe (eCall 3 sp_paper_worth (eCons (eVar 3) (eCons (eC (.str "last")) (eCons (eVar 6) eNil)))) (eVar 8)))) (sRet (eC (.bool false))) sNext)
  (tl8_law_is_right sp_best_two_orders sp_law_are_threes_right sp_law_end sp_least_at_once sp_least_end sp_paper_worth sp_rule_of_twos sp_twos_told))
def tl10_law_is_right (sp_best_two_orders sp_law_are_threes_right sp_law_end sp_least_at_once sp_least_end sp_paper_worth sp_rule_of_twos sp_twos_told : Sd) : SE := (sSeq (sAsg 8 (eOp2 dAdd (eOp2 dAdd (eApp gMin (eCons (eLc [13] (iSq (eVar 6)) (gN 13) tYs (eOp2 dIx (eOp2 dIx (eVar 2) (eVar 13)) (eC (.int 0)))) eNil)) (eApp gSum (eCons (eLc [13] (iSq (eVar 6)) (gN 13) tYs (eOp2 dIx (eOp2 dIx (eVar 2) (eVar 13)) (eC (.int 1)))) eNil))) (eVar 7)))
  (tl9_law_is_right sp_best_two_orders sp_law_are_threes_right sp_law_end sp_least_at_once sp_least_end sp_paper_worth sp_rule_of_twos sp_twos_told))
def tl11_law_is_right (sp_best_two_orders sp_law_are_threes_right sp_law_end sp_least_at_once sp_least_end sp_paper_worth sp_rule_of_twos sp_twos_told : Sd) : SE := (sSeq (sAsg 7 (eApp gSum (eCons (eLc [13, 16] (iEn (eVar 2)) (gT 2 (gCn (gN 13) (gCn (gN 16) gNl))) (tV (eOp2 dNi (eVar 13) (eVar 6))) (eApp gMin (eCons (eVar 16) eNil))) eNil)))
  (tl10_law_is_right sp_best_two_orders sp_law_are_threes_right sp_law_end sp_least_at_once sp_least_end sp_paper_worth sp_rule_of_twos sp_twos_told))
def tl12_law_is_right (sp_best_two_orders sp_law_are_threes_right sp_law_end sp_least_at_once sp_least_end sp_paper_worth sp_rule_of_twos sp_twos_told : Sd) : SE := (sSeq (sAsg 6 (eIf (tV (eOp2 dNe (eVar 6) (eTup eNil))) (eVar 6) (eTup (eConsF (eC (.int 0)) eNil))))
  (tl11_law_is_right sp_best_two_orders sp_law_are_threes_right sp_law_end sp_least_at_once sp_least_end sp_paper_worth sp_rule_of_twos sp_twos_told))
def tl13_law_is_right (sp_best_two_orders sp_law_are_threes_right sp_law_draw sp_law_end sp_least_at_once sp_least_end sp_paper_worth sp_rule_of_twos sp_twos_told : Sd) : SE := (sSeq (sAsg 6 (eApp gTuple (eCons (eLc [13] (iR1 (eApp gLen (eCons (eVar 2) eNil))) (gN 13) (tV (eOp2 dEq (eCallH 0 1 sp_law_draw (eCons (eC (.int 2)) eNil)) (eC (.int 0)))) (eVar 13)) eNil)))
  (tl12_law_is_right sp_best_two_orders sp_law_are_threes_right sp_law_end sp_least_at_once sp_least_end sp_paper_worth sp_rule_of_twos sp_twos_told))
def tl14_law_is_right (sp_best_two_orders sp_end_without_place sp_law_are_threes_right sp_law_draw sp_law_end sp_least_at_once sp_least_end sp_paper_worth sp_rule_of_twos sp_twos_told : Sd) : SE := (sSeq (sIf (tOr (tV (eOp2 dNe (eCall 2 sp_end_without_place (eCons (eVar 2) (eCons (eVar 4) eNil))) (eVar 11))) (tV (eOp2 dNe (eCall 2 sp_end_without_place (eCons (eVar 3) (eCons (eVar 5) eNil))) (eVar 11)))) (sRet (eC (.bool false))) sNext)
  (tl13_law_is_right sp_best_two_orders sp_law_are_threes_right sp_law_draw sp_law_end sp_least_at_once sp_least_end sp_paper_worth sp_rule_of_twos sp_twos_told))
def tl15_law_is_right (sp_best_two_orders sp_end_at_once sp_end_without_place sp_law_are_threes_right sp_law_at_once sp_law_draw sp_law_end sp_least_at_once sp_least_end sp_paper_worth sp_rule_of_twos sp_twos_told : Sd) : SE := (sSeq (sIf (tV (eOp2 dNe (eLst (eConsF (eCall 2 sp_end_at_once (eCons (eVar 2) (eCons (eVar 4) eNil))) (eConsF (eCall 2 sp_end_at_once (eCons (eVar 3) (eCons (eVar 5) eNil))) (eConsF (eCall 2 sp_law_at_once (eCons (eVar 3) (eCons (eVar 5) eNil))) eNil)))) (eOp2 dMul (eLst (eConsF (eVar 11) eNil)) (eC (.int 3))))) (sRet (eC (.bool false))) sNext)
  (tl14_law_is_right sp_best_two_orders sp_end_without_place sp_law_are_threes_right sp_law_draw sp_law_end sp_least_at_once sp_least_end sp_paper_worth sp_rule_of_twos sp_twos_told))
def tl16_law_is_right (sp_best_two_orders sp_end_at_once sp_end_by sp_end_without_place sp_law_are_threes_right sp_law_at_once sp_law_draw sp_law_end sp_least_at_once sp_least_end sp_paper_worth sp_rule_of_twos sp_twos_told : Sd) : SE := (sSeq (sIf (tOr (tV (eOp2 dNe (eCall 2 sp_end_by (eCons (eVar 2) (eCons (eVar 4) eNil))) (eVar 10))) (tOr (tV (eOp2 dNe (eCall 2 sp_end_by (eCons (eVar 3) (eCons (eVar 5) eNil))) (eVar 10))) (tV (eOp2 dNe (eCall 2 sp_law_end (eCons (eVar 3) (eCons (eVar 5) eNil))) (eVar 10))))) (sRet (eC (.bool false))) sNext)
  (tl15_law_is_right sp_best_two_orders sp_end_at_once sp_end_without_place sp_law_are_threes_right sp_law_at_once sp_law_draw sp_law_end sp_least_at_once sp_least_end sp_paper_worth sp_rule_of_twos sp_twos_told))
def tl17_law_is_right (sp_best_two_orders sp_end_at_once sp_end_by sp_end_without_place sp_law_are_threes_right sp_law_at_once sp_law_draw sp_law_end sp_least_at_once sp_least_end sp_paper_worth sp_rule_of_twos sp_twos_told : Sd) : SE := (sSeq (sPars [10, 11] (vCons (eCall 2 sp_law_end (eCons (eVar 2) (eCons (eVar 4) eNil))) (vCons (eCall 2 sp_law_at_once (eCons (eVar 2) (eCons (eVar 4) eNil))) vNil)))
  (tl16_law_is_right sp_best_two_orders sp_end_at_once sp_end_by sp_end_without_place sp_law_are_threes_right sp_law_at_once sp_law_draw sp_law_end sp_least_at_once sp_least_end sp_paper_worth sp_rule_of_twos sp_twos_told))
def tl18_law_is_right (sp_best_two_orders sp_end_at_once sp_end_by sp_end_without_place sp_law_are_threes_right sp_law_at_once sp_law_draw sp_law_end sp_least_at_once sp_least_end sp_paper_worth sp_rule_of_twos sp_twos_told : Sd) : SE := (sSeq (sAsg 5 (eRev (eVar 4)))
  (tl17_law_is_right sp_best_two_orders sp_end_at_once sp_end_by sp_end_without_place sp_law_are_threes_right sp_law_at_once sp_law_draw sp_law_end sp_least_at_once sp_least_end sp_paper_worth sp_rule_of_twos sp_twos_told))
def tl19_law_is_right (sp_best_two_orders sp_end_at_once sp_end_by sp_end_without_place sp_law_are_threes_right sp_law_at_once sp_law_draw sp_law_end sp_law_mixed sp_least_at_once sp_least_end sp_paper_worth sp_rule_of_twos sp_twos_told : Sd) : SE := (sSeq (sAsg 4 (eApp gTuple (eCons (eCallH 0 1 sp_law_mixed (eCons (eLRg1 true (eApp gLen (eCons (eVar 2) eNil))) eNil)) eNil)))
  (tl18_law_is_right sp_best_two_orders sp_end_at_once sp_end_by sp_end_without_place sp_law_are_threes_right sp_law_at_once sp_law_draw sp_law_end sp_least_at_once sp_least_end sp_paper_worth sp_rule_of_twos sp_twos_told))
def tl20_law_is_right (sp_best_two_orders sp_end_at_once sp_end_by sp_end_without_place sp_law_are_threes_right sp_law_at_once sp_law_draw sp_law_end sp_law_mixed sp_least_at_once sp_least_end sp_paper_worth sp_rule_of_twos sp_twos_told : Sd) : SE := (sSeq (sAsg 3 (eApp gTuple (eCons (eLc [14, 15] (iSq (eVar 2)) (gT 2 (gCn (gN 14) (gCn (gN 15) gNl))) tYs (eTup (eConsF (eVar 15) (eConsF (eVar 14) eNil)))) eNil)))
  (tl19_law_is_right sp_best_two_orders sp_end_at_once sp_end_by sp_end_without_place sp_law_are_threes_right sp_law_at_once sp_law_draw sp_law_end sp_law_mixed sp_least_at_once sp_least_end sp_paper_worth sp_rule_of_twos sp_twos_told))
def tl21_law_is_right (sp_best_two_orders sp_end_at_once sp_end_by sp_end_without_place sp_law_are_threes_right sp_law_at_once sp_law_draw sp_law_end sp_law_mixed sp_least_at_once sp_least_end sp_paper_worth sp_rule_of_twos sp_twos_told : Sd) : SE := (sSeq (sAsg 2 (eApp gTuple (eCons (eLc [12] (iR1 (eOp2 dAdd (eC (.int 1)) (eCallH 0 1 sp_law_draw (eCons (eC (.int 7)) eNil)))) (gN 12) tYs (eTup (eConsF (eOp2 dAdd (eC (.int 1)) (eCallH 0 1 sp_law_draw (eCons (eVar 1) eNil))) (eConsF (eOp2 dAdd (eC (.int 1)) (eCallH 0 1 sp_law_draw (eCons (eVar 1) eNil))) eNil)))) eNil)))
  (tl20_law_is_right sp_best_two_orders sp_end_at_once sp_end_by sp_end_without_place sp_law_are_threes_right sp_law_at_once sp_law_draw sp_law_end sp_law_mixed sp_least_at_once sp_least_end sp_paper_worth sp_rule_of_twos sp_twos_told))
def rd_law_is_right (sp_law_any sp_least_end sp_law_are_threes_right sp_law_mixed sp_law_end sp_law_at_once sp_paper_worth sp_end_by sp_end_at_once sp_end_without_place sp_best_two_orders sp_twos_told sp_least_at_once sp_law_draw sp_rule_of_twos : Sd) : SE := (sSeq (sAsg 1 (eCallH 0 1 sp_law_any (eCons (eLst (eConsF (eC (.int 3)) (eConsF (eC (.int 10)) (eConsF (eC (.int 60)) eNil)))) eNil)))
  (tl21_law_is_right sp_best_two_orders sp_end_at_once sp_end_by sp_end_without_place sp_law_are_threes_right sp_law_at_once sp_law_draw sp_law_end sp_law_mixed sp_least_at_once sp_least_end sp_paper_worth sp_rule_of_twos sp_twos_told))
theorem w_law_is_right {Pg : Program} {w : World} {K : PySem.W.Frag} {mg : PySem.Str → Option Value} {base : Heap} {sp_law_any sp_least_end sp_law_are_threes_right sp_law_mixed sp_law_end sp_law_at_once sp_paper_worth sp_end_by sp_end_at_once sp_end_without_place sp_best_two_orders sp_twos_told sp_least_at_once sp_law_draw sp_rule_of_twos : Sd} (e : Nm K mg) (c_law_any : CalH Pg w K mg base 2 "_law_any" 1 sp_law_any) (c_least_end : CalD Pg w K mg base 6 "least_end" 1 sp_least_end) (c_law_are_threes_right : CalH Pg w K mg base 6 "_law_are_threes_right" 0 sp_law_are_threes_right) (c_law_mixed : CalH Pg w K mg base 2 "_law_mixed" 1 sp_law_mixed) (c_law_end : CalD Pg w K mg base 1 "_law_end" 2 sp_law_end) (c_law_at_once : CalD Pg w K mg base 1 "_law_at_once" 2 sp_law_at_once) (c_paper_worth : CalD Pg w K mg base 6 "paper_worth" 3 sp_paper_worth) (c_end_by : CalD Pg w K mg base 7 "end_by" 2 sp_end_by) (c_end_at_once : CalD Pg w K mg base 7 "end_at_once" 2 sp_end_at_once) (c_end_without_place : CalD Pg w K mg base 7 "end_without_place" 2 sp_end_without_place) (c_best_two_orders : CalD Pg w K mg base 6 "best_two_orders" 1 sp_best_two_orders) (c_twos_told : CalD Pg w K mg base 7 "twos_told" 2 sp_twos_told) (c_least_at_once : CalD Pg w K mg base 6 "least_at_once" 1 sp_least_at_once) (c_law_draw : CalH Pg w K mg base 1 "_law_draw" 1 sp_law_draw) (c_rule_of_twos : CalD Pg w K mg base 6 "rule_of_twos" 1 sp_rule_of_twos) (f : Addr) : Walks Pg w K mg base n_law_is_right "_law_is_right" (defScope s_law_is_right) f 7 (defBody s_law_is_right) (rd_law_is_right sp_law_any sp_least_end sp_law_are_threes_right sp_law_mixed sp_law_end sp_law_at_once sp_paper_worth sp_end_by sp_end_at_once sp_end_without_place sp_best_two_orders sp_twos_told sp_least_at_once sp_law_draw sp_rule_of_twos) :=
    fun cdv A outer s H E hr =>
    (dss_cons (ds_set (i := 1) sc_law_is_right.nd rfl (by first | exact Or.inl rfl | exact Or.inr rfl) (de_callHC 0 c_law_any hr (by rfl) (da_cons (de_lst (df_cons de_int (df_cons de_int (df_cons de_int df_nil)))) da_nil)))
      (dss_cons (ds_set (i := 2) sc_law_is_right.nd rfl (by first | exact Or.inl rfl | exact Or.inr rfl) (de_callTy oc_tuple (by rfl) e.b_tuple bt_tuple (da_cons (de_lc (own := [("dish", 12)]) rfl sc_law_is_right.nd (di_range1 (by rfl) e.b_range (de_op od_add de_int (de_callHC 0 c_law_draw hr (by rfl) (da_cons de_int da_nil)))) (blkOk_by (by rfl)) (fun _ _ _ _ _ => (dg_name (i := 12) sc_law_is_right.nd rfl (by first | exact Or.inl rfl | exact Or.inr rfl))) (fun _ _ _ _ _ => dts_nil) (fun _ _ _ _ _ => (de_tup (df_cons (de_op od_add de_int (de_callHC 0 c_law_draw hr (by rfl) (da_cons (de_var 1) da_nil))) (df_cons (de_op od_add de_int (de_callHC 0 c_law_draw hr (by rfl) (da_cons (de_var 1) da_nil))) df_nil))))) da_nil)))
      (dss_cons (ds_set (i := 3) sc_law_is_right.nd rfl (by first | exact Or.inl rfl | exact Or.inr rfl) (de_callTy oc_tuple (by rfl) e.b_tuple bt_tuple (da_cons (de_lc (own := [("first", 14), ("last", 15)]) rfl sc_law_is_right.nd (di_seq (de_var 2)) (blkOk_by (by rfl)) (fun _ _ _ _ _ => (dg_tup rfl (dgs_cons (dg_name (i := 14) sc_law_is_right.nd rfl (by first | exact Or.inl rfl | exact Or.inr rfl)) (dgs_cons (dg_name (i := 15) sc_law_is_right.nd rfl (by first | exact Or.inl rfl | exact Or.inr rfl)) dgs_nil)))) (fun _ _ _ _ _ => dts_nil) (fun _ _ _ _ _ => (de_tup (df_cons (de_var 15) (df_cons (de_var 14) df_nil))))) da_nil)))
      (dss_cons (ds_set (i := 4) sc_law_is_right.nd rfl (by first | exact Or.inl rfl | exact Or.inr rfl) (de_callTy oc_tuple (by rfl) e.b_tuple bt_tuple (da_cons (de_callHC 0 c_law_mixed hr (by rfl) (da_cons (de_listRg (by rfl) (by rfl) e.b_list (by rfl) e.b_range (de_callB oc_len (by rfl) e.b_len bb_len (da_cons (de_var 2) da_nil))) da_nil)) da_nil)))
      (dss_cons (ds_set (i := 5) sc_law_is_right.nd rfl (by first | exact Or.inl rfl | exact Or.inr rfl) (de_back (de_var 4)))
      (dss_cons (by first | exact ds_par2 (i := 10) (j := 11) rfl sc_law_is_right.nd rfl rfl (by decide) (by rfl) (by rfl) (dv_cons (de_callC c_law_end hr (by rfl) (da_cons (de_var 2) (da_cons (de_var 4) da_nil))) (dv_cons (de_callC c_law_at_once hr (by rfl) (da_cons (de_var 2) (da_cons (de_var 4) da_nil))) dv_nil)) (by rfl) | exact ds_parT (is := [10, 11]) (n := 2) rfl (pgs_cons (pg_name (i := 10) sc_law_is_right.nd rfl (by first | exact Or.inl rfl | exact Or.inr rfl)) (pgs_cons (pg_name (i := 11) sc_law_is_right.nd rfl (by first | exact Or.inl rfl | exact Or.inr rfl)) pgs_nil)) (dv_cons (de_callC c_law_end hr (by rfl) (da_cons (de_var 2) (da_cons (de_var 4) da_nil))) (dv_cons (de_callC c_law_at_once hr (by rfl) (da_cons (de_var 2) (da_cons (de_var 4) da_nil))) dv_nil)))
      (dss_cons (ds_if (DW.dt (dw_or (dt_cmp (od_ne hr.units) (de_callC c_end_by hr (by rfl) (da_cons (de_var 2) (da_cons (de_var 4) da_nil))) (de_var 10) (by rfl)) (dw_or (dt_cmp (od_ne hr.units) (de_callC c_end_by hr (by rfl) (da_cons (de_var 3) (da_cons (de_var 5) da_nil))) (de_var 10) (by rfl)) (dw_or1 (dt_cmp (od_ne hr.units) (de_callC c_law_end hr (by rfl) (da_cons (de_var 3) (da_cons (de_var 5) da_nil))) (de_var 10) (by rfl)))))) (dss_one (ds_ret de_bl)) dss_nil)
      (dss_cons (ds_if (dt_cmp (od_ne hr.units) (de_lst (df_cons (de_callC c_end_at_once hr (by rfl) (da_cons (de_var 2) (da_cons (de_var 4) da_nil))) (df_cons (de_callC c_end_at_once hr (by rfl) (da_cons (de_var 3) (da_cons (de_var 5) da_nil))) (df_cons (de_callC c_law_at_once hr (by rfl) (da_cons (de_var 3) (da_cons (de_var 5) da_nil))) df_nil)))) (de_op od_mul (de_lst (df_cons (de_var 11) df_nil)) de_int) (by rfl)) (dss_one (ds_ret de_bl)) dss_nil)
      (dss_cons (ds_if (DW.dt (dw_or (dt_cmp (od_ne hr.units) (de_callC c_end_without_place hr (by rfl) (da_cons (de_var 2) (da_cons (de_var 4) da_nil))) (de_var 11) (by rfl)) (dw_or1 (dt_cmp (od_ne hr.units) (de_callC c_end_without_place hr (by rfl) (da_cons (de_var 3) (da_cons (de_var 5) da_nil))) (de_var 11) (by rfl))))) (dss_one (ds_ret de_bl)) dss_nil)
      (dss_cons (ds_set (i := 6) sc_law_is_right.nd rfl (by first | exact Or.inl rfl | exact Or.inr rfl) (de_callTy oc_tuple (by rfl) e.b_tuple bt_tuple (da_cons (de_lc (own := [("one", 13)]) rfl sc_law_is_right.nd (di_range1 (by rfl) e.b_range (de_callB oc_len (by rfl) e.b_len bb_len (da_cons (de_var 2) da_nil))) (blkOk_by (by rfl)) (fun _ _ _ _ _ => (dg_name (i := 13) sc_law_is_right.nd rfl (by first | exact Or.inl rfl | exact Or.inr rfl))) (fun _ _ _ _ _ => (dts_one (dt_cmp (od_eq hr.units) (de_callHC 0 c_law_draw hr (by rfl) (da_cons de_int da_nil)) de_int (by rfl)))) (fun _ _ _ _ _ => (de_var 13))) da_nil)))
      (dss_cons (ds_set (i := 6) sc_law_is_right.nd rfl (by first | exact Or.inl rfl | exact Or.inr rfl) (de_if (dt_cmp (od_ne hr.units) (de_var 6) (de_tup df_nil) (by rfl)) (de_var 6) (de_tup (df_cons de_int df_nil))))
      (dss_cons (ds_set (i := 7) sc_law_is_right.nd rfl (by first | exact Or.inl rfl | exact Or.inr rfl) (de_callB (oc_sum rfl) (by rfl) e.b_sum bb_sum (da_cons (de_lc (own := [("one", 13), ("pair", 16)]) rfl sc_law_is_right.nd (di_enum (by rfl) e.b_enumerate (de_var 2)) (blkOk_by (by rfl)) (fun _ _ _ _ _ => (dg_tup rfl (dgs_cons (dg_name (i := 13) sc_law_is_right.nd rfl (by first | exact Or.inl rfl | exact Or.inr rfl)) (dgs_cons (dg_name (i := 16) sc_law_is_right.nd rfl (by first | exact Or.inl rfl | exact Or.inr rfl)) dgs_nil)))) (fun _ _ _ _ _ => (dts_one (dt_cmp (od_ni hr.units) (de_var 13) (de_var 6) (by rfl)))) (fun _ _ _ _ _ => (de_callB (oc_min rfl hr.units) (by rfl) e.b_min bb_min (da_cons (de_var 16) da_nil)))) da_nil)))
      (dss_cons (ds_set (i := 8) sc_law_is_right.nd rfl (by first | exact Or.inl rfl | exact Or.inr rfl) (de_op od_add (de_op od_add (de_callB (oc_min rfl hr.units) (by rfl) e.b_min bb_min (da_cons (de_lc (own := [("one", 13)]) rfl sc_law_is_right.nd (di_seq (de_var 6)) (blkOk_by (by rfl)) (fun _ _ _ _ _ => (dg_name (i := 13) sc_law_is_right.nd rfl (by first | exact Or.inl rfl | exact Or.inr rfl))) (fun _ _ _ _ _ => dts_nil) (fun _ _ _ _ _ => (de_ix (od_ix hr.units) (de_ix (od_ix hr.units) (de_var 2) (de_var 13) (fun _ _ => rfl)) de_int (fun _ _ => rfl)))) da_nil)) (de_callB (oc_sum rfl) (by rfl) e.b_sum bb_sum (da_cons (de_lc (own := [("one", 13)]) rfl sc_law_is_right.nd (di_seq (de_var 6)) (blkOk_by (by rfl)) (fun _ _ _ _ _ => (dg_name (i := 13) sc_law_is_right.nd rfl (by first | exact Or.inl rfl | exact Or.inr rfl))) (fun _ _ _ _ _ => dts_nil) (fun _ _ _ _ _ => (de_ix (od_ix hr.units) (de_ix (od_ix hr.units) (de_var 2) (de_var 13) (fun _ _ => rfl)) de_int (fun _ _ => rfl)))) da_nil))) (de_var 7)))
      (dss_cons (ds_if (DW.dt (dw_or (dt_cmp (od_ne hr.units) (de_callC c_paper_worth hr (by rfl) (da_cons (de_var 2) (da_cons de_str (da_cons (de_var 6) da_nil)))) (de_var 8) (by rfl)) (dw_or1 (dt_cmp (od_ne hr.units) (de_callC c_paper_worth hr (by rfl) (da_cons (de_var 3) (da_cons de_str (da_cons (de_var 6) da_nil)))) (de_var 8) (by rfl))))) (dss_one (ds_ret de_bl)) dss_nil)
      (dss_cons (ds_if (dt_cmp (od_ne hr.units) (de_callC c_paper_worth hr (by rfl) (da_cons (de_var 2) (da_cons de_str (da_cons (de_var 6) da_nil)))) (de_callC c_paper_worth hr (by rfl) (da_cons (de_var 3) (da_cons de_str (da_cons (de_var 6) da_nil)))) (by rfl)) (dss_one (ds_ret de_bl)) dss_nil)
      (dss_cons (ds_set (i := 9) sc_law_is_right.nd rfl (by first | exact Or.inl rfl | exact Or.inr rfl) (de_callC c_least_end hr (by rfl) (da_cons (de_var 2) da_nil)))
      (dss_cons (ds_if (DW.dt (dw_or (dt_cmp (od_ne hr.units) (de_callC c_least_end hr (by rfl) (da_cons (de_var 3) da_nil)) (de_var 9) (by rfl)) (dw_or1 (dt_cmp (od_ne hr.units) (de_callC c_law_end hr (by rfl) (da_cons (de_var 3) (da_cons (de_back (de_callC c_rule_of_twos hr (by rfl) (da_cons (de_var 2) da_nil))) da_nil))) (de_var 9) (by rfl))))) (dss_one (ds_ret de_bl)) dss_nil)
      (dss_cons (ds_if (DW.dt (dw_or (dt_cmp (od_gt hr.units) (de_var 9) (de_var 10) (by rfl)) (dw_or1 (dt_cmp (od_gt hr.units) (de_var 8) (de_var 9) (by rfl))))) (dss_one (ds_ret de_bl)) dss_nil)
      (dss_cons (ds_if (DW.dt (dw_or (dt_cmp (od_ne hr.units) (de_ix (od_ix hr.units) (de_callC c_twos_told hr (by rfl) (da_cons (de_var 3) (da_cons (de_var 9) da_nil))) de_int (fun _ _ => rfl)) de_str (by rfl)) (dw_or1 (dt_cmp (od_ne hr.units) (de_ix (od_ix hr.units) (de_callC c_twos_told hr (by rfl) (da_cons (de_var 3) (da_cons (de_op od_sub (de_var 9) de_int) da_nil))) de_int (fun _ _ => rfl)) de_str (by rfl))))) (dss_one (ds_ret de_bl)) dss_nil)
      (dss_cons (ds_if (DW.dt (dw_and (dt_cmp (od_lt hr.units) (de_callB oc_len (by rfl) e.b_len bb_len (da_cons (de_var 2) da_nil)) de_int (by rfl)) (dw_and1 (dt_cmp (od_ne hr.units) (de_callC c_best_two_orders hr (by rfl) (da_cons (de_var 2) da_nil)) (de_callC c_best_two_orders hr (by rfl) (da_cons (de_var 3) da_nil)) (by rfl))))) (dss_one (ds_ret de_bl)) dss_nil)
      (dss_cons (ds_if (DW.dt (dw_and (dt_cmp (od_lt hr.units) (de_callB oc_len (by rfl) e.b_len bb_len (da_cons (de_var 2) da_nil)) de_int (by rfl)) (dw_and1 (dt_cmp (od_ne hr.units) (de_ix (od_ix hr.units) (de_callC c_least_at_once hr (by rfl) (da_cons (de_var 2) da_nil)) de_int (fun _ _ => rfl)) (de_ix (od_ix hr.units) (de_callC c_least_at_once hr (by rfl) (da_cons (de_var 3) da_nil)) de_int (fun _ _ => rfl)) (by rfl))))) (dss_one (ds_ret de_bl)) dss_nil)
      (dss_one (ds_ret (de_callHC 0 c_law_are_threes_right hr (by rfl) da_nil))))))))))))))))))))))))
abbrev n_law : List PySem.Str := ["script", "hand", "lap"]
theorem sc_law : FnScope n_law ["script"] (defScope s_law) := ⟨rfl, rfl, rfl, by decide +kernel, rfl, by decide +kernel, by decide +kernel⟩
theorem bi_law : BindsAll "law" s_law ["script"] := fun _ _ _ _ _ _ us hl => match us, hl with | [_], _ => rfl
def rd_law (sp_end_by sp_end_at_once sp_law_is_right : Sd) (R : List Int → Prop) : SE := (sSeq (sHand 1 0 R)
  (sSeq (sIf (tOr (tV (eOp2 dNe (eCall 2 sp_end_by (eCons (eTup (eConsF (eTup (eConsF (eC (.int 1)) (eConsF (eC (.int 5)) eNil))) (eConsF (eTup (eConsF (eC (.int 3)) (eConsF (eC (.int 2)) eNil))) eNil))) (eCons (eTup (eConsF (eC (.int 0)) (eConsF (eC (.int 1)) eNil))) eNil))) (eC (.int 8)))) (tV (eOp2 dNe (eCall 2 sp_end_at_once (eCons (eTup (eConsF (eTup (eConsF (eC (.int 1)) (eConsF (eC (.int 5)) eNil))) (eConsF (eTup (eConsF (eC (.int 3)) (eConsF (eC (.int 2)) eNil))) eNil))) (eCons (eTup (eConsF (eC (.int 0)) (eConsF (eC (.int 1)) eNil))) eNil))) (eC (.int 8))))) (sRet (eC (.bool false))) sNext)
  (sRet (eApp gAll (eCons (eLc [2] (iR1 (eC (.int 4))) (gN 2) tYs (eCallH 1 0 sp_law_is_right eNil)) eNil)))))
theorem w_law {Pg : Program} {w : World} {K : PySem.W.Frag} {mg : PySem.Str → Option Value} {base : Heap} {sp_end_by sp_end_at_once sp_law_is_right : Sd} {R : List Int → Prop} (e : Nm K mg) (c_law_hand : CalS Pg w K mg base 1 "_law_hand" (SpN K R)) (c_end_by : CalD Pg w K mg base 7 "end_by" 2 sp_end_by) (c_end_at_once : CalD Pg w K mg base 7 "end_at_once" 2 sp_end_at_once) (c_law_is_right : CalH Pg w K mg base 8 "_law_is_right" 0 sp_law_is_right) (f : Addr) : Walks Pg w K mg base n_law "law" (defScope s_law) f 8 (defBody s_law) (rd_law sp_end_by sp_end_at_once sp_law_is_right R) :=
    fun cdv A outer s H E hr =>
    (dss_cons (ds_hand (i := 1) (j := 0) c_law_hand hr rfl sc_law.nd rfl (by first | exact Or.inl rfl | exact Or.inr rfl) rfl)
      (dss_cons (ds_if (DW.dt (dw_or (dt_cmp (od_ne hr.units) (de_callC c_end_by hr (by rfl) (da_cons (de_tup (df_cons (de_tup (df_cons de_int (df_cons de_int df_nil))) (df_cons (de_tup (df_cons de_int (df_cons de_int df_nil))) df_nil))) (da_cons (de_tup (df_cons de_int (df_cons de_int df_nil))) da_nil))) de_int (by rfl)) (dw_or1 (dt_cmp (od_ne hr.units) (de_callC c_end_at_once hr (by rfl) (da_cons (de_tup (df_cons (de_tup (df_cons de_int (df_cons de_int df_nil))) (df_cons (de_tup (df_cons de_int (df_cons de_int df_nil))) df_nil))) (da_cons (de_tup (df_cons de_int (df_cons de_int df_nil))) da_nil))) de_int (by rfl))))) (dss_one (ds_ret de_bl)) dss_nil)
      (dss_one (ds_ret (de_callB (oc_all rfl) (by rfl) e.b_all bb_all (da_cons (de_lc (own := [("lap", 2)]) rfl sc_law.nd (di_range1 (by rfl) e.b_range de_int) (blkOk_by (by rfl)) (fun _ _ _ _ _ => (dg_name (i := 2) sc_law.nd rfl (by first | exact Or.inl rfl | exact Or.inr rfl))) (fun _ _ _ _ _ => dts_nil) (fun _ _ _ _ _ => (de_callHC 1 c_law_is_right hr (by rfl) da_nil))) da_nil))))))
end Gk01

set_option maxRecDepth 100000
set_option maxHeartbeats 4000000
namespace Gk01
open PySem PySem.Spec PyProof.Rows L2 Z3

theorem ifF {c : Bool} {P Q : Prop} (h : c = false) (q : Q) : if c = true then P else Q := by rw [h]; exact q
theorem ifT {c : Bool} {P Q : Prop} (h : c = true) (q : P) : if c = true then P else Q := by rw [h]; exact q
abbrev ends (Q : D → Prop) : SEnds := { nx := fun _ => Q .none, rt := fun d _ => Q d }
def tuI (ns : List Int) : D := .tuple (ns.map .int)

/-! ### basics -/
def sp_is_integer : Sd := fun ds Q => ∃ i, ds = [.int i] ∧ Q (.bool true)
theorem p_is_integer (ds : List D) (Q : D → Prop) (h : sp_is_integer ds Q) : rd_is_integer (ends Q) (startS n_is_integer ds) := by
  obtain ⟨i, rfl, q⟩ := h
  refine ⟨true, congrArg PyData.bool (isi_int_int i), false, congrArg PyData.bool (isi_bool_int i), q⟩
def sp_is_within : Sd := fun ds Q => ∃ i a b, ds = [.int i, .int a, .int b] ∧ Q (.bool (decide (a ≤ i) && decide (i ≤ b)))
theorem p_is_within (ds : List D) (Q : D → Prop) (h : sp_is_within ds Q) : rd_is_within sp_is_integer (ends Q) (startS n_is_within ds) := by
  obtain ⟨i, a, b, rfl, q⟩ := h
  refine ⟨rfl, i, rfl, true, rfl, decide (a ≤ i), rfl, ?_⟩
  by_cases h : a ≤ i
  · rw [decide_eq_true h] at q ⊢
    exact q
  · rw [decide_eq_false h] at q ⊢
    exact q
def sp_is_sized : Sd := fun ds Q => ∃ xs a b, ds = [.tuple xs, .int a, .int b] ∧ Q (.bool (decide (a ≤ (xs.length : Int)) && decide ((xs.length : Int) ≤ b)))
theorem p_is_sized (ds : List D) (Q : D → Prop) (h : sp_is_sized ds Q) : rd_is_sized (ends Q) (startS n_is_sized ds) := by
  obtain ⟨xs, a, b, rfl, q⟩ := h
  refine ⟨true, congrArg PyData.bool (isi_tup_tup xs), decide (a ≤ (xs.length : Int)), rfl, ?_⟩
  by_cases h : a ≤ (xs.length : Int)
  · rw [decide_eq_true h] at q ⊢
    exact q
  · rw [decide_eq_false h] at q ⊢
    exact q

theorem zip_rising : ∀ {ns : List Int}, ns.Pairwise (· < ·) → ∀ d ∈ zipD (ns.map .int) (Z3.cutD (ns.map .int) (some 1) none), ∃ x y : Int, d = .tuple [.int x, .int y] ∧ x < y := fun {ns} h => by
  have e : Z3.cutD (ns.map PyData.int) (some 1) none = (ns.drop 1).map .int := by
    unfold Z3.cutD
    rw [show HT.sIx (ns.map PyData.int).length 0 (some 1) = min 1 (ns.map PyData.int).length from HT.sIx_nat _ 0 1, HT.sIx_none]
    rw [← List.map_drop]
    have : min 1 (ns.map PyData.int).length = if ns = [] then 0 else 1 := by
      cases ns with
      | nil => rfl
      | cons n ns =>
        rw [if_neg (by simp), List.length_map, List.length_cons]
        omega
    rw [this]
    cases ns with
    | nil => rfl
    | cons n ns =>
      rw [if_neg (by simp)]
      rw [List.take_of_length_le (by simp)]
  rw [e]
  induction ns with
  | nil => intro d hd; cases hd
  | cons n ns ih =>
    cases ns with
    | nil => intro d hd; cases hd
    | cons m ms =>
      intro d hd
      rcases List.mem_cons.mp (show d ∈ PyData.tuple [.int n, .int m] :: zipD ((m :: ms).map .int) (ms.map .int) from hd) with hd | hd
      · exact ⟨n, m, hd, (List.pairwise_cons.mp h).1 m (List.mem_cons_self ..)⟩
      · refine ih (List.pairwise_cons.mp h).2 ?_ d hd
        unfold Z3.cutD
        rw [show HT.sIx ((m :: ms).map PyData.int).length 0 (some 1) = min 1 ((m :: ms).map PyData.int).length from HT.sIx_nat _ 0 1, HT.sIx_none]
        simp
        exact List.take_of_length_le (by simp)
def sp_are_rising : Sd := fun ds Q => ∃ ns, ds = [tuI ns] ∧ ns.length ≤ sizeLine ∧ ns.Pairwise (· < ·) ∧ Q (.bool true)
theorem p_are_rising (ds : List D) (Q : D → Prop) (h : sp_are_rising ds Q) : rd_are_rising (ends Q) (startS n_are_rising ds) := by
  obtain ⟨ns, rfl, hz, hr, q⟩ := h
  have hd := zip_rising hr
  obtain ⟨bs, e1, e2⟩ := all_true (f := fun _ => some (.bool true)) (ds := zipD (ns.map .int) (Z3.cutD (ns.map .int) (some 1) none)) fun _ _ => rfl
  refine ⟨nh rfl, 1, rfl, ns.map .int, _, rfl, rfl, lcK_run (fun _ => some (.bool true)) (fun d hd' acc k hz' q' => ?_) ?_ ?_⟩
  · obtain ⟨x, y, rfl, hxy⟩ := hd d hd'
    refine ⟨[.int x, .int y], rfl, rfl, _, _, rfl, _, _, rfl, rfl, trivial, hz', ?_⟩
    show k (acc ++ [.bool (decide (x < y))])
    rw [decide_eq_true hxy]
    exact q'
  · show 0 + (zipD _ _).length ≤ _
    unfold zipD
    rw [List.length_zipWith, List.length_map]
    omega
  · refine ⟨bs, e1, ?_⟩
    show Q (.bool (bs.all id))
    rw [e2]
    exact q
def sp_is_lot : Sd := fun ds Q => ∃ (ns : List Int) (n : Int), ds = [tuI ns, .int n] ∧ ns.length ≤ sizeLine ∧ (∀ i ∈ ns, 0 ≤ i ∧ i < n) ∧ ns.Pairwise (· < ·) ∧ Q (.bool true)
theorem p_is_lot (ds : List D) (Q : D → Prop) (h : sp_is_lot ds Q) : rd_is_lot sp_are_rising sp_is_within (ends Q) (startS n_is_lot ds) := by
  obtain ⟨ns, n, rfl, hz, hb, hr, q⟩ := h
  obtain ⟨bs, e1, e2⟩ := all_true (f := fun _ => some (.bool true)) (ds := ns.map .int) fun _ _ => rfl
  refine ⟨true, congrArg PyData.bool (isi_tup_tup _), nh rfl, ns.map .int, rfl, lcK_run (fun _ => some (.bool true)) (fun d hd' acc k hz' q' => ?_) ?_ ?_⟩
  · obtain ⟨i, hi, rfl⟩ := List.mem_map.mp hd'
    refine ⟨rfl, i, 0, n - 1, rfl, trivial, hz', ?_⟩
    show k (acc ++ [.bool (decide (0 ≤ i) && decide (i ≤ n - 1))])
    have := hb i hi
    rw [decide_eq_true this.1, decide_eq_true (by omega)]
    exact q'
  · show 0 + (ns.map PyData.int).length ≤ _
    rw [List.length_map]
    omega
  · refine ⟨bs, e1, bs.all id, rfl, ?_⟩
    rw [e2]
    exact ⟨rfl, ns, rfl, hz, hr, q⟩
def sp_is_order : Sd := fun ds Q => ∃ (ns : List Int) (n : Nat), ds = [tuI ns, .int n] ∧ n ≤ 1000 ∧ ns.Perm (rangeI n) ∧ Q (.bool true)
theorem p_is_order (ds : List D) (Q : D → Prop) (h : sp_is_order ds Q) : rd_is_order sp_is_sized sp_is_integer (ends Q) (startS n_is_order ds) := by
  obtain ⟨ns, n, rfl, hz, hp, q⟩ := h
  have hl : ns.length = n := by
    rw [hp.length_eq]
    unfold rangeI
    rw [List.length_map, List.length_range]
  have hs : sizeLine = 16777216 := sizeLine_eq
  obtain ⟨bs, e1, e2⟩ := all_true (f := fun _ => some (.bool true)) (ds := ns.map .int) fun _ _ => rfl
  refine ⟨rfl, ns.map .int, n, n, rfl, _, rfl, ?_⟩
  show if (!(decide ((n : Int) ≤ ((ns.map PyData.int).length : Int)) && decide (((ns.map PyData.int).length : Int) ≤ (n : Int)))) = true then _ else _
  rw [List.length_map, hl, decide_eq_true (Int.le_refl _)]
  refine ⟨nh rfl, ns.map .int, rfl, lcK_run (fun _ => some (.bool true)) (fun d hd' acc k hz' q' => ?_) ?_ ?_⟩
  · obtain ⟨i, hi, rfl⟩ := List.mem_map.mp hd'
    exact ⟨rfl, i, rfl, trivial, hz', q'⟩
  · show 0 + (ns.map PyData.int).length ≤ _
    rw [List.length_map]
    omega
  · refine ⟨bs, e1, bs.all id, rfl, ?_⟩
    rw [e2]
    refine ⟨ord_ints ns, sortable_ints ns, n, rfl, by omega, by omega, ⟨?_, ?_, ?_⟩, ?_⟩
    · rw [sortD_ints]
      exact plain_ints _
    · show (PyData.list (rangeD 0 ((n : Int)).toNat)).plain = true
      rw [rangeD_eq]
      exact plain_ints _
    · rw [sortD_ints]
      show min (PyData.depthAll ((sortI ns).map .int) + 1) _ ≤ 64
      rw [depth_ints]
      omega
    · show Q (.bool (PyData.eqv (.list (sortD (ns.map .int))) (.list (rangeD 0 ((n : Int)).toNat))))
      rw [sortD_ints, rangeD_eq, sortI_range hp]
      show Q (.bool (PyData.eqvAll ((rangeI n).map .int) ((rangeI ((n : Int)).toNat).map .int)))
      rw [eqv_ints, Int.toNat_natCast, decide_eq_true rfl]
      exact q
end Gk01

set_option maxRecDepth 100000
set_option maxHeartbeats 4000000
namespace Gk01
open PySem PySem.Spec PyProof.Rows L2 Z3

/-! ### items -/
theorem atI_nat {α : Type} {xs : List α} {i : Int} {x : α} (h0 : 0 ≤ i) (h : xs[i.toNat]? = some x) : L2.atI xs i = some x := by
  have hl := (List.getElem?_eq_some_iff.mp h).1
  unfold L2.atI L2.ixN
  rw [if_pos h0, if_pos (by omega)]
  exact h
theorem atI_map {α β : Type} {xs : List α} {i : Int} (f : α → β) (d : α) (h0 : 0 ≤ i) (h1 : i < xs.length) : L2.atI (xs.map f) i = some (f (xs.getD i.toNat d)) := by
  refine atI_nat h0 ?_
  rw [List.getElem?_map, List.getD_eq_getElem?_getD, List.getElem?_eq_getElem (by omega)]
  rfl
theorem atI_last {α : Type} {xs : List α} {x : α} (h : xs.getLast? = some x) : L2.atI xs (-1) = some x := by
  have hne : xs ≠ [] := fun z => by rw [z] at h; cases h
  have hl : 0 < xs.length := List.length_pos_iff.mpr hne
  unfold L2.atI L2.ixN
  rw [if_neg (by omega), if_pos (by omega)]
  show xs[((-1 : Int) + (xs.length : Int)).toNat]? = some x
  rw [show ((-1 : Int) + (xs.length : Int)).toNat = xs.length - 1 by omega, ← List.getLast?_eq_getElem?]
  exact h
abbrev Tw := List (Int × Int)
def pr (p : Int × Int) : D := tuI [p.1, p.2]
def en2 (t : Tw) : D := .tuple (t.map pr)
def at2 (t : Tw) (i : Int) : Int × Int := t.getD i.toNat (0, 0)
def Ok2 (t : Tw) : Prop := 1 ≤ t.length ∧ t.length ≤ 7 ∧ ∀ p ∈ t, (1 ≤ p.1 ∧ p.1 ≤ 60) ∧ 1 ≤ p.2 ∧ p.2 ≤ 60
/-- an order of the dishes -/
def Ord (n : Nat) (ns : List Int) : Prop := ns.Perm (rangeI n)
theorem Ord.len {n : Nat} {ns : List Int} (h : Ord n ns) : ns.length = n := by
  rw [List.Perm.length_eq h]
  unfold rangeI
  rw [List.length_map, List.length_range]
theorem Ord.mem {n : Nat} {ns : List Int} (h : Ord n ns) : ∀ i ∈ ns, 0 ≤ i ∧ i < n := fun i hi => mem_rangeI.mp ((List.Perm.mem_iff h).mp hi)
theorem at_pr {t : Tw} {i : Int} (h : 0 ≤ i ∧ i < t.length) : L2.atI (t.map pr) i = some (pr (at2 t i)) := atI_map pr (0, 0) h.1 h.2

/-! ### checks -/
def sp_are_minutes : Sd := fun ds Q => ∃ (ns : List Int) (n : Nat), ds = [tuI ns, .int n] ∧ n ≤ 1000 ∧ ns.length = n ∧ (∀ i ∈ ns, 1 ≤ i ∧ i ≤ 60) ∧ Q (.bool true)
theorem p_are_minutes (ds : List D) (Q : D → Prop) (h : sp_are_minutes ds Q) : rd_are_minutes sp_is_sized sp_is_within (ends Q) (startS n_are_minutes ds) := by
  obtain ⟨ns, n, rfl, hn, hl, hb, q⟩ := h
  have hs : sizeLine = 16777216 := sizeLine_eq
  obtain ⟨bs, e1, e2⟩ := all_true (f := fun _ => some (.bool true)) (ds := ns.map .int) fun _ _ => rfl
  refine ⟨rfl, ns.map .int, n, n, rfl, true, ?_, ?_⟩
  · show PyData.bool (decide ((n : Int) ≤ ((ns.map PyData.int).length : Int)) && decide (((ns.map PyData.int).length : Int) ≤ (n : Int))) = _
    rw [List.length_map, hl, decide_eq_true (Int.le_refl _)]
    rfl
  · refine ⟨nh rfl, ns.map .int, rfl, lcK_run (fun _ => some (.bool true)) (fun d hd' acc k hz' q' => ?_) ?_ ?_⟩
    · obtain ⟨i, hi, rfl⟩ := List.mem_map.mp hd'
      refine ⟨rfl, i, 1, 60, rfl, trivial, hz', ?_⟩
      show k (acc ++ [.bool (decide (1 ≤ i) && decide (i ≤ 60))])
      have := hb i hi
      rw [decide_eq_true this.1, decide_eq_true this.2]
      exact q'
    · show 0 + (ns.map PyData.int).length ≤ _
      rw [List.length_map]
      omega
    · refine ⟨bs, e1, ?_⟩
      show Q (.bool (bs.all id))
      rw [e2]
      exact q
def sp_are_twos : Sd := fun ds Q => ∃ t, ds = [en2 t] ∧ Ok2 t ∧ Q (.bool true)
theorem p_are_twos (ds : List D) (Q : D → Prop) (h : sp_are_twos ds Q) : rd_are_twos sp_is_sized sp_are_minutes (ends Q) (startS n_are_twos ds) := by
  obtain ⟨t, rfl, ok, q⟩ := h
  have hs : sizeLine = 16777216 := sizeLine_eq
  have h1 := ok.1
  have h2 := ok.2.1
  obtain ⟨bs, e1, e2⟩ := all_true (f := fun _ => some (.bool true)) (ds := t.map pr) fun _ _ => rfl
  refine ⟨rfl, t.map pr, 1, 7, rfl, true, ?_, ?_⟩
  · show PyData.bool (decide ((1 : Int) ≤ ((t.map pr).length : Int)) && decide (((t.map pr).length : Int) ≤ (7 : Int))) = _
    rw [List.length_map, decide_eq_true (by omega), decide_eq_true (by omega)]
    rfl
  · refine ⟨nh rfl, t.map pr, rfl, lcK_run (fun _ => some (.bool true)) (fun d hd' acc k hz' q' => ?_) ?_ ?_⟩
    · obtain ⟨p, hp, rfl⟩ := List.mem_map.mp hd'
      have := ok.2.2 p hp
      refine ⟨rfl, [p.1, p.2], 2, rfl, by omega, rfl, fun i hi => ?_, trivial, hz', q'⟩
      rcases List.mem_cons.mp hi with rfl | hi
      · exact this.1
      · rcases List.mem_cons.mp hi with rfl | hi
        · exact this.2
        · cases hi
    · show 0 + (t.map pr).length ≤ _
      rw [List.length_map]
      omega
    · refine ⟨bs, e1, ?_⟩
      show Q (.bool (bs.all id))
      rw [e2]
      exact q
def sp_check_twos : Sd := fun ds Q => ∃ t, ds = [en2 t] ∧ Ok2 t ∧ Q .none
theorem p_check_twos (ds : List D) (Q : D → Prop) (h : sp_check_twos ds Q) : rd_check_twos sp_are_twos (ends Q) (startS n_check_twos ds) := by
  obtain ⟨t, rfl, ok, q⟩ := h
  exact ⟨rfl, t, rfl, ok, true, rfl, q⟩
def sp_check_two_order : Sd := fun ds Q => ∃ t ns, ds = [en2 t, tuI ns] ∧ Ok2 t ∧ Ord t.length ns ∧ Q .none
theorem p_check_two_order (ds : List D) (Q : D → Prop) (h : sp_check_two_order ds Q) : rd_check_two_order sp_check_twos sp_is_order (ends Q) (startS n_check_two_order ds) := by
  obtain ⟨t, ns, rfl, ok, o, q⟩ := h
  refine ⟨rfl, t, rfl, ok, rfl, ns, t.length, ?_, ?_, o, true, rfl, q⟩
  · show [tuI ns, PyData.int ((t.map pr).length : Int)] = _
    rw [List.length_map]
  · have := ok.2.1
    omega
def sp_check_two_minute : Sd := fun ds Q => ∃ t b, ds = [en2 t, .int b] ∧ Ok2 t ∧ 0 ≤ b ∧ b ≤ 2000 ∧ Q .none
theorem p_check_two_minute (ds : List D) (Q : D → Prop) (h : sp_check_two_minute ds Q) : rd_check_two_minute sp_check_twos sp_is_within (ends Q) (startS n_check_two_minute ds) := by
  obtain ⟨t, b, rfl, ok, h0, h1, q⟩ := h
  refine ⟨rfl, t, rfl, ok, rfl, b, 0, 2000, rfl, _, rfl, ?_⟩
  show if (!(decide (0 ≤ b) && decide (b ≤ 2000))) = true then _ else _
  rw [decide_eq_true h0, decide_eq_true h1]
  exact q
def sp_check_side : Sd := fun ds Q => ∃ x : Str, ds = [.str x] ∧ (x = "first" ∨ x = "last") ∧ Q .none
theorem p_check_side (ds : List D) (Q : D → Prop) (h : sp_check_side ds Q) : rd_check_side (ends Q) (startS n_check_side ds) := by
  obtain ⟨x, rfl, hx, q⟩ := h
  have hs : sizeLine = 16777216 := sizeLine_eq
  refine ⟨true, congrArg PyData.bool (isi_str_str x), ⟨trivial, trivial, ?_, ⟨rfl, rfl, ?_⟩, _, rfl, ?_⟩⟩
  · show 2 ≤ sizeLine
    omega
  · exact Nat.zero_le _
  · show if (!((List.any [PyData.str "first", PyData.str "last"] fun y => PyData.eqv y (.str x)))) = true then _ else _
    rcases hx with rfl | rfl
    · exact ifF (by decide) q
    · exact ifF (by decide) q

/-! ### ends -/
def ends2 (t : Tw) : Int → Int → List Int → Int × Int
  | b, s, [] => (b, s)
  | b, s, i :: r => ends2 t (b + (at2 t i).1) (max (b + (at2 t i).1) s + (at2 t i).2) r
def end2 (t : Tw) (ns : List Int) : Int := (ends2 t 0 0 ns).2
theorem put_look (kvs : List (D × D)) (i : Int) (d : D) : dlook (putD kvs (.int i) d) (.int i) = some d := by
  have self : keyEq (.int i) (.int i) = true := decide_eq_true rfl
  unfold putD dlook
  by_cases h : (kvs.any fun p => keyEq p.1 (.int i)) = true
  · rw [if_pos h]
    induction kvs with
    | nil => cases h
    | cons p r ih =>
      rw [List.map_cons, List.find?_cons]
      by_cases hp : keyEq p.1 (.int i) = true
      · rw [if_pos hp, hp]
        rfl
      · rw [if_neg hp]
        rw [List.any_cons, Bool.or_eq_true] at h
        have hp' : keyEq p.1 (.int i) = false := by cases z : keyEq p.1 (.int i) with
          | true => exact absurd z hp
          | false => rfl
        rw [hp']
        exact ih (h.resolve_left hp)
  · rw [if_neg h, List.find?_append]
    have : kvs.find? (fun p => keyEq p.1 (.int i)) = none := by
      rw [List.find?_eq_none]
      intro p hp hk
      exact h (List.any_eq_true.mpr ⟨p, hp, hk⟩)
    rw [this]
    show Option.map _ (List.find? (fun p => keyEq p.1 (.int i)) [(PyData.int i, d)]) = _
    rw [List.find?_cons, self]
    rfl
theorem put_len (kvs : List (D × D)) (k d : D) : (putD kvs k d).length ≤ kvs.length + 1 := by
  unfold putD
  split
  · rw [List.length_map]
    omega
  · rw [List.length_append]
    exact Nat.le_refl _
theorem max_if (a b : Int) : (if b > a then b else a) = max a b := by
  by_cases h : b > a
  · rw [if_pos h]; omega
  · rw [if_neg h]; omega
theorem for_raw_ends {t : Tw} {M : SEnds} {o : D} : ∀ (ns : List Int) (b s : Int) (kvs : List (D × D)) (x : SV), (∀ i ∈ ns, 0 ≤ i ∧ i < t.length) → kvs.length + ns.length ≤ 1000 →
    (∀ kvs' x', (ns = [] → kvs' = kvs) → (∀ l, ns.getLast? = some l → dlook kvs' (.int l) = some (.tuple [.int (ends2 t b s ns).1, .int (ends2 t b s ns).2])) →
      M.nx [.p (en2 t), .p o, x', .own (.dict kvs'), .p (.int (ends2 t b s ns).1), .p (.int (ends2 t b s ns).2)]) →
    forK (gN 2) lb1_raw_ends M (ns.map .int) [.p (en2 t), .p o, x, .own (.dict kvs), .p (.int b), .p (.int s)]
  | [], b, s, kvs, x, _, _, q => q kvs x (fun _ => rfl) fun l hl => nomatch hl
  | i :: r, b, s, kvs, x, hi, hz, q => by
    have hs : sizeLine = 16777216 := sizeLine_eq
    have h1 := hi i (List.mem_cons_self ..)
    rw [List.length_cons] at hz
    refine ⟨_, rfl, _, at_pr h1, _, rfl, _, rfl, _, at_pr h1, _, rfl, ?_⟩
    refine ⟨kvs, rfl, trivial, trivial, by show 2 ≤ sizeLine; omega, trivial, trivial, by omega, ?_⟩
    have e := max_if (b + (at2 t i).1) s
    have pl := put_len kvs (.int i) (.tuple [.int (b + (at2 t i).1), .int (max (b + (at2 t i).1) s + (at2 t i).2)])
    show forK (gN 2) lb1_raw_ends M (r.map .int) [.p (en2 t), .p o, .p (.int i), .own (.dict (putD kvs (.int i) (.tuple [.int (b + (at2 t i).1), .int ((if s > b + (at2 t i).1 then s else b + (at2 t i).1) + (at2 t i).2)]))), .p (.int (b + (at2 t i).1)), .p (.int ((if s > b + (at2 t i).1 then s else b + (at2 t i).1) + (at2 t i).2))]
    rw [e]
    refine for_raw_ends r _ _ _ _ (fun j hj => hi j (List.mem_cons_of_mem _ hj)) (by omega) fun kvs' x' h1 h2 => q kvs' x' (fun z => nomatch z) fun l hl => ?_
    cases r with
    | nil =>
      cases hl
      rw [h1 rfl]
      exact put_look _ _ _
    | cons j r => exact h2 l (by rw [List.getLast?_cons_cons] at hl; exact hl)
/-- .. of the dict that is handed back only the last dish is asked -/
def sp_raw_ends : Sd := fun ds Q => ∃ t ns, ds = [en2 t, tuI ns] ∧ ns.length ≤ 1000 ∧ (∀ i ∈ ns, 0 ≤ i ∧ i < t.length) ∧ ∀ kvs, (∀ l, ns.getLast? = some l → dlook kvs (.int l) = some (.tuple [.int (ends2 t 0 0 ns).1, .int (end2 t ns)])) → Q (.dict kvs)
theorem p_raw_ends (ds : List D) (Q : D → Prop) (h : sp_raw_ends ds Q) : rd_raw_ends (ends Q) (startS n_raw_ends ds) := by
  obtain ⟨t, ns, rfl, hz, hi, q⟩ := h
  refine ⟨trivial, trivial, trivial, rfl, ns.map .int, rfl, ?_⟩
  exact for_raw_ends ns 0 0 [] .any hi (by simpa using hz) fun kvs' x' _ h2 => q kvs' h2
def sp_raw_end : Sd := fun ds Q => ∃ t ns, ds = [en2 t, tuI ns] ∧ ns ≠ [] ∧ ns.length ≤ 1000 ∧ (∀ i ∈ ns, 0 ≤ i ∧ i < t.length) ∧ Q (.int (end2 t ns))
theorem p_raw_end (ds : List D) (Q : D → Prop) (h : sp_raw_end ds Q) : rd_raw_end sp_raw_ends (ends Q) (startS n_raw_end ds) := by
  obtain ⟨t, ns, rfl, hne, hz, hi, q⟩ := h
  obtain ⟨l, hl⟩ : ∃ l, ns.getLast? = some l := by
    cases e : ns.getLast? with
    | none => exact absurd (List.getLast?_eq_none_iff.mp e) hne
    | some l => exact ⟨l, rfl⟩
  refine ⟨rfl, t, ns, rfl, hz, hi, fun kvs hk => ⟨PyData.int l, atI_last (x := PyData.int l) (by rw [List.getLast?_map, hl]; rfl), trivial, PyData.tuple [PyData.int (ends2 t 0 0 ns).1, PyData.int (end2 t ns)], hk l hl, PyData.int (end2 t ns), rfl, q⟩⟩
def sp_end_by : Sd := fun ds Q => ∃ t ns, ds = [en2 t, tuI ns] ∧ Ok2 t ∧ Ord t.length ns ∧ Q (.int (end2 t ns))
theorem Ord.ne {t : Tw} {ns : List Int} (ok : Ok2 t) (o : Ord t.length ns) : ns ≠ [] := fun z => by
  have := Ord.len o
  rw [z] at this
  have := ok.1
  simp at *
  omega
theorem p_end_by (ds : List D) (Q : D → Prop) (h : sp_end_by ds Q) : rd_end_by sp_check_two_order sp_raw_end (ends Q) (startS n_end_by ds) := by
  obtain ⟨t, ns, rfl, ok, o, q⟩ := h
  have := Ord.len o
  have := ok.2.1
  exact ⟨rfl, t, ns, rfl, ok, o, rfl, t, ns, rfl, Ord.ne ok o, by omega, Ord.mem o, q⟩

/-! ### without a place, at once -/
def barr (t : Tw) : Int → Int → List Int → Int
  | l, s, [] => s
  | l, s, i :: r => barr t (max (l + (at2 t i).1) s) (max (l + (at2 t i).1) s + (at2 t i).2) r
theorem for_raw_barring {t : Tw} {M : SEnds} {o : D} : ∀ (ns : List Int) (l s : Int) (x : SV), (∀ i ∈ ns, 0 ≤ i ∧ i < t.length) → (∀ x' l', M.nx [.p (en2 t), .p o, x', .p (.int l'), .p (.int (barr t l s ns))]) →
    forK (gN 2) lb1_raw_barring M (ns.map .int) [.p (en2 t), .p o, x, .p (.int l), .p (.int s)]
  | [], l, s, x, _, q => q x l
  | i :: r, l, s, x, hi, q => by
    have h1 := hi i (List.mem_cons_self ..)
    refine ⟨_, at_pr h1, _, rfl, _, at_pr h1, _, rfl, ?_⟩
    show forK (gN 2) lb1_raw_barring M (r.map .int) [.p (en2 t), .p o, .p (.int i), .p (.int (if s > l + (at2 t i).1 then s else l + (at2 t i).1)), .p (.int ((if s > l + (at2 t i).1 then s else l + (at2 t i).1) + (at2 t i).2))]
    rw [max_if]
    exact for_raw_barring r _ _ _ (fun j hj => hi j (List.mem_cons_of_mem _ hj)) q
def sp_raw_barring : Sd := fun ds Q => ∃ t ns, ds = [en2 t, tuI ns] ∧ (∀ i ∈ ns, 0 ≤ i ∧ i < t.length) ∧ Q (.int (barr t 0 0 ns))
theorem p_raw_barring (ds : List D) (Q : D → Prop) (h : sp_raw_barring ds Q) : rd_raw_barring (ends Q) (startS n_raw_barring ds) := by
  obtain ⟨t, ns, rfl, hi, q⟩ := h
  refine ⟨trivial, trivial, rfl, ns.map .int, rfl, ?_⟩
  exact for_raw_barring ns 0 0 .any hi fun x' l' => q
def sp_end_without_place : Sd := fun ds Q => ∃ t ns, ds = [en2 t, tuI ns] ∧ Ok2 t ∧ Ord t.length ns ∧ Q (.int (barr t 0 0 ns))
theorem p_end_without_place (ds : List D) (Q : D → Prop) (h : sp_end_without_place ds Q) : rd_end_without_place sp_check_two_order sp_raw_barring (ends Q) (startS n_end_without_place ds) := by
  obtain ⟨t, ns, rfl, ok, o, q⟩ := h
  exact ⟨rfl, t, ns, rfl, ok, o, rfl, t, ns, rfl, Ord.mem o, q⟩
def once (t : Tw) : Int → Int → List Int → Int
  | b, s, [] => s
  | b, s, i :: r => once t (max b (s - (at2 t i).1) + (at2 t i).1) (max b (s - (at2 t i).1) + (at2 t i).1 + (at2 t i).2) r
theorem for_end_at_once {t : Tw} {M : SEnds} {o : D} : ∀ (ns : List Int) (b s : Int) (x y : SV), (∀ i ∈ ns, 0 ≤ i ∧ i < t.length) → (∀ x' y' b', M.nx [.p (en2 t), .p o, x', .p (.int b'), .p (.int (once t b s ns)), y']) →
    forK (gN 2) lb1_end_at_once M (ns.map .int) [.p (en2 t), .p o, x, .p (.int b), .p (.int s), y]
  | [], b, s, x, y, _, q => q x y b
  | i :: r, b, s, x, y, hi, q => by
    have h1 := hi i (List.mem_cons_self ..)
    refine ⟨_, at_pr h1, _, rfl, _, at_pr h1, _, rfl, _, at_pr h1, _, rfl, ?_⟩
    show forK (gN 2) lb1_end_at_once M (r.map .int) [.p (en2 t), .p o, .p (.int i), .p (.int ((if s - (at2 t i).1 > b then s - (at2 t i).1 else b) + (at2 t i).1)),
      .p (.int ((if s - (at2 t i).1 > b then s - (at2 t i).1 else b) + (at2 t i).1 + (at2 t i).2)), .p (.int (if s - (at2 t i).1 > b then s - (at2 t i).1 else b))]
    rw [max_if]
    exact for_end_at_once r _ _ _ _ (fun j hj => hi j (List.mem_cons_of_mem _ hj)) q
def sp_end_at_once : Sd := fun ds Q => ∃ t ns, ds = [en2 t, tuI ns] ∧ Ok2 t ∧ Ord t.length ns ∧ Q (.int (once t 0 0 ns))
theorem p_end_at_once (ds : List D) (Q : D → Prop) (h : sp_end_at_once ds Q) : rd_end_at_once sp_check_two_order (ends Q) (startS n_end_at_once ds) := by
  obtain ⟨t, ns, rfl, ok, o, q⟩ := h
  refine ⟨rfl, t, ns, rfl, ok, o, trivial, trivial, rfl, ns.map .int, rfl, ?_⟩
  exact for_end_at_once ns 0 0 .any .any (Ord.mem o) fun x' y' b' => q
theorem for_law_at_once {t : Tw} {M : SEnds} {o : D} : ∀ (ns : List Int) (b s : Int) (x y z w : SV), (∀ i ∈ ns, 0 ≤ i ∧ i < t.length) → (∀ x' y' z' w' b', M.nx [.p (en2 t), .p o, x', .p (.int b'), .p (.int (once t b s ns)), y', z', w']) →
    forK (gN 2) lb1_law_at_once M (ns.map .int) [.p (en2 t), .p o, x, .p (.int b), .p (.int s), y, z, w]
  | [], b, s, x, y, z, w, _, q => q x y z w b
  | i :: r, b, s, x, y, z, w, hi, q => by
    have h1 := hi i (List.mem_cons_self ..)
    refine ⟨_, at_pr h1, trivial, _, rfl, rfl, _, _, rfl, _, _, rfl, rfl, trivial, trivial, rfl, ?_⟩
    show forK (gN 2) lb1_law_at_once M (r.map .int) [.p (en2 t), .p o, .p (.int i), .p (.int ((if s - (at2 t i).1 > b then s - (at2 t i).1 else b) + (at2 t i).1)),
      .p (.int ((if s - (at2 t i).1 > b then s - (at2 t i).1 else b) + (at2 t i).1 + (at2 t i).2)), .p (.int (if s - (at2 t i).1 > b then s - (at2 t i).1 else b)), .p (.int (at2 t i).1), .p (.int (at2 t i).2)]
    rw [max_if]
    exact for_law_at_once r _ _ _ _ _ _ (fun j hj => hi j (List.mem_cons_of_mem _ hj)) q
def sp_law_at_once : Sd := fun ds Q => ∃ t ns, ds = [en2 t, tuI ns] ∧ (∀ i ∈ ns, 0 ≤ i ∧ i < t.length) ∧ Q (.int (once t 0 0 ns))
theorem p_law_at_once (ds : List D) (Q : D → Prop) (h : sp_law_at_once ds Q) : rd_law_at_once (ends Q) (startS n_law_at_once ds) := by
  obtain ⟨t, ns, rfl, hi, q⟩ := h
  refine ⟨trivial, trivial, rfl, ns.map .int, rfl, ?_⟩
  exact for_law_at_once ns 0 0 .any .any .any .any hi fun x' y' z' w' b' => q
end Gk01

set_option maxRecDepth 100000
set_option maxHeartbeats 4000000
namespace Gk01
open PySem PySem.Spec PyProof.Rows L2 Z3

/-! ### papers -/
def sel (f : Bool) (p : Int × Int) : Int := if f = true then p.1 else p.2
def minI : List Int → Int
  | [] => 0
  | n :: ns => ns.foldl min n
def enumT (t : Tw) : List (Int × (Int × Int)) := t.mapIdx fun i p => ((i : Int), p)
def restL (t : Tw) (lot : List Int) : List Int := (enumT t).filterMap fun q => if q.1 ∈ lot then none else some (min q.2.1 q.2.2)
def worth (f : Bool) (t : Tw) (lot : List Int) : Int := minI (lot.map fun i => sel f (at2 t i)) + (lot.map fun i => sel (!f) (at2 t i)).sum + (restL t lot).sum
theorem any_int (ns : List Int) (i : Int) : ((ns.map PyData.int).any fun y => PyData.eqv y (.int i)) = decide (i ∈ ns) := by
  induction ns with
  | nil => rfl
  | cons n ns ih =>
    rw [List.map_cons, List.any_cons, ih]
    show ((n == i) || decide (i ∈ ns)) = _
    by_cases h : n = i
    · subst h
      simp
    · have : i ≠ n := fun z => h z.symm
      simp [h, this]
def fRest (lot : List Int) : D → Option D
  | .tuple [.int i, .tuple [.int a, .int b]] => if i ∈ lot then none else some (.int (min a b))
  | _ => none
theorem enum_pr (t : Tw) : enumD (t.map pr) = (enumT t).map fun q => .tuple [.int q.1, pr q.2] := by
  unfold enumD enumT
  apply List.ext_getElem?
  intro i
  rw [List.getElem?_mapIdx, List.getElem?_map, List.getElem?_map, List.getElem?_mapIdx]
  cases t[i]? <;> rfl
theorem rest_eq (t : Tw) (lot : List Int) : (enumD (t.map pr)).filterMap (fRest lot) = (restL t lot).map .int := by
  rw [enum_pr, List.filterMap_map]
  unfold restL
  rw [List.map_filterMap]
  apply fm_congr
  intro q _
  show (if q.1 ∈ lot then none else some (PyData.int (min q.2.1 q.2.2))) = Option.map PyData.int (if q.1 ∈ lot then none else some (min q.2.1 q.2.2))
  by_cases h : q.1 ∈ lot
  · rw [if_pos h, if_pos h]
    rfl
  · rw [if_neg h, if_neg h]
    rfl
theorem min_if (a b : Int) : (if b < a then b else a) = min a b := by
  by_cases h : b < a
  · rw [if_pos h]; omega
  · rw [if_neg h]; omega
theorem okin_ints (i : Int) (ns : List Int) : okIn (.int i) (ns.map .int) := ⟨rfl, plain_ints ns, by rw [depth_ints]; exact Nat.le_trans (Nat.min_le_left _ _) (Nat.zero_le _)⟩
theorem min_pr (p : Int × Int) (Q : Val → Prop) (h : Q (.p (.int (min p.1 p.2)))) : gMin [pr p] Q := by
  refine ⟨ord_ints [p.1, p.2], ?_⟩
  show Q (.p (PySem.W.minD (.int p.1) ([p.2].map .int)))
  rw [PySem.W.minD_ints]
  exact h
theorem min_ints {ns : List Int} (hne : ns ≠ []) (Q : Val → Prop) (h : Q (.p (.int (minI ns)))) : gMin [.list (ns.map .int)] Q := by
  cases ns with
  | nil => exact absurd rfl hne
  | cons n ns =>
    refine ⟨ord_ints (n :: ns), ?_⟩
    show Q (.p (PySem.W.minD (.int n) (ns.map .int)))
    rw [PySem.W.minD_ints]
    exact h
theorem sum_ints' {ns : List Int} (Q : Val → Prop) (h : Q (.p (.int ns.sum))) : gSum [.list (ns.map .int)] Q := ⟨ns, allInts_ints ns, h⟩
theorem fm_some {α β : Type} (f : α → β) (l : List α) : l.filterMap (fun x => some (f x)) = l.map f := by
  rw [List.filterMap_eq_map']
theorem ev_p {ss : SS} {i : Nat} {d : D} {Q : Val → Prop} (h : ss[i]? = some (.p d)) (q : Q (.p d)) : eVar i ss Q := by
  unfold eVar
  rw [h]
  exact q
/-- a test and a step over enumerate -/
theorem step_rest {ss0 : SS} {i j k : Nat} {lot : List Int} {t : Tw} (hk : ∀ a b : D, (((ss0.set i (.p a)).set j (.p b)))[k]? = some (.p (tuI lot))) (hi : ∀ a b : D, (((ss0.set i (.p a)).set j (.p b)))[i]? = some (.p a)) (hj : ∀ a b : D, (((ss0.set i (.p a)).set j (.p b)))[j]? = some (.p b)) :
    ∀ d ∈ enumD (t.map pr), Step (gT 2 (gCn (gN i) (gCn (gN j) gNl))) (tV (eOp2 dNi (eVar i) (eVar k))) (eApp gMin (eCons (eVar j) eNil)) ss0 d (fRest lot d) := by
  intro d hd acc kk hz q
  rw [enum_pr] at hd
  obtain ⟨p, _, rfl⟩ := List.mem_map.mp hd
  refine ⟨_, rfl, rfl, _, _, rfl, _, _, rfl, rfl, ?_⟩
  show eVar i ((ss0.set i (.p (.int p.1))).set j (.p (pr p.2))) fun x => eVar k ((ss0.set i (.p (.int p.1))).set j (.p (pr p.2))) fun y => dNi x.get y.get fun z => ∃ b, z.get = .bool b ∧
    if b = true then eApp gMin (eCons (eVar j) eNil) ((ss0.set i (.p (.int p.1))).set j (.p (pr p.2))) (fun x => x.fz ∧ acc.length < sizeLine ∧ kk (acc ++ [x.get])) else kk acc
  refine ev_p (hi _ _) ?_
  refine ev_p (hk _ _) ?_
  refine ⟨okin_ints _ _, _, rfl, ?_⟩
  show if (!((lot.map PyData.int).any fun y => PyData.eqv y (.int p.1))) = true then _ else _
  rw [any_int]
  show if (!decide (p.1 ∈ lot)) = true then _ else _
  have q : kk (acc ++ (if p.1 ∈ lot then none else some (PyData.int (min p.2.1 p.2.2))).toList) := q
  by_cases h : p.1 ∈ lot
  · rw [if_pos h] at q
    rw [decide_eq_true h]
    rw [show acc ++ (none : Option D).toList = acc from List.append_nil _] at q
    exact q
  · rw [if_neg h] at q
    rw [decide_eq_false h]
    show eVar j ((ss0.set i (.p (.int p.1))).set j (.p (pr p.2))) fun x => gMin [x.get] fun x => x.fz ∧ acc.length < sizeLine ∧ kk (acc ++ [x.get])
    refine ev_p (hj _ _) ?_
    exact min_pr p.2 _ ⟨trivial, hz, q⟩
theorem step_at {ss0 : SS} {i k : Nat} {t : Tw} {f : Bool} {C : E} (hk : ∀ a : D, (ss0.set i (.p a))[k]? = some (.p (en2 t))) (hi : ∀ a : D, (ss0.set i (.p a))[i]? = some (.p a)) (hC : ∀ (a : D) (Q : Val → Prop), Q (.p (.int (if f = true then 0 else 1))) → C (ss0.set i (.p a)) Q) {lot : List Int} (hl : ∀ i ∈ lot, 0 ≤ i ∧ i < t.length) :
    ∀ d ∈ lot.map PyData.int, Step (gN i) tYs (eOp2 dIx (eOp2 dIx (eVar k) (eVar i)) C) ss0 d ((fun d => match d with | .int i => some (.int (sel f (at2 t i))) | _ => none) d) := by
  intro d hd acc kk hz q
  obtain ⟨z, hz', rfl⟩ := List.mem_map.mp hd
  show eVar k (ss0.set i (.p (.int z))) fun x => eVar i (ss0.set i (.p (.int z))) fun y => dIx x.get y.get fun u => C (ss0.set i (.p (.int z))) fun w => dIx u.get w.get fun x => x.fz ∧ acc.length < sizeLine ∧ kk (acc ++ [x.get])
  refine ev_p (hk _) ?_
  refine ev_p (hi _) ?_
  refine ⟨_, at_pr (hl z hz'), hC _ _ ?_⟩
  cases f with
  | true => exact ⟨_, rfl, trivial, hz, q⟩
  | false => exact ⟨_, rfl, trivial, hz, q⟩
theorem lot_map (t : Tw) (f : Bool) (lot : List Int) : (lot.map PyData.int).filterMap (fun d => match d with | .int i => some (.int (sel f (at2 t i))) | _ => none) = (lot.map fun i => sel f (at2 t i)).map PyData.int := by
  rw [List.filterMap_map, List.map_map]
  exact fm_some _ _
def sp_raw_paper_worth : Sd := fun ds Q => ∃ (t : Tw) (x : Str) (lot : List Int), ds = [en2 t, .str x, tuI lot] ∧ (x = "first" ∨ x = "last") ∧ t.length ≤ 1000 ∧ lot ≠ [] ∧ lot.length ≤ 1000 ∧ (∀ i ∈ lot, 0 ≤ i ∧ i < t.length) ∧ Q (.int (worth (decide (x = "first")) t lot))
theorem p_raw_paper_worth (ds : List D) (Q : D → Prop) (h : sp_raw_paper_worth ds Q) : rd_raw_paper_worth (ends Q) (startS n_raw_paper_worth ds) := by
  obtain ⟨t, x, lot, rfl, hx, hz, hne, hzl, hl, q⟩ := h
  have hs : sizeLine = 16777216 := sizeLine_eq
  -- behind the first statement
  have main : ∀ f : Bool, f = decide (x = "first") → ∀ ss : SS, ss = [.p (en2 t), .p (.str x), .p (tuI lot), .p (.int (if f = true then 0 else 1)), .any, .any, .any] →
      (sSeq (sAsg 4 (eApp gSum (eCons (eLc [5, 6] (iEn (eVar 0)) (gT 2 (gCn (gN 5) (gCn (gN 6) gNl))) (tV (eOp2 dNi (eVar 5) (eVar 2))) (eApp gMin (eCons (eVar 6) eNil))) eNil)))
        (sRet (eOp2 dAdd (eOp2 dAdd (eApp gMin (eCons (eLc [5] (iSq (eVar 2)) (gN 5) tYs (eOp2 dIx (eOp2 dIx (eVar 0) (eVar 5)) (eVar 3))) eNil)) (eApp gSum (eCons (eLc [5] (iSq (eVar 2)) (gN 5) tYs (eOp2 dIx (eOp2 dIx (eVar 0) (eVar 5)) (eOp2 dSub (eC (.int 1)) (eVar 3)))) eNil))) (eVar 4)))) (ends Q) ss := by
    intro f hf ss hss
    subst hss
    refine ⟨nh rfl, t.map pr, rfl, lcK_run (fRest lot) (step_rest (lot := lot) (fun _ _ => rfl) (fun _ _ => rfl) (fun _ _ => rfl)) ?_ ?_⟩
    · rw [enum_pr]
      show 0 + ((enumT t).map _).length ≤ _
      rw [List.length_map]
      unfold enumT
      rw [List.length_mapIdx]
      omega
    · rw [List.nil_append, rest_eq]
      refine ⟨_, allInts_ints _, ?_⟩
      refine ⟨nh rfl, lot.map .int, rfl, lcK_run _ (step_at (t := t) (f := f) (lot := lot) (fun _ => rfl) (fun _ => rfl) (fun _ _ q => q) hl) ?_ ?_⟩
      · show 0 + (lot.map PyData.int).length ≤ _
        rw [List.length_map]
        omega
      · rw [List.nil_append, lot_map]
        obtain ⟨n0, ns0, e0⟩ : ∃ n0 ns0, (lot.map fun i => sel f (at2 t i)) = n0 :: ns0 := List.exists_cons_of_ne_nil (by simpa using hne)
        rw [e0]
        refine ⟨ord_ints (n0 :: ns0), ?_⟩
        rw [show PySem.W.minD (PyData.int n0) (List.map PyData.int ns0) = .int (minI (n0 :: ns0)) from PySem.W.minD_ints n0 ns0, ← e0]
        refine ⟨nh rfl, lot.map .int, rfl, lcK_run _ (step_at (t := t) (f := !f) (lot := lot) (fun _ => rfl) (fun _ => rfl) (fun _ _ q => ?_) hl) ?_ ?_⟩
        · cases f with
          | true => exact q
          | false => exact q
        · show 0 + (lot.map PyData.int).length ≤ _
          rw [List.length_map]
          omega
        · rw [List.nil_append, lot_map]
          refine ⟨_, allInts_ints _, ?_⟩
          show Q (.int (worth f t lot))
          rw [hf]
          exact q
  rcases hx with rfl | rfl
  · exact ⟨⟨rfl, rfl, Nat.zero_le _⟩, _, rfl, main true (by decide) _ rfl⟩
  · exact ⟨⟨rfl, rfl, Nat.zero_le _⟩, _, rfl, main false (by decide) _ rfl⟩
def sp_paper_worth : Sd := fun ds Q => ∃ (t : Tw) (x : Str) (lot : List Int), ds = [en2 t, .str x, tuI lot] ∧ (x = "first" ∨ x = "last") ∧ Ok2 t ∧ lot ≠ [] ∧ lot.length ≤ 1000 ∧ (∀ i ∈ lot, 0 ≤ i ∧ i < t.length) ∧ lot.Pairwise (· < ·) ∧ Q (.int (worth (decide (x = "first")) t lot))
theorem p_paper_worth (ds : List D) (Q : D → Prop) (h : sp_paper_worth ds Q) : rd_paper_worth sp_check_twos sp_check_side sp_raw_paper_worth sp_is_lot (ends Q) (startS n_paper_worth ds) := by
  obtain ⟨t, x, lot, rfl, hx, ok, hne, hzl, hl, hr, q⟩ := h
  have hs : sizeLine = 16777216 := sizeLine_eq
  have := ok.2.1
  refine ⟨rfl, t, rfl, ok, rfl, x, rfl, hx, rfl, lot, t.length, ?_, by omega, hl, hr, true, rfl, ?_⟩
  · show [tuI lot, PyData.int ((t.map pr).length : Int)] = _
    rw [List.length_map]
  · refine ⟨⟨rfl, rfl, Nat.zero_le _⟩, PyData.eqv (.int ((lot.map PyData.int).length : Int)) (.int 0), rfl, ?_⟩
    have hlen : 0 < lot.length := List.length_pos_iff.mpr hne
    have e : PyData.eqv (.int ((lot.map PyData.int).length : Int)) (.int 0) = false := by
      rw [List.length_map]
      show (((lot.length : Int)) == (0 : Int)) = false
      rw [beq_eq_false_iff_ne]
      omega
    rw [e]
    exact ⟨rfl, t, x, lot, rfl, hx, by omega, hne, hzl, hl, q⟩
end Gk01

set_option maxRecDepth 100000
set_option maxHeartbeats 4000000
namespace Gk01
open PySem PySem.Spec PyProof.Rows L2 Z3

/-! ### all orders -/
def exts (m : Nat) (row : List Int) : List (List Int) := ((rangeI m).filter fun o => decide (o ∉ row)).map fun o => row ++ [o]
def ordF (m : Nat) : Nat → List (List Int)
  | 0 => [[]]
  | k + 1 => (ordF m k).flatMap (exts m)
theorem rangeI_len (n : Nat) : (rangeI n).length = n := by unfold rangeI; rw [List.length_map, List.length_range]
theorem exts_len (m : Nat) (row : List Int) : (exts m row).length ≤ m := by
  unfold exts
  rw [List.length_map]
  exact Nat.le_trans (List.length_filter_le _ _) (Nat.le_of_eq (rangeI_len m))
theorem flat_len {α β : Type} (f : α → List β) (m : Nat) (h : ∀ a, (f a).length ≤ m) : ∀ l : List α, (l.flatMap f).length ≤ l.length * m
  | [] => by simp
  | a :: l => by
    rw [List.flatMap_cons, List.length_append, List.length_cons, Nat.succ_mul]
    have := h a
    have := flat_len f m h l
    omega
theorem ordF_len (m : Nat) : ∀ k, (ordF m k).length ≤ m ^ k
  | 0 => Nat.le_refl _
  | k + 1 => by
    rw [Nat.pow_succ]
    exact Nat.le_trans (flat_len (exts m) m (exts_len m) (ordF m k)) (Nat.mul_le_mul_right m (ordF_len m k))
theorem ordF_row (m : Nat) : ∀ k, ∀ r ∈ ordF m k, r.length = k
  | 0, r, h => by
    rcases List.mem_cons.mp h with rfl | h
    · rfl
    · cases h
  | k + 1, r, h => by
    obtain ⟨q, hq, hr⟩ := List.mem_flatMap.mp h
    obtain ⟨o, _, rfl⟩ := List.mem_map.mp hr
    rw [List.length_append, ordF_row m k q hq]
    rfl
def fExt (row : List Int) : D → Option D
  | .int o => if o ∈ row then none else some (tuI (row ++ [o]))
  | _ => none
theorem exts_eq (m : Nat) (row : List Int) : (rangeD 0 m).filterMap (fExt row) = (exts m row).map tuI := by
  rw [rangeD_eq, List.filterMap_map]
  unfold exts
  rw [List.map_map]
  induction rangeI m with
  | nil => rfl
  | cons o r ih =>
    rw [List.filterMap_cons, List.filter_cons]
    by_cases h : o ∈ row
    · rw [show (fExt row ∘ PyData.int) o = none from if_pos h, if_neg (by simpa using h)]
      exact ih
    · rw [show (fExt row ∘ PyData.int) o = some (tuI (row ++ [o])) from if_neg h, if_pos (by simpa using h), List.map_cons, ← ih]
      rfl
theorem tuI_app (row : List Int) (o : Int) : PyData.tuple (row.map .int ++ [.int o]) = tuI (row ++ [o]) := by
  unfold tuI
  rw [List.map_append]
  rfl
theorem for_ord1 {m : Nat} {X : D} {a : SV} {M : SEnds} (hm : m ≤ 1000) : ∀ (rows : List (List Int)) (L : List D) (b : SV), (∀ r ∈ rows, r.length ≤ 1000) → L.length + (rows.flatMap (exts m)).length ≤ sizeLine →
    (∀ b', M.nx [.p (.int m), .p X, a, .own (.list (L ++ (rows.flatMap (exts m)).map tuI)), b', .any]) →
    forK (gN 4) lb1_all_orders M (rows.map tuI) [.p (.int m), .p X, a, .own (.list L), b, .any]
  | [], L, b, _, _, q => by
    have := q b
    rw [List.flatMap_nil, List.map_nil, List.append_nil] at this
    exact this
  | row :: rows, L, b, hr, hz, q => by
    have hs : sizeLine = 16777216 := sizeLine_eq
    have hrow := hr row (List.mem_cons_self ..)
    rw [List.flatMap_cons, List.length_append] at hz
    refine ⟨L, rfl, nh rfl, m, rfl, by omega, by omega, lcK_run (fExt row) (fun d hd acc k hz' q' => ?_) ?_ ?_⟩
    · rw [Int.toNat_natCast, rangeD_eq] at hd
      obtain ⟨o, _, rfl⟩ := List.mem_map.mp hd
      refine ⟨okin_ints o row, _, rfl, ?_⟩
      show if (!((row.map PyData.int).any fun y => PyData.eqv y (.int o))) = true then _ else _
      rw [any_int]
      have q' : k (acc ++ (if o ∈ row then none else some (tuI (row ++ [o]))).toList) := q'
      by_cases h : o ∈ row
      · rw [if_pos h] at q'
        rw [decide_eq_true h]
        rw [show acc ++ (none : Option D).toList = acc from List.append_nil _] at q'
        exact q'
      · rw [if_neg h] at q'
        rw [decide_eq_false h]
        refine ⟨trivial, by show 1 ≤ sizeLine; omega, ?_, trivial, hz', ?_⟩
        · show (row.map PyData.int).length + 1 ≤ sizeLine
          rw [List.length_map]
          omega
        · show k (acc ++ [PyData.tuple (row.map .int ++ [.int o])])
          rw [tuI_app]
          exact q'
    · rw [Int.toNat_natCast, rangeD_len]
      show 0 + m ≤ sizeLine
      omega
    · rw [Int.toNat_natCast, exts_eq, List.nil_append]
      refine ⟨_, rfl, ?_, ?_⟩
      · rw [List.length_map]
        omega
      · refine for_ord1 hm rows _ _ (fun r h => hr r (List.mem_cons_of_mem _ h)) ?_ fun b' => ?_
        · rw [List.length_append, List.length_map]
          omega
        · have := q b'
          rw [List.flatMap_cons, List.map_append, ← List.append_assoc] at this
          exact this
theorem for_ord2 {m : Nat} {M : SEnds} (hm : m ≤ 7) : ∀ (ds : List D) (k : Nat) (a b : SV), k + ds.length ≤ m →
    (∀ a' b', M.nx [.p (.int m), .own (.list ((ordF m (k + ds.length)).map tuI)), a', .any, b', .any]) →
    forK (gN 2) lb2_all_orders M ds [.p (.int m), .own (.list ((ordF m k).map tuI)), a, .any, b, .any]
  | [], k, a, b, _, q => q a b
  | d :: ds, k, a, b, hk, q => by
    have hs : sizeLine = 16777216 := sizeLine_eq
    rw [List.length_cons] at hk
    refine ⟨by show 0 ≤ sizeLine; omega, (ordF m k).map tuI, rfl, ?_⟩
    refine for_ord1 (by omega) (ordF m k) [] _ (fun r h => by rw [ordF_row m k r h]; omega) ?_ fun b' => ?_
    · have h1 := ordF_len m (k + 1)
      have h2 : m ^ (k + 1) ≤ 7 ^ 7 := Nat.le_trans (Nat.pow_le_pow_left hm _) (Nat.pow_le_pow_right (by omega) (by omega))
      show 0 + (ordF m (k + 1)).length ≤ sizeLine
      rw [hs]
      have h3 : (7 : Nat) ^ 7 = 823543 := by decide
      omega
    · refine for_ord2 hm ds (k + 1) _ _ (by omega) fun a' b'' => ?_
      have := q a' b''
      rw [List.length_cons] at this
      rw [show k + 1 + ds.length = k + (ds.length + 1) by omega]
      exact this
def ords (m : Nat) : List (List Int) := ordF m m
def sp_all_orders : Sd := fun ds Q => ∃ m : Nat, ds = [.int m] ∧ m ≤ 7 ∧ Q (.list ((ords m).map tuI))
theorem p_all_orders (ds : List D) (Q : D → Prop) (h : sp_all_orders ds Q) : rd_all_orders (ends Q) (startS n_all_orders ds) := by
  obtain ⟨m, rfl, hm, q⟩ := h
  have hs : sizeLine = 16777216 := sizeLine_eq
  refine ⟨by show 0 ≤ sizeLine; omega, trivial, by show 1 ≤ sizeLine; omega, m, rfl, by omega, by omega, ?_⟩
  rw [Int.toNat_natCast]
  refine for_ord2 hm (rangeD 0 m) 0 .any .any (by rw [rangeD_len]; omega) fun a' b' => ?_
  rw [rangeD_len, Nat.zero_add]
  exact q
end Gk01

set_option maxRecDepth 100000
set_option maxHeartbeats 4000000
namespace Gk01
open PySem PySem.Spec PyProof.Rows L2 Z3

/-! ### what may be sorted -/
theorem alike_ints : ∀ xs ys : List Int, PySem.W.alikeAll (xs.map .int) (ys.map .int) = true
  | [], _ => by simp [PySem.W.alikeAll]
  | _ :: _, [] => by simp [PySem.W.alikeAll]
  | x :: xs, y :: ys => by
    rw [List.map_cons, List.map_cons, PySem.W.alikeAll, alike_ints xs ys]
    simp [PySem.W.alike]
theorem plain_tus : ∀ L : List (List Int), PyData.plainAll (L.map tuI) = true
  | [] => rfl
  | l :: L => by
    rw [List.map_cons, PyData.plainAll, plain_tus L]
    show ((PyData.plainAll (l.map .int)) && true) = true
    rw [plain_ints]
    rfl
theorem depth_tus : ∀ L : List (List Int), PyData.depthAll (L.map tuI) ≤ 1
  | [] => Nat.zero_le _
  | l :: L => by
    rw [List.map_cons, PyData.depthAll]
    have := depth_tus L
    have h : (tuI l).depth = 1 := by
      show (PyData.tuple (l.map .int)).depth = 1
      rw [PyData.depth, depth_ints]
    rw [h]
    exact Nat.max_le.mpr ⟨Nat.le_refl _, this⟩
theorem ord_tus (L : List (List Int)) : OrdD (L.map tuI) := by
  refine ⟨fun d hd e he => ?_, fun d hd => ?_, plain_tus L, Nat.le_trans (depth_tus L) (by omega)⟩
  · obtain ⟨a, _, rfl⟩ := List.mem_map.mp hd
    obtain ⟨b, _, rfl⟩ := List.mem_map.mp he
    show PySem.W.alike (.tuple (a.map .int)) (.tuple (b.map .int)) = true
    rw [PySem.W.alike]
    exact alike_ints a b
  · obtain ⟨a, _, rfl⟩ := List.mem_map.mp hd
    exact PyData.noConfusion
theorem sortable_tus {L : List (List Int)} (h : ∀ l ∈ L, l ≠ []) : PySem.W.Sortable (L.map tuI) := .inl fun d hd => by
  obtain ⟨l, hl, rfl⟩ := List.mem_map.mp hd
  obtain ⟨x, r, rfl⟩ := List.exists_cons_of_ne_nil (h l hl)
  exact ⟨.int x, r.map .int, rfl⟩
/-- a list of rows, led through a sort -/
def unI : D → List Int
  | .tuple ds => ds.map fun d => match d with
    | .int i => i
    | _ => 0
  | _ => []
theorem un_tu (l : List Int) : unI (tuI l) = l := by
  show (l.map PyData.int).map _ = l
  rw [List.map_map]
  exact List.map_id l
theorem perm_tus {out : List D} {F : List (List Int)} (h : out.Perm (F.map tuI)) : ∃ L : List (List Int), out = L.map tuI ∧ L.Perm F := by
  refine ⟨out.map unI, ?_, ?_⟩
  · rw [List.map_map]
    have : ∀ d ∈ out, (tuI ∘ unI) d = d := fun d hd => by
      obtain ⟨l, _, rfl⟩ := List.mem_map.mp ((List.Perm.mem_iff h).mp hd)
      show tuI (unI (tuI l)) = tuI l
      rw [un_tu]
    rw [List.map_congr_left this, List.map_id']
  · have := h.map unI
    rw [List.map_map] at this
    have e : F.map (unI ∘ tuI) = F := by
      have : ∀ l ∈ F, (unI ∘ tuI) l = l := fun l _ => un_tu l
      rw [List.map_congr_left this, List.map_id']
    rw [e] at this
    exact this

/-! ### all lots -/
def lotsF : List (List Int) → List Int → List (List Int)
  | F, [] => F
  | F, o :: r => lotsF (F ++ F.map fun l => l ++ [o]) r
theorem lotsF_len : ∀ (ns : List Int) (F : List (List Int)), (lotsF F ns).length = F.length * 2 ^ ns.length
  | [], F => by simp [lotsF]
  | o :: r, F => by
    show (lotsF (F ++ F.map fun l => l ++ [o]) r).length = _
    rw [lotsF_len r, List.length_append, List.length_map, List.length_cons, Nat.pow_succ]
    have : F.length + F.length = F.length * 2 := by omega
    rw [this, Nat.mul_assoc, Nat.mul_comm 2]
theorem lotsF_row : ∀ (ns : List Int) (F : List (List Int)) (b : Nat), (∀ l ∈ F, l.length ≤ b) → ∀ l ∈ lotsF F ns, l.length ≤ b + ns.length
  | [], F, b, h, l, hl => h l hl
  | o :: r, F, b, h, l, hl => by
    have := lotsF_row r (F ++ F.map fun l => l ++ [o]) (b + 1) (fun l hl => by
      rcases List.mem_append.mp hl with hl | hl
      · have := h l hl
        omega
      · obtain ⟨q, hq, rfl⟩ := List.mem_map.mp hl
        rw [List.length_append]
        have := h q hq
        exact Nat.add_le_add_right this 1) l hl
    rw [List.length_cons]
    omega
def fLot (o : Int) : D → Option D
  | .tuple xs => some (.tuple (xs ++ [.int o]))
  | _ => none
theorem fLot_eq (o : Int) (F : List (List Int)) : (F.map tuI).filterMap (fLot o) = (F.map fun l => l ++ [o]).map tuI := by
  rw [List.filterMap_map, List.map_map]
  induction F with
  | nil => rfl
  | cons l F ih =>
    rw [List.filterMap_cons, show (fLot o ∘ tuI) l = some (tuI (l ++ [o])) from congrArg some (tuI_app l o), List.map_cons, ← ih]
    rfl
theorem for_lots {X : D} {M : SEnds} : ∀ (ns : List Int) (F : List (List Int)) (a : SV), F.length * 2 ^ ns.length ≤ 1000000 → (∀ l ∈ F, l.length + ns.length ≤ 1000) →
    (∀ a', M.nx [.r X, .own (.list ((lotsF F ns).map tuI)), a', .any, .any]) → forK (gN 2) lb1_all_lots M (ns.map .int) [.r X, .own (.list (F.map tuI)), a, .any, .any]
  | [], F, a, _, _, q => q a
  | o :: r, F, a, hz, hr, q => by
    have hs : sizeLine = 16777216 := sizeLine_eq
    have hF : F.length * 2 ≤ 1000000 := Nat.le_trans (Nat.mul_le_mul_left _ (by
      rw [List.length_cons, Nat.pow_succ]
      have : 0 < 2 ^ r.length := Nat.pow_pos (by omega)
      omega)) hz
    refine ⟨nh rfl, F.map tuI, rfl, lcK_run (fLot o) (fun d hd acc k hz' q' => ?_) ?_ ?_⟩
    · obtain ⟨l, hl, rfl⟩ := List.mem_map.mp hd
      refine ⟨trivial, by show 1 ≤ sizeLine; omega, ?_, trivial, hz', q'⟩
      show (l.map PyData.int).length + 1 ≤ sizeLine
      have := hr l hl
      rw [List.length_map]
      omega
    · show 0 + (F.map tuI).length ≤ sizeLine
      rw [List.length_map]
      omega
    · rw [List.nil_append, fLot_eq]
      refine ⟨by rw [List.length_map, List.length_map, List.length_map]; omega, ?_⟩
      rw [← List.map_append]
      refine for_lots r _ _ ?_ (fun l hl => ?_) q
      · rw [List.length_append, List.length_map]
        rw [List.length_cons, Nat.pow_succ] at hz
        have : F.length + F.length = F.length * 2 := by omega
        rw [this, Nat.mul_assoc, Nat.mul_comm 2]
        exact hz
      · rcases List.mem_append.mp hl with hl | hl
        · have := hr l hl
          rw [List.length_cons] at this
          omega
        · obtain ⟨p, hp, rfl⟩ := List.mem_map.mp hl
          have := hr p hp
          rw [List.length_cons] at this
          rw [List.length_append]
          show p.length + 1 + r.length ≤ 1000
          omega
/-- (len(lot), lot) -/
def szI (l : List Int) : D := .tuple [.int l.length, tuI l]
def fSz : D → Option D
  | .tuple xs => some (.tuple [.int xs.length, .tuple xs])
  | _ => none
theorem fSz_eq (F : List (List Int)) : (F.map tuI).filterMap fSz = F.map szI := by
  rw [List.filterMap_map]
  induction F with
  | nil => rfl
  | cons l F ih =>
    rw [List.filterMap_cons, show (fSz ∘ tuI) l = some (szI l) by
      show some (PyData.tuple [.int ((l.map PyData.int).length : Int), tuI l]) = _
      rw [List.length_map]
      rfl, List.map_cons, ← ih]
def fUn : D → Option D
  | .tuple [_, d] => some d
  | _ => none
theorem fUn_eq (F : List (List Int)) : (F.map szI).filterMap fUn = F.map tuI := by
  rw [List.filterMap_map]
  induction F with
  | nil => rfl
  | cons l F ih =>
    rw [List.filterMap_cons, show (fUn ∘ szI) l = some (tuI l) from rfl, List.map_cons, ← ih]
theorem ord_sz (F : List (List Int)) : OrdD (F.map szI) := by
  refine ⟨fun d hd e he => ?_, fun d hd => ?_, ?_, ?_⟩
  · obtain ⟨a, _, rfl⟩ := List.mem_map.mp hd
    obtain ⟨b, _, rfl⟩ := List.mem_map.mp he
    show PySem.W.alike (.tuple [.int _, .tuple (a.map .int)]) (.tuple [.int _, .tuple (b.map .int)]) = true
    simp [PySem.W.alike, PySem.W.alikeAll, alike_ints]
  · obtain ⟨a, _, rfl⟩ := List.mem_map.mp hd
    exact PyData.noConfusion
  · induction F with
    | nil => rfl
    | cons l F ih =>
      rw [List.map_cons, PyData.plainAll, ih]
      show ((true && ((PyData.plainAll (l.map .int)) && true)) && true) = true
      rw [plain_ints]
      rfl
  · refine Nat.le_trans (m := 2) ?_ (by omega)
    induction F with
    | nil => exact Nat.zero_le _
    | cons l F ih =>
      rw [List.map_cons, PyData.depthAll]
      refine Nat.max_le.mpr ⟨?_, ih⟩
      show (PyData.tuple [.int _, .tuple (l.map .int)]).depth ≤ 2
      rw [PyData.depth, PyData.depthAll, PyData.depthAll, PyData.depth, PyData.depth, PyData.depthAll, depth_ints]
      decide
theorem sortD_perm (ds : List D) : (sortD ds).Perm ds := List.mergeSort_perm ..
def sp_all_lots : Sd := fun ds Q => ∃ ns : List Int, ds = [.list (ns.map .int)] ∧ ns.length ≤ 10 ∧ ∀ L : List (List Int), L.Perm (lotsF [[]] ns) → Q (.list (L.map tuI))
theorem p_all_lots (ds : List D) (Q : D → Prop) (h : sp_all_lots ds Q) : rd_all_lots (ends Q) (startS n_all_lots ds) := by
  obtain ⟨ns, rfl, hn, q⟩ := h
  have hs : sizeLine = 16777216 := sizeLine_eq
  have hp : 2 ^ ns.length ≤ 2 ^ 10 := Nat.pow_le_pow_right (by omega) hn
  have h10 : (2 : Nat) ^ 10 = 1024 := by decide
  have hL := lotsF_len ns [[]]
  have hL1 : (lotsF [[]] ns).length ≤ 1024 := by
    rw [hL, List.length_cons, List.length_nil]
    omega
  refine ⟨by show 0 ≤ sizeLine; omega, trivial, by show 1 ≤ sizeLine; omega, ns.map .int, rfl, ?_⟩
  refine for_lots ns [[]] .any (by rw [List.length_cons, List.length_nil]; omega) (fun l hl => ?_) fun a' => ?_
  · rcases List.mem_cons.mp hl with rfl | hl
    · show 0 + ns.length ≤ 1000
      omega
    · cases hl
  · refine ⟨nh rfl, nh rfl, (lotsF [[]] ns).map tuI, rfl, lcK_run fSz (fun d hd acc k hz' q' => ?_) ?_ ?_⟩
    · obtain ⟨l, hl, rfl⟩ := List.mem_map.mp hd
      exact ⟨trivial, trivial, by show 2 ≤ sizeLine; omega, trivial, hz', q'⟩
    · show 0 + ((lotsF [[]] ns).map tuI).length ≤ sizeLine
      rw [List.length_map]
      omega
    · rw [List.nil_append, fSz_eq]
      have pm := sortD_perm ((lotsF [[]] ns).map szI)
      refine ⟨ord_sz _, ?_, _, rfl, lcK_run fUn (fun d hd acc k hz' q' => ?_) ?_ ?_⟩
      · exact .inl fun d hd => by
          obtain ⟨l, _, rfl⟩ := List.mem_map.mp hd
          exact ⟨_, _, rfl⟩
      · obtain ⟨l, hl, rfl⟩ := List.mem_map.mp ((List.Perm.mem_iff pm).mp hd)
        exact ⟨_, rfl, rfl, _, _, rfl, _, _, rfl, rfl, trivial, hz', q'⟩
      · show 0 + (sortD ((lotsF [[]] ns).map szI)).length ≤ sizeLine
        rw [List.Perm.length_eq pm, List.length_map]
        omega
      · have p2 := pm.filterMap fUn
        rw [fUn_eq] at p2
        obtain ⟨L, e, pL⟩ := perm_tus p2
        rw [List.nil_append, e]
        exact q L pL
end Gk01

set_option maxRecDepth 100000
set_option maxHeartbeats 4000000
namespace Gk01
open PySem PySem.Spec PyProof.Rows L2 Z3

/-! ### papers above -/
def fNe : D → Option D
  | .tuple (x :: xs) => some (.tuple (x :: xs))
  | _ => none
theorem fNe_eq (F : List (List Int)) : (F.map tuI).filterMap fNe = (F.filter fun l => decide (l ≠ [])).map tuI := by
  rw [List.filterMap_map]
  induction F with
  | nil => rfl
  | cons l F ih =>
    rw [List.filterMap_cons, List.filter_cons, ih]
    cases l with
    | nil => rfl
    | cons x l => rfl
def fPap (t : Tw) (x : Str) (b : Int) (d : D) : Option D := if b < worth (decide (x = "first")) t (unI d) then some (.tuple [.str x, d]) else none
theorem lotsF_sub : ∀ (ns : List Int) (F : List (List Int)) (l : List Int), l ∈ F → l ∈ lotsF F ns
  | [], F, l, h => h
  | o :: r, F, l, h => lotsF_sub r _ l (List.mem_append_left _ h)
theorem lotsF_mem : ∀ (ns : List Int) (F : List (List Int)) (q l : List Int), q ∈ F → l.Sublist ns → q ++ l ∈ lotsF F ns
  | [], F, q, l, h, s => by
    rw [List.sublist_nil.mp s, List.append_nil]
    exact h
  | o :: r, F, q, l, h, s => by
    cases s with
    | cons _ s => exact lotsF_mem r _ q l (List.mem_append_left _ h) s
    | @cons_cons l2 _ _ s =>
      have := lotsF_mem r (F ++ F.map fun l => l ++ [o]) (q ++ [o]) l2 (List.mem_append_right _ (List.mem_map.mpr ⟨q, h, rfl⟩)) s
      rw [List.append_assoc] at this
      exact this
theorem lotsF_in : ∀ (ns : List Int) (F : List (List Int)) (P : Int → Prop), (∀ l ∈ F, ∀ i ∈ l, P i) → (∀ i ∈ ns, P i) → ∀ l ∈ lotsF F ns, ∀ i ∈ l, P i
  | [], F, P, h, _, l, hl => h l hl
  | o :: r, F, P, h, hn, l, hl => lotsF_in r _ P (fun q hq i hi => by
      rcases List.mem_append.mp hq with hq | hq
      · exact h q hq i hi
      · obtain ⟨p, hp, rfl⟩ := List.mem_map.mp hq
        rcases List.mem_append.mp hi with hi | hi
        · exact h p hp i hi
        · rw [List.mem_singleton.mp hi]
          exact hn o (List.mem_cons_self ..)) (fun i hi => hn i (List.mem_cons_of_mem _ hi)) l hl
/-- a side's papers put behind -/
theorem ext_papers {t : Tw} {b : Int} {x : Str} {Ls : List (List Int)} {M : SEnds} {found : List D} (hx : x = "first" ∨ x = "last") (ht : t.length ≤ 1000) (hL : ∀ l ∈ Ls, l ≠ [] ∧ l.length ≤ 1000 ∧ ∀ i ∈ l, 0 ≤ i ∧ i < t.length) (hz : found.length + Ls.length ≤ 1000000)
    (q : M.nx [.p (en2 t), .p (.int b), .own (.list (Ls.map tuI)), .own (.list (found ++ (Ls.map tuI).filterMap (fPap t x b))), .p (.str x), .any]) :
    lb1_papers_above sp_raw_paper_worth M [.p (en2 t), .p (.int b), .own (.list (Ls.map tuI)), .own (.list found), .p (.str x), .any] := by
  have hs : sizeLine = 16777216 := sizeLine_eq
  have hfm : ((Ls.map tuI).filterMap (fPap t x b)).length ≤ Ls.length := by
    have := List.length_filterMap_le (fPap t x b) (Ls.map tuI)
    rw [List.length_map] at this
    exact this
  refine ⟨found, rfl, nh rfl, Ls.map tuI, rfl, lcK_run (fPap t x b) (fun d hd acc k hz' q' => ?_) ?_ ?_⟩
  · obtain ⟨l, hl, rfl⟩ := List.mem_map.mp hd
    have h := hL l hl
    refine ⟨rfl, t, x, l, rfl, hx, ht, h.1, h.2.1, h.2.2, _, rfl, ?_⟩
    show if decide (b < worth (decide (x = "first")) t l) = true then _ else _
    have q' : k (acc ++ (if b < worth (decide (x = "first")) t (unI (tuI l)) then some (PyData.tuple [.str x, tuI l]) else none).toList) := q'
    rw [un_tu] at q'
    by_cases hb : b < worth (decide (x = "first")) t l
    · rw [if_pos hb] at q'
      rw [decide_eq_true hb]
      exact ⟨trivial, trivial, by show 2 ≤ sizeLine; omega, trivial, hz', q'⟩
    · rw [if_neg hb] at q'
      rw [decide_eq_false hb]
      rw [show acc ++ (none : Option D).toList = acc from List.append_nil _] at q'
      exact q'
  · show 0 + (Ls.map tuI).length ≤ sizeLine
    rw [List.length_map]
    omega
  · rw [List.nil_append]
    exact ⟨_, rfl, by omega, q⟩
def sp_papers_above : Sd := fun ds Q => ∃ (t : Tw) (b : Int), ds = [en2 t, .int b] ∧ Ok2 t ∧ (∃ (f : Bool) (lot : List Int), lot ≠ [] ∧ lot.Sublist (rangeI t.length) ∧ b < worth f t lot) ∧ ∀ x y xs, Q (.list (.tuple [x, y] :: xs))
theorem p_papers_above (ds : List D) (Q : D → Prop) (h : sp_papers_above ds Q) : rd_papers_above sp_all_lots sp_raw_paper_worth (ends Q) (startS n_papers_above ds) := by
  obtain ⟨t, b, rfl, ok, ⟨f, lot, hne, hsub, hw⟩, q⟩ := h
  have hs : sizeLine = 16777216 := sizeLine_eq
  have ht := ok.2.1
  refine ⟨nh rfl, ((t.map pr).length : Int), rfl, by omega, by rw [List.length_map]; omega, rfl, rangeI t.length, ?_, by rw [rangeI_len]; omega, fun L pL => ?_⟩
  · show [PyData.list (rangeD 0 (((t.map pr).length : Int)).toNat)] = _
    rw [rangeD_eq, Int.toNat_natCast, List.length_map]
  have lenL : L.length ≤ 1024 := by
    rw [List.Perm.length_eq pL, lotsF_len, rangeI_len]
    have : (2 : Nat) ^ t.length ≤ 2 ^ 7 := Nat.pow_le_pow_right (by omega) ht
    have : (2 : Nat) ^ 7 = 128 := by decide
    rw [List.length_cons, List.length_nil]
    omega
  refine ⟨L.map tuI, rfl, lcK_run fNe (fun d hd acc k hz' q' => ?_) ?_ ?_⟩
  · obtain ⟨l, hl, rfl⟩ := List.mem_map.mp hd
    refine ⟨_, rfl, ?_⟩
    show if decide ((0 : Int) < ((l.map PyData.int).length : Int)) = true then _ else _
    cases l with
    | nil =>
      have q' : k (acc ++ (none : Option D).toList) := q'
      rw [show acc ++ (none : Option D).toList = acc from List.append_nil _] at q'
      exact ifF (decide_eq_false (by simp)) q'
    | cons x l =>
      exact ifT (decide_eq_true (by rw [List.map_cons, List.length_cons]; omega)) ⟨trivial, hz', q'⟩
  · show 0 + (L.map tuI).length ≤ sizeLine
    rw [List.length_map]
    omega
  · rw [List.nil_append, fNe_eq]
    obtain ⟨Ls, eL, pLs⟩ := perm_tus (sortD_perm ((L.filter fun l => decide (l ≠ [])).map tuI))
    have inL : ∀ l ∈ Ls, l ∈ lotsF [[]] (rangeI t.length) ∧ l ≠ [] := fun l hl => by
      have h1 := (List.Perm.mem_iff pLs).mp hl
      have h2 := List.mem_filter.mp h1
      exact ⟨(List.Perm.mem_iff pL).mp h2.1, of_decide_eq_true h2.2⟩
    have hL : ∀ l ∈ Ls, l ≠ [] ∧ l.length ≤ 1000 ∧ ∀ i ∈ l, 0 ≤ i ∧ i < t.length := fun l hl => by
      obtain ⟨h1, h2⟩ := inL l hl
      refine ⟨h2, ?_, ?_⟩
      · have := lotsF_row (rangeI t.length) [[]] 0 (fun q hq => by
          rcases List.mem_cons.mp hq with rfl | hq
          · exact Nat.le_refl _
          · cases hq) l h1
        rw [rangeI_len] at this
        omega
      · exact lotsF_in (rangeI t.length) [[]] (fun i => 0 ≤ i ∧ i < t.length) (fun q hq i hi => by
          rcases List.mem_cons.mp hq with rfl | hq
          · cases hi
          · cases hq) (fun i hi => mem_rangeI.mp hi) l h1
    have lenLs : Ls.length ≤ 1024 := by
      rw [List.Perm.length_eq pLs]
      exact Nat.le_trans (List.length_filter_le _ _) lenL
    have hlot : lot ∈ Ls := by
      refine (List.Perm.mem_iff pLs).mpr (List.mem_filter.mpr ⟨(List.Perm.mem_iff pL).mpr ?_, decide_eq_true hne⟩)
      exact lotsF_mem (rangeI t.length) [[]] [] lot (List.mem_cons_self ..) hsub
    refine ⟨ord_tus _, sortable_tus fun l hl => of_decide_eq_true (List.mem_filter.mp hl).2, ?_⟩
    rw [eL]
    refine ⟨by show 0 ≤ sizeLine; omega, trivial, trivial, by show 2 ≤ sizeLine; omega, [.str "first", .str "last"], rfl, ?_⟩
    refine ext_papers (.inl rfl) (by omega) hL (by rw [List.length_nil]; omega) ?_
    have lenF : ((Ls.map tuI).filterMap (fPap t "first" b)).length ≤ Ls.length := by
      have := List.length_filterMap_le (fPap t "first" b) (Ls.map tuI)
      rw [List.length_map] at this
      exact this
    refine ext_papers (.inr rfl) (by omega) hL (by rw [List.nil_append]; omega) ?_
    rw [List.nil_append]
    show Q (.list ((Ls.map tuI).filterMap (fPap t "first" b) ++ (Ls.map tuI).filterMap (fPap t "last" b)))
    -- one of them holds the lot
    have each : ∀ d ∈ (Ls.map tuI).filterMap (fPap t "first" b) ++ (Ls.map tuI).filterMap (fPap t "last" b), ∃ x y, d = .tuple [x, y] := fun d hd => by
      have one : ∀ x : Str, d ∈ (Ls.map tuI).filterMap (fPap t x b) → ∃ x y, d = PyData.tuple [x, y] := fun x hx => by
        obtain ⟨e, _, he⟩ := List.mem_filterMap.mp hx
        unfold fPap at he
        split at he
        · cases he
          exact ⟨_, _, rfl⟩
        · cases he
      rcases List.mem_append.mp hd with hd | hd
      · exact one _ hd
      · exact one _ hd
    have some : (Ls.map tuI).filterMap (fPap t "first" b) ++ (Ls.map tuI).filterMap (fPap t "last" b) ≠ [] := fun z => by
      obtain ⟨z1, z2⟩ := List.append_eq_nil_iff.mp z
      have no : ∀ x : Str, decide (x = "first") = f → (Ls.map tuI).filterMap (fPap t x b) ≠ [] := fun x hx zz => by
        have : PyData.tuple [.str x, tuI lot] ∈ (Ls.map tuI).filterMap (fPap t x b) := List.mem_filterMap.mpr ⟨tuI lot, List.mem_map.mpr ⟨lot, hlot, rfl⟩, by
          unfold fPap
          rw [un_tu, hx, if_pos hw]⟩
        rw [zz] at this
        cases this
      cases f with
      | true => exact no "first" (by decide) z1
      | false => exact no "last" (by decide) z2
    obtain ⟨d, r, e⟩ := List.exists_cons_of_ne_nil some
    obtain ⟨x, y, ed⟩ := each d (by rw [e]; exact List.mem_cons_self ..)
    rw [e, ed]
    exact q x y r
end Gk01

set_option maxRecDepth 100000
set_option maxHeartbeats 4000000
namespace Gk01
open PySem PySem.Spec PyProof.Rows L2 Z3

/-! ### the rule's order -/
def aheadL (t : Tw) : List (Int × Int) := (enumT t).filterMap fun q => if q.2.1 ≤ q.2.2 then some (q.2.1, q.1) else none
def behindL (t : Tw) : List (Int × Int) := (enumT t).filterMap fun q => if q.2.2 < q.2.1 then some (0 - q.2.2, q.1) else none
def sortP (ps : List (Int × Int)) : List (Int × Int) := ps.mergeSort fun a b => decide (a.1 < b.1 ∨ (a.1 = b.1 ∧ a.2 ≤ b.2))
def rule (t : Tw) : List Int := (sortP (aheadL t) ++ sortP (behindL t)).map (·.2)
theorem map_pr (ps : List (Int × Int)) : ps.map pr = (ps.map fun p => [p.1, p.2]).map tuI := by rw [List.map_map]; rfl
theorem ord_pr (ps : List (Int × Int)) : OrdD (ps.map pr) := by rw [map_pr]; exact ord_tus _
theorem sortable_pr (ps : List (Int × Int)) : PySem.W.Sortable (ps.map pr) := .inl fun d hd => by
  obtain ⟨p, _, rfl⟩ := List.mem_map.mp hd
  exact ⟨_, _, rfl⟩
theorem sortD_pr (ps : List (Int × Int)) : sortD (ps.map pr) = (sortP ps).map pr := by
  unfold sortD sortP
  refine (List.map_mergeSort (f := pr) (s := fun a b => !PySem.W.dataLt b a) (l := ps) (fun a _ b _ => ?_)).symm
  show decide _ = !PySem.W.dataLt (.tuple [.int b.1, .int b.2]) (.tuple [.int a.1, .int a.2])
  rw [PySem.W.dataLt_ii]
  by_cases h : b.1 < a.1 ∨ (b.1 = a.1 ∧ b.2 < a.2)
  · rw [decide_eq_true h, decide_eq_false (by omega)]
    rfl
  · rw [decide_eq_false h, decide_eq_true (by omega)]
    rfl
def fA : D → Option D
  | .tuple [.int i, .tuple [.int a, .int b]] => if a ≤ b then some (.tuple [.int a, .int i]) else none
  | _ => none
def fB : D → Option D
  | .tuple [.int i, .tuple [.int a, .int b]] => if b < a then some (.tuple [.int (0 - b), .int i]) else none
  | _ => none
theorem fA_eq (t : Tw) : (enumD (t.map pr)).filterMap fA = (aheadL t).map pr := by
  rw [enum_pr, List.filterMap_map]
  unfold aheadL
  rw [List.map_filterMap]
  apply fm_congr
  intro q _
  show (if q.2.1 ≤ q.2.2 then some (PyData.tuple [.int q.2.1, .int q.1]) else none) = Option.map pr (if q.2.1 ≤ q.2.2 then some (q.2.1, q.1) else none)
  by_cases h : q.2.1 ≤ q.2.2
  · rw [if_pos h, if_pos h]
    rfl
  · rw [if_neg h, if_neg h]
    rfl
theorem fB_eq (t : Tw) : (enumD (t.map pr)).filterMap fB = (behindL t).map pr := by
  rw [enum_pr, List.filterMap_map]
  unfold behindL
  rw [List.map_filterMap]
  apply fm_congr
  intro q _
  show (if q.2.2 < q.2.1 then some (PyData.tuple [.int (0 - q.2.2), .int q.1]) else none) = Option.map pr (if q.2.2 < q.2.1 then some (0 - q.2.2, q.1) else none)
  by_cases h : q.2.2 < q.2.1
  · rw [if_pos h, if_pos h]
    rfl
  · rw [if_neg h, if_neg h]
    rfl
theorem enum_len (t : Tw) : (enumD (t.map pr)).length = t.length := by
  rw [enum_pr, List.length_map]
  unfold enumT
  rw [List.length_mapIdx]
theorem ahead_len (t : Tw) : (aheadL t).length ≤ t.length := by
  refine Nat.le_trans (List.length_filterMap_le _ _) ?_
  unfold enumT
  rw [List.length_mapIdx]
  exact Nat.le_refl _
theorem behind_len (t : Tw) : (behindL t).length ≤ t.length := by
  refine Nat.le_trans (List.length_filterMap_le _ _) ?_
  unfold enumT
  rw [List.length_mapIdx]
  exact Nat.le_refl _
theorem sortP_perm (ps : List (Int × Int)) : (sortP ps).Perm ps := List.mergeSort_perm ..
def f2 : D → Option D
  | .tuple [_, d] => some d
  | _ => none
theorem f2_eq (ps : List (Int × Int)) : (ps.map pr).filterMap f2 = (ps.map (·.2)).map .int := by
  rw [List.filterMap_map, List.map_map]
  exact fm_some _ _
def sp_rule_order : Sd := fun ds Q => ∃ t, ds = [en2 t] ∧ t.length ≤ 1000 ∧ Q (tuI (rule t))
theorem p_rule_order (ds : List D) (Q : D → Prop) (h : sp_rule_order ds Q) : rd_rule_order (ends Q) (startS n_rule_order ds) := by
  obtain ⟨t, rfl, ht, q⟩ := h
  have hs : sizeLine = 16777216 := sizeLine_eq
  have pa := sortP_perm (aheadL t)
  have pb := sortP_perm (behindL t)
  have la := ahead_len t
  have lb := behind_len t
  refine ⟨nh rfl, t.map pr, rfl, lcK_run fA (fun d hd acc k hz q' => ?_) ?_ ?_⟩
  · rw [enum_pr] at hd
    obtain ⟨p, _, rfl⟩ := List.mem_map.mp hd
    refine ⟨_, rfl, rfl, _, _, rfl, _, _, rfl, ⟨_, rfl, rfl, _, _, rfl, _, _, rfl, rfl, rfl, _, rfl, ?_⟩⟩
    show if decide (p.2.1 ≤ p.2.2) = true then _ else _
    have q' : k (acc ++ (if p.2.1 ≤ p.2.2 then some (PyData.tuple [.int p.2.1, .int p.1]) else none).toList) := q'
    by_cases h : p.2.1 ≤ p.2.2
    · rw [if_pos h] at q'
      rw [decide_eq_true h]
      exact ⟨trivial, trivial, by show 2 ≤ sizeLine; omega, trivial, hz, q'⟩
    · rw [if_neg h] at q'
      rw [decide_eq_false h]
      rw [show acc ++ (none : Option D).toList = acc from List.append_nil _] at q'
      exact q'
  · rw [enum_len]
    show 0 + t.length ≤ sizeLine
    omega
  · rw [List.nil_append, fA_eq]
    refine ⟨ord_pr _, sortable_pr _, ?_⟩
    rw [sortD_pr]
    refine ⟨nh rfl, t.map pr, rfl, lcK_run fB (fun d hd acc k hz q' => ?_) ?_ ?_⟩
    · rw [enum_pr] at hd
      obtain ⟨p, _, rfl⟩ := List.mem_map.mp hd
      refine ⟨_, rfl, rfl, _, _, rfl, _, _, rfl, ⟨_, rfl, rfl, _, _, rfl, _, _, rfl, rfl, rfl, _, rfl, ?_⟩⟩
      show if decide (p.2.2 < p.2.1) = true then _ else _
      have q' : k (acc ++ (if p.2.2 < p.2.1 then some (PyData.tuple [.int (0 - p.2.2), .int p.1]) else none).toList) := q'
      by_cases h : p.2.2 < p.2.1
      · rw [if_pos h] at q'
        rw [decide_eq_true h]
        exact ⟨trivial, trivial, by show 2 ≤ sizeLine; omega, trivial, hz, q'⟩
      · rw [if_neg h] at q'
        rw [decide_eq_false h]
        rw [show acc ++ (none : Option D).toList = acc from List.append_nil _] at q'
        exact q'
    · rw [enum_len]
      show 0 + t.length ≤ sizeLine
      omega
    · rw [List.nil_append, fB_eq]
      refine ⟨ord_pr _, sortable_pr _, ?_⟩
      rw [sortD_pr]
      refine ⟨nh rfl, ?_, (sortP (aheadL t)).map pr ++ (sortP (behindL t)).map pr, rfl, lcK_run f2 (fun d hd acc k hz q' => ?_) ?_ ?_⟩
      · rw [List.length_map, List.length_map, List.Perm.length_eq pa, List.Perm.length_eq pb]
        omega
      · rw [← List.map_append] at hd
        obtain ⟨p, _, rfl⟩ := List.mem_map.mp hd
        exact ⟨_, rfl, rfl, _, _, rfl, _, _, rfl, rfl, trivial, hz, q'⟩
      · show 0 + ((sortP (aheadL t)).map pr ++ (sortP (behindL t)).map pr).length ≤ sizeLine
        rw [List.length_append, List.length_map, List.length_map, List.Perm.length_eq pa, List.Perm.length_eq pb]
        omega
      · rw [List.nil_append, ← List.map_append, f2_eq]
        exact q
def RuleOk (t : Tw) : Prop := Ord t.length (rule t)
def sp_rule_of_twos : Sd := fun ds Q => ∃ t, ds = [en2 t] ∧ Ok2 t ∧ Q (tuI (rule t))
theorem p_rule_of_twos (ds : List D) (Q : D → Prop) (h : sp_rule_of_twos ds Q) : rd_rule_of_twos sp_check_twos sp_rule_order (ends Q) (startS n_rule_of_twos ds) := by
  obtain ⟨t, rfl, ok, q⟩ := h
  have := ok.2.1
  exact ⟨rfl, t, rfl, ok, rfl, t, rfl, by omega, q⟩
def sp_least_end : Sd := fun ds Q => ∃ t, ds = [en2 t] ∧ Ok2 t ∧ RuleOk t ∧ Q (.int (end2 t (rule t)))
theorem p_least_end (ds : List D) (Q : D → Prop) (h : sp_least_end ds Q) : rd_least_end sp_check_twos sp_raw_end sp_rule_order (ends Q) (startS n_least_end ds) := by
  obtain ⟨t, rfl, ok, ro, q⟩ := h
  have := ok.2.1
  have hl := Ord.len ro
  exact ⟨rfl, t, rfl, ok, rfl, t, rfl, by omega, rfl, t, rule t, rfl, Ord.ne ok ro, by omega, Ord.mem ro, q⟩

/-! ### over all orders -/
theorem ordF_in (m : Nat) : ∀ k, ∀ r ∈ ordF m k, ∀ i ∈ r, 0 ≤ i ∧ i < m
  | 0, r, h, i, hi => by
    rcases List.mem_cons.mp h with rfl | h
    · cases hi
    · cases h
  | k + 1, r, h, i, hi => by
    obtain ⟨q, hq, hr⟩ := List.mem_flatMap.mp h
    obtain ⟨o, ho, rfl⟩ := List.mem_map.mp hr
    rcases List.mem_append.mp hi with hi | hi
    · exact ordF_in m k q hq i hi
    · rw [List.mem_singleton.mp hi]
      exact mem_rangeI.mp (List.mem_filter.mp ho).1
def fCount (t : Tw) (v : Int) (d : D) : Option D := if end2 t (unI d) = v then some (.int 1) else none
theorem count_eq (t : Tw) (v : Int) (L : List (List Int)) : ((L.map tuI).filterMap (fCount t v)).length = (L.filter fun o => decide (end2 t o = v)).length := by
  rw [List.filterMap_map]
  induction L with
  | nil => rfl
  | cons l L ih =>
    rw [List.filterMap_cons, List.filter_cons]
    by_cases h : end2 t l = v
    · rw [show (fCount t v ∘ tuI) l = some (.int 1) by
        show (if end2 t (unI (tuI l)) = v then some (PyData.int 1) else none) = _
        rw [un_tu, if_pos h], if_pos (decide_eq_true h), List.length_cons, List.length_cons, ih]
    · rw [show (fCount t v ∘ tuI) l = none by
        show (if end2 t (unI (tuI l)) = v then some (PyData.int 1) else none) = _
        rw [un_tu, if_neg h], if_neg (by rw [decide_eq_false h]; exact Bool.false_ne_true), ih]
theorem ords_len {n : Nat} (h : n ≤ 7) : (ords n).length ≤ 823543 := by
  have h1 := ordF_len n n
  have h2 : n ^ n ≤ 7 ^ 7 := Nat.le_trans (Nat.pow_le_pow_left h _) (Nat.pow_le_pow_right (by omega) (by omega))
  have h3 : (7 : Nat) ^ 7 = 823543 := by decide
  show (ordF n n).length ≤ _
  omega
def sp_best_two_orders : Sd := fun ds Q => ∃ t, ds = [en2 t] ∧ Ok2 t ∧ RuleOk t ∧ Q (.int ((ords t.length).filter fun o => decide (end2 t o = end2 t (rule t))).length)
theorem eq_ints' (a b : Int) : PyData.eqv (.int a) (.int b) = decide (a = b) := by
  show (a == b) = _
  by_cases h : a = b
  · subst h; simp
  · simp [h]
theorem p_best_two_orders (ds : List D) (Q : D → Prop) (h : sp_best_two_orders ds Q) : rd_best_two_orders sp_check_twos sp_raw_end sp_rule_order sp_all_orders (ends Q) (startS n_best_two_orders ds) := by
  obtain ⟨t, rfl, ok, ro, q⟩ := h
  have hs : sizeLine = 16777216 := sizeLine_eq
  have h7 := ok.2.1
  have h1 := ok.1
  have hl := Ord.len ro
  refine ⟨rfl, t, rfl, ok, rfl, t, rfl, by omega, rfl, t, rule t, rfl, Ord.ne ok ro, by omega, Ord.mem ro, nh rfl, rfl, t.length, ?_, h7, (ords t.length).map tuI, rfl, lcK_run (fCount t (end2 t (rule t))) (fun d hd acc k hz q' => ?_) ?_ ?_⟩
  · show [PyData.int ((t.map pr).length : Int)] = _
    rw [List.length_map]
  · obtain ⟨o, ho, rfl⟩ := List.mem_map.mp hd
    have hol := ordF_row t.length t.length o ho
    refine ⟨rfl, t, o, rfl, fun z => ?_, by omega, ordF_in t.length t.length o ho, ⟨rfl, rfl, Nat.zero_le _⟩, _, rfl, ?_⟩
    · rw [z] at hol
      simp at hol
      omega
    · rw [show PyData.eqv (Val.p (.int (end2 t o))).get (Val.p (.int (end2 t (rule t)))).get = decide (end2 t o = end2 t (rule t)) from eq_ints' _ _]
      have q' : k (acc ++ (if end2 t (unI (tuI o)) = end2 t (rule t) then some (PyData.int 1) else none).toList) := q'
      rw [un_tu] at q'
      by_cases h : end2 t o = end2 t (rule t)
      · rw [if_pos h] at q'
        exact ifT (decide_eq_true h) ⟨trivial, hz, q'⟩
      · rw [if_neg h] at q'
        rw [show acc ++ (none : Option D).toList = acc from List.append_nil _] at q'
        exact ifF (decide_eq_false h) q'
  · show 0 + ((ords t.length).map tuI).length ≤ sizeLine
    rw [List.length_map]
    have := ords_len h7
    omega
  · rw [List.nil_append]
    show Q (.int (((ords t.length).map tuI).filterMap (fCount t (end2 t (rule t)))).length)
    rw [count_eq]
    exact q
theorem at0 {α : Type} (x : α) (xs : List α) : L2.atI (x :: xs) 0 = some x := atI_nat (Int.le_refl _) rfl
/-! ### twos_told -/
def fLe (t : Tw) (b : Int) (d : D) : Option D := if end2 t (unI d) ≤ b then some d else none
def sp_twos_told : Sd := fun ds Q => ∃ (t : Tw) (b : Int), ds = [en2 t, .int b] ∧ Ok2 t ∧ 0 ≤ b ∧ b ≤ 2000 ∧ RuleOk t ∧ rule t ∈ ords t.length ∧
  (b < end2 t (rule t) → (∃ (f : Bool) (lot : List Int), lot ≠ [] ∧ lot.Sublist (rangeI t.length) ∧ b < worth f t lot) ∧ ∀ r, Q (.tuple (.str "bar" :: r))) ∧ (end2 t (rule t) ≤ b → ∀ r, Q (.tuple (.str "order" :: r)))
theorem p_twos_told (ds : List D) (Q : D → Prop) (h : sp_twos_told ds Q) : rd_twos_told sp_check_two_minute sp_raw_end sp_rule_order sp_papers_above sp_all_orders (ends Q) (startS n_twos_told ds) := by
  obtain ⟨t, b, rfl, ok, b0, b1, ro, rin, q1, q2⟩ := h
  have hs : sizeLine = 16777216 := sizeLine_eq
  have h7 := ok.2.1
  have h1 := ok.1
  have hl := Ord.len ro
  refine ⟨rfl, t, b, rfl, ok, b0, b1, rfl, t, rfl, by omega, rfl, t, rule t, rfl, Ord.ne ok ro, by omega, Ord.mem ro, decide (b < end2 t (rule t)), rfl, ?_⟩
  by_cases h : b < end2 t (rule t)
  · obtain ⟨w, q⟩ := q1 h
    refine ifT (decide_eq_true h) ⟨trivial, by show 1 ≤ sizeLine; omega, rfl, t, b, rfl, ok, w, fun x y xs => ⟨.tuple [x, y], at0 _ _, by show 3 ≤ sizeLine; omega, q _⟩⟩
  · have q := q2 (by omega)
    refine ifF (decide_eq_false h) ⟨trivial, nh rfl, rfl, t.length, ?_, h7, (ords t.length).map tuI, rfl, lcK_run (fLe t b) (fun d hd acc k hz q' => ?_) ?_ ?_⟩
    · show [PyData.int ((t.map pr).length : Int)] = _
      rw [List.length_map]
    · obtain ⟨o, ho, rfl⟩ := List.mem_map.mp hd
      have hol := ordF_row t.length t.length o ho
      refine ⟨rfl, t, o, rfl, fun z => ?_, by omega, ordF_in t.length t.length o ho, decide (end2 t o ≤ b), rfl, ?_⟩
      · rw [z] at hol
        simp at hol
        omega
      · have q' : k (acc ++ (if end2 t (unI (tuI o)) ≤ b then some (tuI o) else none).toList) := q'
        rw [un_tu] at q'
        by_cases h : end2 t o ≤ b
        · rw [if_pos h] at q'
          exact ifT (decide_eq_true h) ⟨trivial, hz, q'⟩
        · rw [if_neg h] at q'
          rw [show acc ++ (none : Option D).toList = acc from List.append_nil _] at q'
          exact ifF (decide_eq_false h) q'
    · show 0 + ((ords t.length).map tuI).length ≤ sizeLine
      rw [List.length_map]
      have := ords_len h7
      omega
    · rw [List.nil_append]
      have : ((ords t.length).map tuI).filterMap (fLe t b) ≠ [] := fun z => by
        have : tuI (rule t) ∈ ((ords t.length).map tuI).filterMap (fLe t b) := List.mem_filterMap.mpr ⟨tuI (rule t), List.mem_map.mpr ⟨_, rin, rfl⟩, by
          unfold fLe
          rw [un_tu, if_pos (by omega)]⟩
        rw [z] at this
        cases this
      obtain ⟨d, r, e⟩ := List.exists_cons_of_ne_nil this
      rw [e]
      exact ⟨d, at0 _ _, trivial, by show 2 ≤ sizeLine; omega, q _⟩
end Gk01

set_option maxRecDepth 100000
set_option maxHeartbeats 4000000
namespace Gk01
open PySem PySem.Spec PyProof.Rows L2 Z3

/-! ### the hand -/
def HC (ns : List Int) (i l m n : Int) : List D := [.list (ns.map .int), .int i, .int l, .int m, .int n]
def HOk (ns : List Int) (i l m n : Int) : Prop := (∀ z ∈ ns, 0 ≤ z) ∧ ns.length ≤ 63 ∧ 0 ≤ i ∧ i ≤ ns.length ∧ 0 ≤ l ∧ 0 ≤ m ∧ m < 2147483648 ∧ 0 ≤ n
theorem HOk.c {ns : List Int} {i l m n : Int} (h : HOk ns i l m n) : HandC (HC ns i l m n) := ⟨ns, i, l, m, n, rfl, h⟩
def sp_law_draw : Sd := fun ds Q => ∃ m : Int, ds = [.int m] ∧ 0 < m ∧ m ≤ 1000 ∧ ∀ r, 0 ≤ r → r < m → Q (.int r)
abbrev dends (Q : D → Prop) : SEnds := { nx := fun _ => False, rt := fun d ss => (∃ hs', HandC hs' ∧ ss[0]? = some (.own (.list hs'))) ∧ Q d }
theorem cmul_c {a b : Int} (h0 : -(2 ^ 64) < b) (h1 : b < 2 ^ 64) : CMul a b ∨ CMulW a b := .inl (.inr ⟨h0, h1⟩)
theorem cmul_l {a b : Int} (h0 : -(2 ^ 64) < a) (h1 : a < 2 ^ 64) : CMul a b ∨ CMulW a b := .inl (.inl ⟨h0, h1⟩)
theorem cdiv_c {a b : Int} (h0 : 0 < b) (h1 : b < 4096) : CDivW a b := ⟨h0, by
  have h2 : b.natAbs < 2 ^ 12 := by omega
  have h3 := (Nat.log2_lt (n := b.natAbs) (k := 12) (by omega)).mpr h2
  omega⟩
theorem draw_tl5 {ns : List Int} {i l m n many : Int} {Q : D → Prop} {x y z : SV} (ok : HOk ns i l m n) (m0 : 0 < many) (m1 : many ≤ 1000) (q : ∀ r, 0 ≤ r → r < many → Q (.int r)) :
    tl5_law_draw (dends Q) [.own (.list (HC ns i l m n)), .p (.int many), x, y, z] := by
  have ok' : HOk ns i l m (n + 1) := ⟨ok.1, ok.2.1, ok.2.2.1, ok.2.2.2.1, ok.2.2.2.2.1, ok.2.2.2.2.2.1, ok.2.2.2.2.2.2.1, by have := ok.2.2.2.2.2.2.2; omega⟩
  refine ⟨HC ns i l m n, rfl, _, rfl, trivial, 4, 4, rfl, rfl, ?_⟩
  refine ⟨_, rfl, _, rfl, cmul_l (by decide) (by decide), cmul_c (by decide) (by decide), by decide, ?_⟩
  -- the first mix
  have key : ∀ v : Int, 0 ≤ v → v < 2147483647 → tl3_law_draw (dends Q) [.own (.list (HC ns i l m (n + 1))), .p (.int many), .p (.int v), y, z] := by
    intro v v0 v1
    refine ⟨cdiv_c (by decide) (by decide), cmul_l (by omega) (by omega), by decide, ?_⟩
    have a0 : ∀ w : Int, 0 ≤ w % 2147483647 ∧ w % 2147483647 < 2147483647 := fun w => ⟨Int.emod_nonneg _ (by decide), Int.emod_lt_of_pos _ (by decide)⟩
    obtain ⟨b0, b1⟩ := a0 (v * (v / 1009 + 69621))
    refine ⟨cdiv_c (by decide) (by decide), cmul_l (by omega) (by omega), by decide, cdiv_c (by decide) (by decide), m0, ⟨_, ok'.c, rfl⟩, ?_⟩
    exact q _ (Int.emod_nonneg _ (by omega)) (Int.emod_lt_of_pos _ m0)
  exact key _ (Int.emod_nonneg _ (by decide)) (Int.emod_lt_of_pos _ (by decide))
theorem draw_tl6 {ns : List Int} {i l m n many : Int} {Q : D → Prop} {x y z : SV} (ok : HOk ns i l m n) (m0 : 0 < many) (m1 : many ≤ 1000) (q : ∀ r, 0 ≤ r → r < many → Q (.int r)) :
    tl6_law_draw (dends Q) [.own (.list (HC ns i l m n)), .p (.int many), x, y, z] := by
  refine ⟨_, rfl, decide (0 < l), rfl, ?_⟩
  by_cases h : 0 < l
  · refine ifT (decide_eq_true h) ⟨_, rfl, m0, HC ns i l m n, rfl, _, rfl, cdiv_c m0 (by omega), trivial, 2, 2, rfl, rfl, ?_⟩
    have ok' : HOk ns i (l / many) m n := ⟨ok.1, ok.2.1, ok.2.2.1, ok.2.2.2.1, Int.ediv_nonneg (by omega) (by omega), ok.2.2.2.2.2⟩
    exact ⟨⟨_, ok'.c, rfl⟩, q _ (Int.emod_nonneg _ (by omega)) (Int.emod_lt_of_pos _ m0)⟩
  · exact ifF (decide_eq_false h) (draw_tl5 ok m0 m1 q)
theorem p_law_draw (hs ds : List D) (Q : D → Prop) (hc : HandC hs) (h : sp_law_draw ds Q) : rd_law_draw (dends Q) (startW hs n_law_draw ds) := by
  obtain ⟨many, rfl, m0, m1, q⟩ := h
  obtain ⟨ns, i, l, m, n, rfl, ok⟩ := hc
  have ok : HOk ns i l m n := ok
  have start : ∀ x y z : SV, tl6_law_draw (dends Q) [.own (.list (HC ns i l m n)), .p (.int many), x, y, z] := fun x y z => draw_tl6 ok m0 m1 q
  refine ⟨_, rfl, ⟨rfl, rfl, Nat.zero_le _⟩, _, rfl, ?_⟩
  rw [show PyData.eqv (Val.p (PyData.int l)).get (Val.p (PyData.int 0)).get = decide (l = 0) from eq_ints' _ _]
  by_cases hl : l = 0
  · refine ifT (decide_eq_true hl) ⟨_, rfl, _, rfl, decide (i < ((ns.map PyData.int).length : Int)), rfl, ?_⟩
    by_cases hi : i < ns.length
    · have i0 := ok.2.2.1
      have hc : L2.atI (ns.map PyData.int) i = some (.int (ns.getD i.toNat 0)) := atI_map PyData.int 0 i0 hi
      have hcell : 0 ≤ ns.getD i.toNat 0 := by
        rw [List.getD_eq_getElem?_getD, List.getElem?_eq_getElem (by omega)]
        exact ok.1 _ (List.getElem_mem _)
      refine ifT (decide_eq_true (by rw [List.length_map]; exact hi)) ⟨_, rfl, _, rfl, _, hc, HC ns i l m n, rfl, _, rfl, trivial, 1, 1, rfl, rfl, ?_⟩
      refine ⟨HC ns (i + 1) l m n, rfl, _, rfl, cmul_c (by decide) (by decide), cmul_c (by decide) (by decide), by decide, trivial, 3, 3, rfl, rfl, ?_⟩
      generalize hcl : ns.getD i.toNat 0 = cell at hcell ⊢
      generalize hm' : (m * 69621 + cell * 40692 + 31) % 2147483629 = m'
      have hm0 : 0 ≤ m' ∧ m' < 2147483648 := by
        rw [← hm']
        have := Int.emod_nonneg (m * 69621 + cell * 40692 + 31) (b := 2147483629) (by decide)
        have := Int.emod_lt_of_pos (m * 69621 + cell * 40692 + 31) (b := 2147483629) (by decide)
        omega
      refine ⟨⟨by decide, by decide, by decide⟩, _, rfl, ?_⟩
      have ok1 : HOk ns (i + 1) l m' n := ⟨ok.1, ok.2.1, by omega, by omega, ok.2.2.2.2.1, hm0.1, hm0.2, ok.2.2.2.2.2.2.2⟩
      by_cases hb : (10 : Int) ^ 18 ≤ cell
      · refine ifT (decide_eq_true hb) ⟨HC ns (i + 1) l m' n, ?_, trivial, 2, 2, rfl, rfl, ?_⟩
        · rw [← hm']
          rfl
        · have ok2 : HOk ns (i + 1) cell m' n := ⟨ok.1, ok.2.1, by omega, by omega, hcell, hm0.1, hm0.2, ok.2.2.2.2.2.2.2⟩
          exact draw_tl6 ok2 m0 m1 q
      · refine ifF (decide_eq_false hb) ?_
        have := draw_tl6 (x := .any) (y := .p (.int cell)) (z := .any) ok1 m0 m1 q
        exact this
    · exact ifF (decide_eq_false (by rw [List.length_map]; exact hi)) (start _ _ _)
  · exact ifF (decide_eq_false hl) (start _ _ _)
end Gk01

set_option maxRecDepth 100000
set_option maxHeartbeats 4000000
namespace Gk01
open PySem PySem.Spec PyProof.Rows L2 Z3

abbrev hends (h : Addr) (Q : D → Prop) : SEnds := { nx := fun ss => ss[0]? = some (.hand h) ∧ Q .none, rt := fun d ss => ss[0]? = some (.hand h) ∧ Q d }
def sp_law_any : Sd := fun ds Q => ∃ xs : List D, ds = [.list xs] ∧ xs ≠ [] ∧ xs.length ≤ 1000 ∧ ∀ x ∈ xs, Q x
theorem p_law_any (h : Addr) (ds : List D) (Q : D → Prop) (hh : sp_law_any ds Q) : rd_law_any sp_law_draw (hends h Q) (startH h n_law_any ds) := by
  obtain ⟨xs, rfl, hne, hz, q⟩ := hh
  have hl : 0 < xs.length := List.length_pos_iff.mpr hne
  refine ⟨⟨h, rfl⟩, rfl, xs.length, rfl, by omega, by omega, fun r r0 r1 => ?_⟩
  have hr : xs[r.toNat]? = some (xs[r.toNat]'(by omega)) := List.getElem?_eq_getElem (by omega)
  exact ⟨_, atI_nat r0 hr, rfl, q _ (List.getElem_mem _)⟩
theorem erase_perm {α : Type} : ∀ {l : List α} {k : Nat} {x : α}, l[k]? = some x → (x :: l.eraseIdx k).Perm l
  | [], k, x, h => by simp at h
  | a :: l, 0, x, h => by
    cases h
    exact List.Perm.refl _
  | a :: l, k + 1, x, h => by
    have := erase_perm (l := l) (k := k) (x := x) (by simpa using h)
    show (x :: a :: l.eraseIdx k).Perm (a :: l)
    exact (List.Perm.swap a x _).trans (this.cons a)
theorem map_erase {α β : Type} (f : α → β) : ∀ (l : List α) (k : Nat), (l.eraseIdx k).map f = (l.map f).eraseIdx k
  | [], k => rfl
  | a :: l, 0 => rfl
  | a :: l, k + 1 => by
    show f a :: (l.eraseIdx k).map f = f a :: (l.map f).eraseIdx k
    rw [map_erase f l k]
def sp_law_mixed : Sd := fun ds Q => ∃ ns : List Int, ds = [.list (ns.map .int)] ∧ ns.length ≤ 1000 ∧ ∀ ms : List Int, ms.Perm ns → Q (.list (ms.map .int))
theorem p_law_mixed (h : Addr) (ds : List D) (Q : D → Prop) (hh : sp_law_mixed ds Q) : rd_law_mixed sp_law_draw (hends h Q) (startH h n_law_mixed ds) := by
  obtain ⟨ns, rfl, hz, q⟩ := hh
  have hs : sizeLine = 16777216 := sizeLine_eq
  refine ⟨trivial, by show 0 ≤ sizeLine; omega, trivial, rfl, fun m ss => ∃ rest found : List Int, ss = [.hand h, .r (.list (ns.map .int)), .own (.list (rest.map .int)), .own (.list (found.map .int))] ∧ rest.length = m ∧ (rest ++ found).Perm ns, ⟨_, ns, [], rfl, rfl, by rw [List.append_nil]⟩, ?_⟩
  rintro m ss ⟨rest, found, rfl, hm, hp⟩
  have hlen : rest.length + found.length = ns.length := by
    rw [← List.length_append]
    exact List.Perm.length_eq hp
  refine ⟨decide ((0 : Int) < ((rest.map PyData.int).length : Int)), rfl, ?_⟩
  by_cases hr : 0 < rest.length
  · refine ifT (decide_eq_true (by rw [List.length_map]; omega)) ⟨found.map .int, rest.map .int, by decide, rfl, rfl, ⟨h, rfl⟩, rfl, rest.length, ?_, by omega, by omega, fun r r0 r1 => ?_⟩
    · show [PyData.int ((rest.map PyData.int).length : Int)] = _
      rw [List.length_map]
    · have hk : rest[r.toNat]? = some (rest[r.toNat]'(by omega)) := List.getElem?_eq_getElem (by omega)
      refine ⟨r, r.toNat, .int (rest[r.toNat]'(by omega)), rfl, r0, by omega, rfl, by rw [List.getElem?_map, hk]; rfl, by rw [List.length_map]; omega, rest.length - 1, by omega, rest.eraseIdx r.toNat, found ++ [rest[r.toNat]'(by omega)], ?_, ?_, ?_⟩
      · show [SV.hand h, SV.r (.list (ns.map .int)), SV.own (.list ((rest.map PyData.int).eraseIdx r.toNat)), SV.own (.list (found.map PyData.int ++ [.int (rest[r.toNat]'(by omega))]))] = _
        rw [List.map_append, map_erase]
        rfl
      · rw [List.length_eraseIdx, if_pos (by omega)]
      · have p1 := erase_perm hk
        have p2 : (rest.eraseIdx r.toNat ++ (found ++ [rest[r.toNat]'(by omega)])).Perm ((rest[r.toNat]'(by omega)) :: rest.eraseIdx r.toNat ++ found) := by
          rw [← List.append_assoc]
          exact List.perm_append_singleton _ _
        exact p2.trans ((p1.append_right found).trans hp)
  · refine ifF (decide_eq_false (by rw [List.length_map]; omega)) ?_
    have e : rest = [] := List.eq_nil_of_length_eq_zero (by omega)
    rw [e] at hp
    exact ⟨rfl, q found hp⟩

/-! ### the hand made -/
def fAbs : D → Option D
  | .int i => some (.int (if i < 0 then -i else i))
  | _ => none
theorem p_law_hand (ns : List Int) (hn : ns.length ≤ 63) : rd_law_hand { nx := fun ss => re_law_hand (frz [1] ss) fun val => ∃ hs, val = .f (.list hs) ∧ HandC hs, rt := fun _ _ => False } (.p (.list (ns.map .int)) :: List.replicate (n_law_hand.length - 1) .any) := by
  have hs : sizeLine = 16777216 := sizeLine_eq
  have e : Z3.cutD (ns.map PyData.int) none (some 63) = ns.map .int := by
    unfold Z3.cutD
    rw [HT.sIx_none, show HT.sIx (ns.map PyData.int).length (ns.map PyData.int).length (some 63) = min 63 (ns.map PyData.int).length from HT.sIx_nat _ _ 63, List.drop_zero]
    exact List.take_of_length_le (by rw [List.length_map]; omega)
  refine ⟨nh rfl, 63, rfl, Z3.cutD (ns.map PyData.int) none (some 63), rfl, lcK_run fAbs (fun d hd acc k hz q' => ?_) ?_ ?_⟩
  · rw [e] at hd
    obtain ⟨i, _, rfl⟩ := List.mem_map.mp hd
    exact ⟨trivial, hz, q'⟩
  · rw [e]
    show 0 + (ns.map PyData.int).length ≤ sizeLine
    rw [List.length_map]
    omega
  · rw [e, List.nil_append]
    have e2 : (ns.map PyData.int).filterMap fAbs = (ns.map fun i => if i < 0 then -i else i).map .int := by
      rw [List.filterMap_map, List.map_map]
      exact fm_some _ _
    rw [e2]
    refine ⟨trivial, trivial, trivial, cmul_l (by decide) (by decide), trivial, trivial, by show 5 ≤ sizeLine; omega, _, rfl, ?_⟩
    refine ⟨ns.map fun i => if i < 0 then -i else i, 0, 0, 99201 + 7 * (((ns.map fun i => if i < 0 then -i else i).map PyData.int).length : Int), 0, rfl, fun z hz => ?_, by rw [List.length_map]; exact hn, Int.le_refl _, by omega, Int.le_refl _, by omega, ?_, Int.le_refl _⟩
    · obtain ⟨i, _, rfl⟩ := List.mem_map.mp hz
      show 0 ≤ if i < 0 then -i else i
      split <;> omega
    · rw [List.length_map, List.length_map]
      omega

/-! ### the law's own ends -/
def fl : Int → List Int → List Int → List Int
  | h, f :: fs, x :: xs => (max h f + x) :: fl (max h f + x) fs xs
  | _, _, _ => []
def enF : Nat → List Int → List D
  | _, [] => []
  | k, x :: xs => .tuple [.int (k : Int), .int x] :: enF (k + 1) xs
theorem enum_ints (xs : List Int) : ∀ k : Nat, (xs.map PyData.int).mapIdx (fun (i : Nat) d => PyData.tuple [.int ((i + k : Nat) : Int), d]) = enF k xs := by
  induction xs with
  | nil => intro k; rfl
  | cons x xs ih =>
    intro k
    rw [List.map_cons, List.mapIdx_cons, Nat.zero_add]
    have := ih (k + 1)
    show PyData.tuple [.int (k : Int), .int x] :: List.mapIdx (fun (i : Nat) d => PyData.tuple [.int ((i + 1 + k : Nat) : Int), d]) (xs.map .int) = PyData.tuple [.int (k : Int), .int x] :: enF (k + 1) xs
    rw [← this]
    congr 1
    apply List.ext_getElem?
    intro i
    rw [List.getElem?_mapIdx, List.getElem?_mapIdx]
    rw [show i + 1 + k = i + (k + 1) by omega]
theorem enumD_ints (xs : List Int) : enumD (xs.map .int) = enF 0 xs := enum_ints xs 0
theorem fl_len : ∀ (xs fs : List Int) (h : Int), fs.length = xs.length → (fl h fs xs).length = xs.length
  | [], [], _, _ => rfl
  | [], _ :: _, _, e => by cases e
  | _ :: _, [], _, e => by cases e
  | x :: xs, f :: fs, h, e => by
    show (fl _ fs xs).length + 1 = _
    rw [fl_len xs fs _ (Nat.succ.inj e)]
    rfl
theorem for_end1 {R O : SV} {one : SV} {M : SEnds} : ∀ (xs P fs : List Int) (h : Int) (a b : SV), fs.length = xs.length → (∀ h' a' b', M.nx [R, O, .own (.list ((P ++ fl h fs xs).map .int)), one, .p (.int h'), a', b']) →
    forK (gT 2 (gCn (gN 5) (gCn (gN 6) gNl))) lb1_law_end M (enF P.length xs) [R, O, .own (.list ((P ++ fs).map .int)), one, .p (.int h), a, b]
  | [], P, [], h, a, b, _, q => by
    have := q h a b
    exact this
  | [], _, _ :: _, _, _, _, e, _ => by cases e
  | _ :: _, _, [], _, _, _, e, _ => by cases e
  | x :: xs, P, f :: fs, h, a, b, e, q => by
    have hat : L2.atI ((P ++ f :: fs).map PyData.int) (P.length : Int) = some (.int f) := atI_nat (by omega) (by
      rw [Int.toNat_natCast, List.getElem?_map, List.getElem?_append_right (Nat.le_refl _), Nat.sub_self]
      rfl)
    have hix : L2.ixN ((P ++ f :: fs).map PyData.int).length (P.length : Int) = some P.length := by
      unfold L2.ixN
      rw [if_pos (by omega), if_pos (by rw [List.length_map, List.length_append, List.length_cons]; omega), Int.toNat_natCast]
    refine ⟨_, rfl, rfl, _, _, rfl, _, _, rfl, rfl, _, hat, (P ++ f :: fs).map .int, rfl, trivial, P.length, P.length, rfl, hix, ?_⟩
    have e1 : ((P ++ f :: fs).map PyData.int).set P.length (.int ((if f > h then f else h) + x)) = ((P ++ [max h f + x]) ++ fs).map .int := by
      rw [max_if]
      rw [List.map_append, List.set_append_right _ _ (by rw [List.length_map]; exact Nat.le_refl _), List.length_map, Nat.sub_self]
      simp
    have e2 : enF (P.length + 1) xs = enF (P ++ [max h f + x]).length xs := by rw [List.length_append]; rfl
    show forK (gT 2 (gCn (gN 5) (gCn (gN 6) gNl))) lb1_law_end M (enF (P.length + 1) xs) [R, O, .own (.list (((P ++ f :: fs).map PyData.int).set P.length (.int ((if f > h then f else h) + x)))), one, .p (.int ((if f > h then f else h) + x)), .p (.int (P.length : Int)), .p (.int x)]
    rw [e1, e2, max_if]
    refine for_end1 xs (P ++ [max h f + x]) fs (max h f + x) _ _ (Nat.succ.inj e) fun h' a' b' => ?_
    have := q h' a' b'
    rw [List.append_assoc]
    exact this
def rowsE (rows : List (List Int)) : D := .tuple (rows.map tuI)
def rowAt (rows : List (List Int)) (i : Int) : List Int := rows.getD i.toNat []
def flow (rows : List (List Int)) : List Int → List Int → List Int
  | fs, [] => fs
  | fs, i :: r => flow rows (fl 0 fs (rowAt rows i)) r
theorem for_end2 {rows : List (List Int)} {w : Nat} {O : SV} {M : SEnds} (hw : ∀ r ∈ rows, r.length = w) : ∀ (ns fs : List Int) (one here a b : SV), (∀ i ∈ ns, 0 ≤ i ∧ i < rows.length) → fs.length = w →
    (∀ one' here' a' b', M.nx [.p (rowsE rows), O, .own (.list ((flow rows fs ns).map .int)), one', here', a', b']) →
    forK (gN 3) lb2_law_end M (ns.map .int) [.p (rowsE rows), O, .own (.list (fs.map .int)), one, here, a, b]
  | [], fs, one, here, a, b, _, _, q => q one here a b
  | i :: r, fs, one, here, a, b, hi, hf, q => by
    have h1 := hi i (List.mem_cons_self ..)
    have hat : L2.atI (rows.map tuI) i = some (tuI (rowAt rows i)) := atI_map tuI [] h1.1 h1.2
    have hlen : (rowAt rows i).length = w := by
      refine hw _ ?_
      unfold rowAt
      rw [List.getD_eq_getElem?_getD, List.getElem?_eq_getElem (by omega)]
      exact List.getElem_mem _
    refine ⟨_, hat, _, rfl, ?_⟩
    rw [enumD_ints]
    refine for_end1 (rowAt rows i) [] fs 0 _ _ (by omega) fun h' a' b' => ?_
    exact for_end2 hw r (fl 0 fs (rowAt rows i)) _ _ _ _ (fun j hj => hi j (List.mem_cons_of_mem _ hj)) (by rw [fl_len _ _ _ (by omega)]; exact hlen) q
def lawEnd (rows : List (List Int)) (ns : List Int) : Int := (flow rows (List.replicate ((rowAt rows 0).length) 0) ns).getLast?.getD 0
def sp_law_end : Sd := fun ds Q => ∃ (rows : List (List Int)) (w : Nat) (ns : List Int), ds = [rowsE rows, tuI ns] ∧ rows ≠ [] ∧ 1 ≤ w ∧ w ≤ 100 ∧ (∀ r ∈ rows, r.length = w) ∧ (∀ i ∈ ns, 0 ≤ i ∧ i < rows.length) ∧ Q (.int (lawEnd rows ns))
theorem flow_len {rows : List (List Int)} {w : Nat} (hw : ∀ r ∈ rows, r.length = w) : ∀ (ns fs : List Int), (∀ i ∈ ns, 0 ≤ i ∧ i < rows.length) → fs.length = w → (flow rows fs ns).length = w
  | [], fs, _, hf => hf
  | i :: r, fs, hi, hf => by
    have h1 := hi i (List.mem_cons_self ..)
    have hlen : (rowAt rows i).length = w := by
      refine hw _ ?_
      unfold rowAt
      rw [List.getD_eq_getElem?_getD, List.getElem?_eq_getElem (by omega)]
      exact List.getElem_mem _
    exact flow_len hw r _ (fun j hj => hi j (List.mem_cons_of_mem _ hj)) (by rw [fl_len _ _ _ (by omega)]; exact hlen)
theorem p_law_end (ds : List D) (Q : D → Prop) (h : sp_law_end ds Q) : rd_law_end (ends Q) (startS n_law_end ds) := by
  obtain ⟨rows, w, ns, rfl, hne, w1, w2, hw, hi, q⟩ := h
  have hs : sizeLine = 16777216 := sizeLine_eq
  obtain ⟨r0, rr, e⟩ := List.exists_cons_of_ne_nil hne
  have hr0 : rowAt rows 0 = r0 := by rw [e]; rfl
  have hw0 : r0.length = w := hw r0 (by rw [e]; exact List.mem_cons_self ..)
  have hat : L2.atI (rows.map tuI) 0 = some (tuI r0) := by
    rw [e]
    exact at0 _ _
  refine ⟨trivial, by show 1 ≤ sizeLine; omega, _, hat, ?_⟩
  refine ⟨by show -(2 ^ 63 : Int) ≤ ((r0.map PyData.int).length : Int); omega, by rw [List.length_map]; omega, by show 1 * (((r0.map PyData.int).length : Int)).toNat ≤ sizeLine; rw [List.length_map]; omega, ns.map .int, rfl, ?_⟩
  have e0 : (List.replicate (((r0.map PyData.int).length : Int)).toNat [PyData.int 0]).flatten = (List.replicate (rowAt rows 0).length (0 : Int)).map .int := by
    rw [hr0, Int.toNat_natCast, List.length_map]
    generalize r0.length = k
    induction k with
    | zero => rfl
    | succ k ih => rw [List.replicate_succ, List.flatten_cons, ih]; rfl
  show forK (gN 3) lb2_law_end _ (ns.map .int) [.p (rowsE rows), .p (tuI ns), .own (.list (List.replicate (((r0.map PyData.int).length : Int)).toNat [PyData.int 0]).flatten), .any, .any, .any, .any]
  rw [e0]
  refine for_end2 hw ns _ _ _ _ _ hi (by rw [List.length_replicate, hr0, hw0]) fun one' here' a' b' => ?_
  have hl := flow_len hw ns (List.replicate (rowAt rows 0).length 0) hi (by rw [List.length_replicate, hr0, hw0])
  obtain ⟨z, hz⟩ : ∃ z, (flow rows (List.replicate (rowAt rows 0).length 0) ns).getLast? = some z := by
    cases e : (flow rows (List.replicate (rowAt rows 0).length 0) ns).getLast? with
    | none =>
      rw [List.getLast?_eq_none_iff] at e
      rw [e] at hl
      simp at hl
      omega
    | some z => exact ⟨z, rfl⟩
  refine ⟨.int z, atI_last (by rw [List.getLast?_map, hz]; rfl), ?_⟩
  have : lawEnd rows ns = z := by
    unfold lawEnd
    rw [hz]
    rfl
  rw [this] at q
  exact q
end Gk01

set_option maxRecDepth 100000
set_option maxHeartbeats 4000000
namespace Gk01
open PySem PySem.Spec PyProof.Rows L2 Z3

/-! ### the least of pairs -/
abbrev En := Int × List Int
def pD (p : En) : D := .tuple [.int p.1, tuI p.2]
theorem ord_pD (L : List En) : OrdD (L.map pD) := by
  refine ⟨fun d hd e he => ?_, fun d hd => ?_, ?_, ?_⟩
  · obtain ⟨a, _, rfl⟩ := List.mem_map.mp hd
    obtain ⟨b, _, rfl⟩ := List.mem_map.mp he
    show PySem.W.alike (.tuple [.int _, .tuple (a.2.map .int)]) (.tuple [.int _, .tuple (b.2.map .int)]) = true
    simp [PySem.W.alike, PySem.W.alikeAll, alike_ints]
  · obtain ⟨a, _, rfl⟩ := List.mem_map.mp hd
    exact PyData.noConfusion
  · induction L with
    | nil => rfl
    | cons l F ih =>
      rw [List.map_cons, PyData.plainAll, ih]
      show ((true && ((PyData.plainAll (l.2.map .int)) && true)) && true) = true
      rw [plain_ints]
      rfl
  · refine Nat.le_trans (m := 2) ?_ (by omega)
    induction L with
    | nil => exact Nat.zero_le _
    | cons l F ih =>
      rw [List.map_cons, PyData.depthAll]
      refine Nat.max_le.mpr ⟨?_, ih⟩
      show (PyData.tuple [.int _, .tuple (l.2.map .int)]).depth ≤ 2
      rw [PyData.depth, PyData.depthAll, PyData.depthAll, PyData.depth, PyData.depth, PyData.depthAll, depth_ints]
      decide
theorem lt_pD (p q : En) : (PySem.W.dataLt (pD p) (pD q) = true → p.1 ≤ q.1) ∧ (PySem.W.dataLt (pD p) (pD q) = false → q.1 ≤ p.1) := by
  have e : PySem.W.dataLt (pD p) (pD q) = if PyData.eqv (.int p.1) (.int q.1) = true then (if PyData.eqv (tuI p.2) (tuI q.2) = true then false else PySem.W.dataLt (tuI p.2) (tuI q.2)) else PySem.W.dataLt (.int p.1) (.int q.1) :=
    PySem.W.dataLt_pair (by simp [PySem.W.alike]) (by show PySem.W.alike (.tuple _) (.tuple _) = true; rw [PySem.W.alike]; exact alike_ints _ _)
  rw [e, eq_ints', PySem.W.dataLt_int]
  by_cases h : p.1 = q.1
  · exact ⟨fun _ => by omega, fun _ => by omega⟩
  · rw [decide_eq_false h]
    refine ⟨fun z => ?_, fun z => ?_⟩
    · have := of_decide_eq_true (show decide (p.1 < q.1) = true from z)
      omega
    · have := of_decide_eq_false (show decide (p.1 < q.1) = false from z)
      omega
theorem min_pD : ∀ (L : List En) (a : En), ∃ p, p ∈ a :: L ∧ PySem.W.minD (pD a) (L.map pD) = pD p ∧ ∀ q ∈ a :: L, p.1 ≤ q.1
  | [], a => ⟨a, List.mem_cons_self .., rfl, fun q hq => by
    rcases List.mem_cons.mp hq with rfl | hq
    · exact Int.le_refl _
    · cases hq⟩
  | b :: L, a => by
    have step : PySem.W.minD (pD a) ((b :: L).map pD) = PySem.W.minD (if PySem.W.dataLt (pD b) (pD a) = true then pD b else pD a) (L.map pD) := rfl
    obtain ⟨h1, h2⟩ := lt_pD b a
    cases hd : PySem.W.dataLt (pD b) (pD a) with
    | true =>
      obtain ⟨p, hp, e, hm⟩ := min_pD L b
      refine ⟨p, List.mem_cons_of_mem _ hp, ?_, fun q hq => ?_⟩
      · rw [step, hd]
        exact e
      · rcases List.mem_cons.mp hq with rfl | hq
        · exact Int.le_trans (hm b (List.mem_cons_self ..)) (h1 hd)
        · exact hm q hq
    | false =>
      obtain ⟨p, hp, e, hm⟩ := min_pD L a
      refine ⟨p, ?_, ?_, fun q hq => ?_⟩
      · rcases List.mem_cons.mp hp with rfl | hp
        · exact List.mem_cons_self ..
        · exact List.mem_cons_of_mem _ (List.mem_cons_of_mem _ hp)
      · rw [step, hd]
        exact e
      · rcases List.mem_cons.mp hq with rfl | hq
        · exact hm _ (List.mem_cons_self ..)
        · rcases List.mem_cons.mp hq with rfl | hq
          · exact Int.le_trans (hm a (List.mem_cons_self ..)) (h2 hd)
          · exact hm q (List.mem_cons_of_mem _ hq)
/-- the least of what f tells of the orders, with an order that has it -/
theorem min_over {f : List Int → Int} {L : List (List Int)} (hne : L ≠ []) {Q : Val → Prop} (q : ∀ o ∈ L, (∀ p ∈ L, f o ≤ f p) → Q (.p (.tuple [.int (f o), tuI o]))) : gMin [.list (L.map fun o => .tuple [.int (f o), tuI o])] Q := by
  obtain ⟨a, r, rfl⟩ := List.exists_cons_of_ne_nil hne
  have e : (a :: r).map (fun o => PyData.tuple [.int (f o), tuI o]) = ((f a, a) :: r.map fun o => (f o, o)).map pD := by
    rw [List.map_cons, List.map_cons, List.map_map]
    rfl
  rw [e]
  obtain ⟨p, hp, em, hm⟩ := min_pD (r.map fun o => (f o, o)) (f a, a)
  refine ⟨ord_pD ((f a, a) :: r.map fun o => (f o, o)), ?_⟩
  rw [show PySem.W.minD (pD (f a, a)) (List.map pD (r.map fun o => (f o, o))) = pD p from em]
  have hp2 : ∃ o ∈ a :: r, p = (f o, o) := by
    rcases List.mem_cons.mp hp with rfl | hp
    · exact ⟨a, List.mem_cons_self .., rfl⟩
    · obtain ⟨o, ho, rfl⟩ := List.mem_map.mp hp
      exact ⟨o, List.mem_cons_of_mem _ ho, rfl⟩
  obtain ⟨o, ho, rfl⟩ := hp2
  refine q o ho fun x hx => ?_
  refine hm (f x, x) ?_
  rcases List.mem_cons.mp hx with rfl | hx
  · exact List.mem_cons_self ..
  · exact List.mem_cons_of_mem _ (List.mem_map.mpr ⟨x, hx, rfl⟩)
def fMin (f : List Int → Int) (d : D) : Option D := some (.tuple [.int (f (unI d)), d])
theorem fMin_eq (f : List Int → Int) (L : List (List Int)) : (L.map tuI).filterMap (fMin f) = L.map fun o => .tuple [.int (f o), tuI o] := by
  rw [List.filterMap_map]
  have : ((fMin f) ∘ tuI) = fun o => some (PyData.tuple [.int (f o), tuI o]) := by
    funext o
    show some (PyData.tuple [.int (f (unI (tuI o))), tuI o]) = _
    rw [un_tu]
  rw [this]
  exact fm_some _ _
theorem ords_ne (n : Nat) : ∀ k, k ≤ n → ordF n k ≠ []
  | 0, _ => by intro z; cases z
  | k + 1, h => by
    obtain ⟨r, l, e⟩ := List.exists_cons_of_ne_nil (ords_ne n k (by omega))
    have hr : r.length = k := ordF_row n k r (by rw [e]; exact List.mem_cons_self ..)
    show (ordF n k).flatMap (exts n) ≠ []
    rw [e, List.flatMap_cons]
    intro z
    obtain ⟨z1, _⟩ := List.append_eq_nil_iff.mp z
    unfold exts at z1
    rw [List.map_eq_nil_iff, List.filter_eq_nil_iff] at z1
    -- n numbers, all of them in a row of k
    have sub : ∀ x ∈ rangeI n, x ∈ r := fun x hx => by
      have := z1 x hx
      simpa using this
    have nd : (rangeI n).Nodup := by
      have := rangeI_sorted n
      unfold rangeI
      rw [List.nodup_iff_pairwise_ne, List.pairwise_map]
      exact List.pairwise_lt_range.imp fun h => by omega
    have pig : ∀ (xs ys : List Int), xs.Nodup → (∀ x ∈ xs, x ∈ ys) → xs.length ≤ ys.length := fun xs => by
      induction xs with
      | nil => intro ys _ _; exact Nat.zero_le _
      | cons x xs ih =>
        intro ys hn hs
        have hx := hs x (List.mem_cons_self ..)
        have h1 := ih (ys.erase x) (List.nodup_cons.mp hn).2 fun y hy => (List.mem_erase_of_ne (fun z => (List.nodup_cons.mp hn).1 (by rw [← z]; exact hy))).mpr (hs y (List.mem_cons_of_mem _ hy))
        rw [List.length_erase_of_mem hx] at h1
        have := List.length_pos_of_mem hx
        rw [List.length_cons]
        omega
    have := pig (rangeI n) r nd sub
    rw [rangeI_len, hr] at this
    omega
def sp_least_at_once : Sd := fun ds Q => ∃ t, ds = [en2 t] ∧ Ok2 t ∧ ∀ o ∈ ords t.length, (∀ p ∈ ords t.length, barr t 0 0 o ≤ barr t 0 0 p) → Q (.tuple [.int (barr t 0 0 o), tuI o])
theorem p_least_at_once (ds : List D) (Q : D → Prop) (h : sp_least_at_once ds Q) : rd_least_at_once sp_check_twos sp_raw_barring sp_all_orders (ends Q) (startS n_least_at_once ds) := by
  obtain ⟨t, rfl, ok, q⟩ := h
  have hs : sizeLine = 16777216 := sizeLine_eq
  have h7 := ok.2.1
  refine ⟨rfl, t, rfl, ok, nh rfl, rfl, t.length, ?_, h7, (ords t.length).map tuI, rfl, lcK_run (fMin (barr t 0 0)) (fun d hd acc k hz q' => ?_) ?_ ?_⟩
  · show [PyData.int ((t.map pr).length : Int)] = _
    rw [List.length_map]
  · obtain ⟨o, ho, rfl⟩ := List.mem_map.mp hd
    refine ⟨rfl, t, o, rfl, ordF_in t.length t.length o ho, trivial, trivial, by show 2 ≤ sizeLine; omega, trivial, hz, ?_⟩
    have q' : k (acc ++ [PyData.tuple [.int (barr t 0 0 (unI (tuI o))), tuI o]]) := q'
    rw [un_tu] at q'
    exact q'
  · show 0 + ((ords t.length).map tuI).length ≤ sizeLine
    rw [List.length_map]
    have := ords_len h7
    omega
  · rw [List.nil_append, fMin_eq]
    exact min_over (f := barr t 0 0) (L := ords t.length) (Q := fun val => Z3.ret val (startS n_least_at_once [en2 t]) (ends Q).rt) (ords_ne _ _ (Nat.le_refl _)) fun o ho hm => q o ho hm

/-! ### threes -/
abbrev Th := List (Int × Int × Int)
def p3 (p : Int × Int × Int) : D := tuI [p.1, p.2.1, p.2.2]
def en3 (t : Th) : D := .tuple (t.map p3)
def at3 (t : Th) (i : Int) : Int × Int × Int := t.getD i.toNat (0, 0, 0)
def Ok3 (t : Th) : Prop := 1 ≤ t.length ∧ t.length ≤ 6 ∧ ∀ p ∈ t, (1 ≤ p.1 ∧ p.1 ≤ 60) ∧ (1 ≤ p.2.1 ∧ p.2.1 ≤ 60) ∧ 1 ≤ p.2.2 ∧ p.2.2 ≤ 60
theorem at_p3 {t : Th} {i : Int} (h : 0 ≤ i ∧ i < t.length) : L2.atI (t.map p3) i = some (p3 (at3 t i)) := atI_map p3 (0, 0, 0) h.1 h.2
def sp_check_threes : Sd := fun ds Q => ∃ t, ds = [en3 t] ∧ Ok3 t ∧ Q .none
theorem p_check_threes (ds : List D) (Q : D → Prop) (h : sp_check_threes ds Q) : rd_check_threes sp_is_sized sp_are_minutes (ends Q) (startS n_check_threes ds) := by
  obtain ⟨t, rfl, ok, q⟩ := h
  have hs : sizeLine = 16777216 := sizeLine_eq
  have h1 := ok.1
  have h2 := ok.2.1
  obtain ⟨bs, e1, e2⟩ := all_true (f := fun _ => some (.bool true)) (ds := t.map p3) fun _ _ => rfl
  refine ⟨rfl, t.map p3, 1, 6, rfl, _, rfl, ?_⟩
  show if (!(decide ((1 : Int) ≤ ((t.map p3).length : Int)) && decide (((t.map p3).length : Int) ≤ (6 : Int)))) = true then _ else _
  rw [List.length_map, decide_eq_true (by omega), decide_eq_true (by omega)]
  refine ⟨nh rfl, t.map p3, rfl, lcK_run (fun _ => some (.bool true)) (fun d hd' acc k hz' q' => ?_) ?_ ?_⟩
  · obtain ⟨p, hp, rfl⟩ := List.mem_map.mp hd'
    have := ok.2.2 p hp
    refine ⟨rfl, [p.1, p.2.1, p.2.2], 3, rfl, by omega, rfl, fun i hi => ?_, trivial, hz', q'⟩
    rcases List.mem_cons.mp hi with rfl | hi
    · exact this.1
    · rcases List.mem_cons.mp hi with rfl | hi
      · exact this.2.1
      · rcases List.mem_cons.mp hi with rfl | hi
        · exact this.2.2
        · cases hi
  · show 0 + (t.map p3).length ≤ _
    rw [List.length_map]
    omega
  · refine ⟨bs, e1, bs.all id, rfl, ?_⟩
    rw [e2]
    exact q
def ends3 (t : Th) : Int → Int → Int → List Int → Int
  | a, b, c, [] => c
  | a, b, c, i :: r => ends3 t (a + (at3 t i).1) (max (a + (at3 t i).1) b + (at3 t i).2.1) (max (max (a + (at3 t i).1) b + (at3 t i).2.1) c + (at3 t i).2.2) r
theorem for_raw_threes {t : Th} {M : SEnds} {o : D} : ∀ (ns : List Int) (a b c : Int) (x : SV), (∀ i ∈ ns, 0 ≤ i ∧ i < t.length) → (∀ a' b' x', M.nx [.p (en3 t), .p o, .own (.list [.int a', .int b', .int (ends3 t a b c ns)]), x']) →
    forK (gN 3) lb1_raw_threes M (ns.map .int) [.p (en3 t), .p o, .own (.list [.int a, .int b, .int c]), x]
  | [], a, b, c, x, _, q => q a b x
  | i :: r, a, b, c, x, hi, q => by
    have h1 := hi i (List.mem_cons_self ..)
    refine ⟨[.int a, .int b, .int c], rfl, 0, 0, _, rfl, rfl, rfl, _, at_p3 h1, _, rfl, _, rfl, ?_⟩
    refine ⟨[.int (a + (at3 t i).1), .int b, .int c], rfl, _, rfl, _, rfl, _, at_p3 h1, _, rfl, trivial, 1, 1, rfl, rfl, ?_⟩
    refine ⟨[.int (a + (at3 t i).1), .int ((if b > a + (at3 t i).1 then b else a + (at3 t i).1) + (at3 t i).2.1), .int c], rfl, _, rfl, _, rfl, _, at_p3 h1, _, rfl, trivial, 2, 2, rfl, rfl, ?_⟩
    show forK (gN 3) lb1_raw_threes M (r.map .int) [.p (en3 t), .p o, .own (.list [.int (a + (at3 t i).1), .int ((if b > a + (at3 t i).1 then b else a + (at3 t i).1) + (at3 t i).2.1),
      .int ((if c > (if b > a + (at3 t i).1 then b else a + (at3 t i).1) + (at3 t i).2.1 then c else (if b > a + (at3 t i).1 then b else a + (at3 t i).1) + (at3 t i).2.1) + (at3 t i).2.2)]), .p (.int i)]
    rw [max_if, max_if]
    exact for_raw_threes r _ _ _ _ (fun j hj => hi j (List.mem_cons_of_mem _ hj)) q
def sp_raw_threes : Sd := fun ds Q => ∃ t ns, ds = [en3 t, tuI ns] ∧ (∀ i ∈ ns, 0 ≤ i ∧ i < t.length) ∧ Q (.int (ends3 t 0 0 0 ns))
theorem p_raw_threes (ds : List D) (Q : D → Prop) (h : sp_raw_threes ds Q) : rd_raw_threes (ends Q) (startS n_raw_threes ds) := by
  obtain ⟨t, ns, rfl, hi, q⟩ := h
  have hs : sizeLine = 16777216 := sizeLine_eq
  refine ⟨trivial, trivial, trivial, by show 3 ≤ sizeLine; omega, ns.map .int, rfl, ?_⟩
  exact for_raw_threes ns 0 0 0 .any hi fun a' b' x' => ⟨_, rfl, q⟩
def sp_end_of_threes : Sd := fun ds Q => ∃ t ns, ds = [en3 t, tuI ns] ∧ Ok3 t ∧ Ord t.length ns ∧ Q (.int (ends3 t 0 0 0 ns))
theorem p_end_of_threes (ds : List D) (Q : D → Prop) (h : sp_end_of_threes ds Q) : rd_end_of_threes sp_check_threes sp_raw_threes sp_is_order (ends Q) (startS n_end_of_threes ds) := by
  obtain ⟨t, ns, rfl, ok, o, q⟩ := h
  have := ok.2.1
  refine ⟨rfl, t, rfl, ok, rfl, ns, t.length, ?_, by omega, o, true, rfl, rfl, t, ns, rfl, Ord.mem o, q⟩
  show [tuI ns, PyData.int ((t.map p3).length : Int)] = _
  rw [List.length_map]
def sp_least_of_threes : Sd := fun ds Q => ∃ t, ds = [en3 t] ∧ Ok3 t ∧ ∀ o ∈ ords t.length, (∀ p ∈ ords t.length, ends3 t 0 0 0 o ≤ ends3 t 0 0 0 p) → Q (.tuple [.int (ends3 t 0 0 0 o), tuI o])
theorem p_least_of_threes (ds : List D) (Q : D → Prop) (h : sp_least_of_threes ds Q) : rd_least_of_threes sp_check_threes sp_raw_threes sp_all_orders (ends Q) (startS n_least_of_threes ds) := by
  obtain ⟨t, rfl, ok, q⟩ := h
  have hs : sizeLine = 16777216 := sizeLine_eq
  have h7 := ok.2.1
  refine ⟨rfl, t, rfl, ok, nh rfl, rfl, t.length, ?_, by omega, (ords t.length).map tuI, rfl, lcK_run (fMin (ends3 t 0 0 0)) (fun d hd acc k hz q' => ?_) ?_ ?_⟩
  · show [PyData.int ((t.map p3).length : Int)] = _
    rw [List.length_map]
  · obtain ⟨o, ho, rfl⟩ := List.mem_map.mp hd
    refine ⟨rfl, t, o, rfl, ordF_in t.length t.length o ho, trivial, trivial, by show 2 ≤ sizeLine; omega, trivial, hz, ?_⟩
    have q' : k (acc ++ [PyData.tuple [.int (ends3 t 0 0 0 (unI (tuI o))), tuI o]]) := q'
    rw [un_tu] at q'
    exact q'
  · show 0 + ((ords t.length).map tuI).length ≤ sizeLine
    rw [List.length_map]
    have := ords_len (n := t.length) (by omega)
    omega
  · rw [List.nil_append, fMin_eq]
    exact min_over (f := ends3 t 0 0 0) (L := ords t.length) (Q := fun val => Z3.ret val (startS n_least_of_threes [en3 t]) (ends Q).rt) (ords_ne _ _ (Nat.le_refl _)) fun o ho hm => q o ho hm
def maxI : List Int → Int
  | [] => 0
  | n :: ns => ns.foldl max n
def isLight (t : Th) : Bool := decide (maxI (t.map fun p => p.2.1) ≤ minI (t.map fun p => p.1)) || decide (maxI (t.map fun p => p.2.1) ≤ minI (t.map fun p => p.2.2))
def fSel (f : Int × Int × Int → Int) : D → Option D
  | .tuple [.int a, .int b, .int c] => some (.int (f (a, b, c)))
  | _ => none
theorem fSel_eq (f : Int × Int × Int → Int) (t : Th) : (t.map p3).filterMap (fSel f) = (t.map f).map .int := by
  rw [List.filterMap_map, List.map_map]
  exact fm_some _ _
def sp_is_middle_light : Sd := fun ds Q => ∃ t, ds = [en3 t] ∧ Ok3 t ∧ Q (.bool (isLight t))
theorem p_is_middle_light (ds : List D) (Q : D → Prop) (h : sp_is_middle_light ds Q) : rd_is_middle_light sp_check_threes (ends Q) (startS n_is_middle_light ds) := by
  obtain ⟨t, rfl, ok, q⟩ := h
  have hs : sizeLine = 16777216 := sizeLine_eq
  have h1 := ok.1
  have h2 := ok.2.1
  have hne : t ≠ [] := fun z => by rw [z] at h1; simp at h1
  have lenT : 0 + (t.map p3).length ≤ sizeLine := by
    rw [List.length_map]
    omega
  obtain ⟨a, r, e⟩ := List.exists_cons_of_ne_nil hne
  refine ⟨rfl, t, rfl, ok, nh rfl, t.map p3, rfl, lcK_run (fSel fun p => p.2.1) (fun d hd acc k hz q' => ?_) lenT ?_⟩
  · obtain ⟨p, _, rfl⟩ := List.mem_map.mp hd
    exact ⟨_, rfl, rfl, _, _, rfl, _, _, rfl, _, _, rfl, rfl, trivial, hz, q'⟩
  · rw [List.nil_append, fSel_eq]
    have e1 : (t.map fun p => p.2.1) = a.2.1 :: r.map fun p => p.2.1 := by rw [e]; rfl
    rw [e1]
    refine ⟨ord_ints (a.2.1 :: r.map fun p : Int × Int × Int => p.2.1), ?_⟩
    rw [show PySem.W.maxD (PyData.int a.2.1) (List.map PyData.int (r.map fun p => p.2.1)) = .int (maxI (a.2.1 :: r.map fun p => p.2.1)) from PySem.W.maxD_ints _ _, ← e1]
    refine ⟨nh rfl, t.map p3, rfl, lcK_run (fSel fun p => p.1) (fun d hd acc k hz q' => ?_) lenT ?_⟩
    · obtain ⟨p, _, rfl⟩ := List.mem_map.mp hd
      exact ⟨_, rfl, trivial, hz, q'⟩
    · rw [List.nil_append, fSel_eq]
      have e2 : (t.map fun p => p.1) = a.1 :: r.map fun p => p.1 := by rw [e]; rfl
      rw [e2]
      refine ⟨ord_ints (a.1 :: r.map fun p : Int × Int × Int => p.1), ?_⟩
      rw [show PySem.W.minD (PyData.int a.1) (List.map PyData.int (r.map fun p => p.1)) = .int (minI (a.1 :: r.map fun p => p.1)) from PySem.W.minD_ints _ _, ← e2]
      refine ⟨_, rfl, ?_⟩
      have q : Q (.bool (decide (maxI (t.map fun p => p.2.1) ≤ minI (t.map fun p => p.1)) || decide (maxI (t.map fun p => p.2.1) ≤ minI (t.map fun p => p.2.2)))) := q
      by_cases hb : maxI (t.map fun p => p.2.1) ≤ minI (t.map fun p => p.1)
      · rw [decide_eq_true hb] at q
        exact ifT (decide_eq_true hb) q
      · rw [decide_eq_false hb] at q
        refine ifF (decide_eq_false hb) ⟨nh rfl, t.map p3, rfl, lcK_run (fSel fun p => p.2.2) (fun d hd acc k hz q' => ?_) lenT ?_⟩
        · obtain ⟨p, _, rfl⟩ := List.mem_map.mp hd
          exact ⟨_, rfl, trivial, hz, q'⟩
        · rw [List.nil_append, fSel_eq]
          have e3 : (t.map fun p => p.2.2) = a.2.2 :: r.map fun p => p.2.2 := by rw [e]; rfl
          rw [e3]
          refine ⟨ord_ints (a.2.2 :: r.map fun p : Int × Int × Int => p.2.2), ?_⟩
          rw [show PySem.W.minD (PyData.int a.2.2) (List.map PyData.int (r.map fun p => p.2.2)) = .int (minI (a.2.2 :: r.map fun p => p.2.2)) from PySem.W.minD_ints _ _, ← e3]
          exact q
end Gk01

set_option maxRecDepth 100000
set_option maxHeartbeats 4000000
namespace Gk01
open PySem PySem.Spec PyProof.Rows L2 Z3

/-! ### two stations: the longest way -/
abbrev P2 := Int × Int
def sumA (L : List P2) : Int := (L.map (·.1)).sum
def sumB (L : List P2) : Int := (L.map (·.2)).sum
def nonN (L : List P2) : Prop := ∀ p ∈ L, 0 ≤ p.1 ∧ 0 ≤ p.2
def way : List P2 → Int
  | [] => 0
  | p :: r => p.1 + max (p.2 + sumB r) (way r)
def swp (p : P2) : P2 := (p.2, p.1)
def rsw (L : List P2) : List P2 := L.reverse.map swp
theorem nonN.tl {p : P2} {r : List P2} (h : nonN (p :: r)) : nonN r := fun q hq => h q (List.mem_cons_of_mem _ hq)
theorem nonN.hd {p : P2} {r : List P2} (h : nonN (p :: r)) : 0 ≤ p.1 ∧ 0 ≤ p.2 := h p (List.mem_cons_self ..)
theorem sumB_cons (p : P2) (r : List P2) : sumB (p :: r) = p.2 + sumB r := by unfold sumB; rw [List.map_cons, List.sum_cons]
theorem sumA_cons (p : P2) (r : List P2) : sumA (p :: r) = p.1 + sumA r := by unfold sumA; rw [List.map_cons, List.sum_cons]
theorem sumB_app (r s : List P2) : sumB (r ++ s) = sumB r + sumB s := by unfold sumB; rw [List.map_append, List.sum_append]
theorem sumA_app (r s : List P2) : sumA (r ++ s) = sumA r + sumA s := by unfold sumA; rw [List.map_append, List.sum_append]
theorem sumB_nn : ∀ {L : List P2}, nonN L → 0 ≤ sumB L
  | [], _ => Int.le_refl _
  | p :: r, h => by
    rw [sumB_cons]
    have := sumB_nn h.tl
    have := h.hd
    omega
theorem way_ge : ∀ {L : List P2}, nonN L → sumB L ≤ way L
  | [], _ => Int.le_refl _
  | p :: r, h => by
    rw [sumB_cons]
    have := h.hd
    show p.2 + sumB r ≤ p.1 + max (p.2 + sumB r) (way r)
    omega
theorem way_back : ∀ {r : List P2} {p : P2}, nonN r → 0 ≤ p.1 → 0 ≤ p.2 → way (r ++ [p]) = p.2 + max (sumA r + p.1) (way r)
  | [], p, _, h1, h2 => by
    show p.1 + max (p.2 + 0) 0 = p.2 + max (0 + p.1) 0
    omega
  | q :: r, p, h, h1, h2 => by
    have ih := way_back (p := p) h.tl h1 h2
    show q.1 + max (q.2 + sumB (r ++ [p])) (way (r ++ [p])) = p.2 + max (sumA (q :: r) + p.1) (q.1 + max (q.2 + sumB r) (way r))
    rw [ih, sumB_app, sumA_cons, show sumB [p] = p.2 from by rw [sumB_cons]; exact Int.add_zero _]
    omega
theorem rsw_cons (p : P2) (r : List P2) : rsw (p :: r) = rsw r ++ [swp p] := by
  unfold rsw
  rw [List.reverse_cons, List.map_append]
  rfl
theorem nonN_rsw {L : List P2} (h : nonN L) : nonN (rsw L) := fun p hp => by
  obtain ⟨q, hq, rfl⟩ := List.mem_map.mp hp
  have := h q (List.mem_reverse.mp hq)
  exact ⟨this.2, this.1⟩
theorem sumA_rsw : ∀ L : List P2, sumA (rsw L) = sumB L
  | [] => rfl
  | p :: r => by
    rw [rsw_cons, sumA_app, sumA_rsw r, sumB_cons, sumA_cons]
    show sumB r + (p.2 + 0) = p.2 + sumB r
    omega
theorem way_rsw : ∀ {L : List P2}, nonN L → way (rsw L) = way L
  | [], _ => rfl
  | p :: r, h => by
    have hp := h.hd
    rw [rsw_cons, way_back (p := swp p) (nonN_rsw h.tl) hp.2 hp.1, way_rsw h.tl, sumA_rsw]
    show p.1 + max (sumB r + p.2) (way r) = p.1 + max (p.2 + sumB r) (way r)
    rw [Int.add_comm (sumB r)]
theorem at2_nn {t : Tw} (ok : Ok2 t) (i : Int) : 0 ≤ (at2 t i).1 ∧ 0 ≤ (at2 t i).2 := by
  unfold at2
  rw [List.getD_eq_getElem?_getD]
  cases e : t[i.toNat]? with
  | none => exact ⟨Int.le_refl _, Int.le_refl _⟩
  | some p =>
    have := ok.2.2 p (List.mem_of_getElem? e)
    exact ⟨by show 0 ≤ p.1; omega, by show 0 ≤ p.2; omega⟩
theorem nonN_at {t : Tw} (ok : Ok2 t) (ns : List Int) : nonN (ns.map (at2 t)) := fun p hp => by
  obtain ⟨i, _, rfl⟩ := List.mem_map.mp hp
  exact at2_nn ok i
theorem ends2_way {t : Tw} (ok : Ok2 t) : ∀ (ns : List Int) (b s : Int), b ≤ s → (ends2 t b s ns).2 = max (s + sumB (ns.map (at2 t))) (b + way (ns.map (at2 t)))
  | [], b, s, h => by
    show s = max (s + 0) (b + 0)
    omega
  | i :: r, b, s, h => by
    have hp := at2_nn ok i
    show (ends2 t (b + (at2 t i).1) (max (b + (at2 t i).1) s + (at2 t i).2) r).2 = _
    rw [ends2_way ok r _ _ (by omega), List.map_cons, sumB_cons]
    show _ = max (s + ((at2 t i).2 + sumB (r.map (at2 t)))) (b + ((at2 t i).1 + max ((at2 t i).2 + sumB (r.map (at2 t))) (way (r.map (at2 t)))))
    omega
theorem end2_way {t : Tw} (ok : Ok2 t) (ns : List Int) : end2 t ns = way (ns.map (at2 t)) := by
  unfold end2
  rw [ends2_way ok ns 0 0 (Int.le_refl _)]
  have := way_ge (nonN_at ok ns)
  omega
/-! turned about -/
def sw (t : Tw) : Tw := t.map swp
theorem sw_ok {t : Tw} (ok : Ok2 t) : Ok2 (sw t) := by
  refine ⟨by unfold sw; rw [List.length_map]; exact ok.1, by unfold sw; rw [List.length_map]; exact ok.2.1, fun p hp => ?_⟩
  obtain ⟨q, hq, rfl⟩ := List.mem_map.mp hp
  exact ⟨(ok.2.2 q hq).2, (ok.2.2 q hq).1⟩
theorem sw_len (t : Tw) : (sw t).length = t.length := by unfold sw; rw [List.length_map]
theorem sw_sw (t : Tw) : sw (sw t) = t := by
  unfold sw
  rw [List.map_map]
  have : ∀ p ∈ t, (swp ∘ swp) p = p := fun p _ => rfl
  rw [List.map_congr_left this, List.map_id']
theorem at_sw (t : Tw) (i : Int) : at2 (sw t) i = swp (at2 t i) := by
  unfold at2 sw
  rw [List.getD_eq_getElem?_getD, List.getD_eq_getElem?_getD, List.getElem?_map]
  cases t[i.toNat]? <;> rfl
theorem map_sw (t : Tw) (ns : List Int) : ns.reverse.map (at2 (sw t)) = rsw (ns.map (at2 t)) := by
  unfold rsw
  rw [← List.map_reverse, List.map_map]
  apply List.map_congr_left
  intro i _
  exact at_sw t i
theorem end2_sw {t : Tw} (ok : Ok2 t) (ns : List Int) : end2 (sw t) ns.reverse = end2 t ns := by
  rw [end2_way (sw_ok ok), end2_way ok, map_sw, way_rsw (nonN_at ok ns)]
theorem Ord.rev {n : Nat} {ns : List Int} (h : Ord n ns) : Ord n ns.reverse := (List.reverse_perm ns).trans h

/-! ### at once, without a place -/
theorem once_barr (t : Tw) : ∀ (ns : List Int) (b s : Int), once t b s ns = barr t b s ns
  | [], _, _ => rfl
  | i :: r, b, s => by
    have e : max b (s - (at2 t i).1) + (at2 t i).1 = max (b + (at2 t i).1) s := by omega
    show once t (max b (s - (at2 t i).1) + (at2 t i).1) (max b (s - (at2 t i).1) + (at2 t i).1 + (at2 t i).2) r = barr t (max (b + (at2 t i).1) s) (max (b + (at2 t i).1) s + (at2 t i).2) r
    rw [e]
    exact once_barr t r _ _
def tie : Int → List P2 → Int → Int
  | x, [], y => max x y
  | x, p :: r, y => max p.1 x + tie p.2 r y
theorem tie_back : ∀ (r : List P2) (p : P2) (x y : Int), tie x (r ++ [p]) y = tie x r p.1 + max p.2 y
  | [], p, x, y => by
    show max p.1 x + max p.2 y = max x p.1 + max p.2 y
    omega
  | q :: r, p, x, y => by
    show max q.1 x + tie q.2 (r ++ [p]) y = max q.1 x + tie q.2 r p.1 + max p.2 y
    rw [tie_back r p]
    omega
theorem tie_rsw : ∀ (L : List P2) (x y : Int), tie y (rsw L) x = tie x L y
  | [], x, y => by show max y x = max x y; omega
  | p :: r, x, y => by
    rw [rsw_cons, tie_back, tie_rsw r]
    show tie p.2 r y + max p.1 x = max p.1 x + tie p.2 r y
    omega
theorem barr_tie {t : Tw} (ok : Ok2 t) : ∀ (ns : List Int) (l x : Int), 0 ≤ x → barr t l (l + x) ns = l + tie x (ns.map (at2 t)) 0
  | [], l, x, h => by show l + x = l + max x 0; omega
  | i :: r, l, x, h => by
    have hp := at2_nn ok i
    have e : max (l + (at2 t i).1) (l + x) = l + max (at2 t i).1 x := by omega
    show barr t (max (l + (at2 t i).1) (l + x)) (max (l + (at2 t i).1) (l + x) + (at2 t i).2) r = l + (max (at2 t i).1 x + tie (at2 t i).2 (r.map (at2 t)) 0)
    rw [barr_tie ok r _ _ hp.2, e]
    omega
theorem barr_way {t : Tw} (ok : Ok2 t) (ns : List Int) : barr t 0 0 ns = tie 0 (ns.map (at2 t)) 0 := by
  have := barr_tie ok ns 0 0 (Int.le_refl _)
  rw [Int.zero_add, Int.zero_add] at this
  exact this
theorem barr_sw {t : Tw} (ok : Ok2 t) (ns : List Int) : barr (sw t) 0 0 ns.reverse = barr t 0 0 ns := by
  rw [barr_way (sw_ok ok), barr_way ok, map_sw, tie_rsw]

/-! ### three stations -/
abbrev P3 := Int × Int × Int
def sumC (L : List P3) : Int := (L.map (·.2.2)).sum
def ab (p : P3) : P2 := (p.1, p.2.1)
def bc (p : P3) : P2 := (p.2.1, p.2.2)
def way3 : List P3 → Int
  | [] => 0
  | p :: r => p.1 + max (p.2.1 + max (p.2.2 + sumB (r.map bc)) (way (r.map bc))) (way3 r)
def nonN3 (L : List P3) : Prop := ∀ p ∈ L, 0 ≤ p.1 ∧ 0 ≤ p.2.1 ∧ 0 ≤ p.2.2
theorem nonN3.tl {p : P3} {r : List P3} (h : nonN3 (p :: r)) : nonN3 r := fun q hq => h q (List.mem_cons_of_mem _ hq)
theorem nonN3.hd {p : P3} {r : List P3} (h : nonN3 (p :: r)) : 0 ≤ p.1 ∧ 0 ≤ p.2.1 ∧ 0 ≤ p.2.2 := h p (List.mem_cons_self ..)
theorem nonN3.ab {L : List P3} (h : nonN3 L) : nonN (L.map ab) := fun p hp => by
  obtain ⟨q, hq, rfl⟩ := List.mem_map.mp hp
  exact ⟨(h q hq).1, (h q hq).2.1⟩
theorem nonN3.bc {L : List P3} (h : nonN3 L) : nonN (L.map bc) := fun p hp => by
  obtain ⟨q, hq, rfl⟩ := List.mem_map.mp hp
  exact (h q hq).2
theorem way3_back : ∀ {r : List P3} {p : P3}, nonN3 r → 0 ≤ p.1 → 0 ≤ p.2.1 → 0 ≤ p.2.2 → way3 (r ++ [p]) = p.2.2 + max (p.2.1 + max (p.1 + sumA (r.map ab)) (way (r.map ab))) (way3 r)
  | [], p, _, h1, h2, h3 => by
    show p.1 + max (p.2.1 + max (p.2.2 + 0) 0) 0 = p.2.2 + max (p.2.1 + max (p.1 + 0) 0) 0
    omega
  | q :: r, p, h, h1, h2, h3 => by
    have ih := way3_back (p := p) h.tl h1 h2 h3
    have e1 : way ((r ++ [p]).map bc) = p.2.2 + max (sumA (r.map bc) + p.2.1) (way (r.map bc)) := by
      rw [List.map_append]
      exact way_back (p := bc p) h.tl.bc h2 h3
    have e2 : sumB ((r ++ [p]).map bc) = sumB (r.map bc) + p.2.2 := by
      rw [List.map_append, sumB_app]
      show sumB (r.map bc) + sumB [bc p] = _
      rw [sumB_cons]
      show sumB (r.map bc) + (p.2.2 + 0) = _
      omega
    have e3 : sumA (r.map bc) = sumB (r.map ab) := by
      unfold sumA sumB
      rw [List.map_map, List.map_map]
      rfl
    show q.1 + max (q.2.1 + max (q.2.2 + sumB ((r ++ [p]).map bc)) (way ((r ++ [p]).map bc))) (way3 (r ++ [p])) =
      p.2.2 + max (p.2.1 + max (p.1 + sumA ((q :: r).map ab)) (q.1 + max (q.2.1 + sumB (r.map ab)) (way (r.map ab)))) (q.1 + max (q.2.1 + max (q.2.2 + sumB (r.map bc)) (way (r.map bc))) (way3 r))
    rw [ih, e1, e2, e3, List.map_cons, sumA_cons]
    show _ = p.2.2 + max (p.2.1 + max (p.1 + (q.1 + sumA (r.map ab))) (q.1 + max (q.2.1 + sumB (r.map ab)) (way (r.map ab)))) (q.1 + max (q.2.1 + max (q.2.2 + sumB (r.map bc)) (way (r.map bc))) (way3 r))
    omega
def sw3 (p : P3) : P3 := (p.2.2, p.2.1, p.1)
def rsw3 (L : List P3) : List P3 := L.reverse.map sw3
theorem rsw3_cons (p : P3) (r : List P3) : rsw3 (p :: r) = rsw3 r ++ [sw3 p] := by
  unfold rsw3
  rw [List.reverse_cons, List.map_append]
  rfl
theorem rsw3_ab (L : List P3) : (rsw3 L).map ab = rsw (L.map bc) := by
  unfold rsw3 rsw
  rw [List.map_map, ← List.map_reverse, List.map_map]
  rfl
theorem nonN3_rsw {L : List P3} (h : nonN3 L) : nonN3 (rsw3 L) := fun p hp => by
  obtain ⟨q, hq, rfl⟩ := List.mem_map.mp hp
  have := h q (List.mem_reverse.mp hq)
  exact ⟨this.2.2, this.2.1, this.1⟩
theorem way3_rsw : ∀ {L : List P3}, nonN3 L → way3 (rsw3 L) = way3 L
  | [], _ => rfl
  | p :: r, h => by
    have hp := h.hd
    rw [rsw3_cons, way3_back (p := sw3 p) (nonN3_rsw h.tl) hp.2.2 hp.2.1 hp.1, way3_rsw h.tl, rsw3_ab, sumA_rsw, way_rsw h.tl.bc]
    rfl
theorem at3_nn {t : Th} (ok : Ok3 t) (i : Int) : 0 ≤ (at3 t i).1 ∧ 0 ≤ (at3 t i).2.1 ∧ 0 ≤ (at3 t i).2.2 := by
  unfold at3
  rw [List.getD_eq_getElem?_getD]
  cases e : t[i.toNat]? with
  | none => exact ⟨Int.le_refl _, Int.le_refl _, Int.le_refl _⟩
  | some p =>
    have := ok.2.2 p (List.mem_of_getElem? e)
    exact ⟨by show 0 ≤ p.1; omega, by show 0 ≤ p.2.1; omega, by show 0 ≤ p.2.2; omega⟩
theorem nonN3_at {t : Th} (ok : Ok3 t) (ns : List Int) : nonN3 (ns.map (at3 t)) := fun p hp => by
  obtain ⟨i, _, rfl⟩ := List.mem_map.mp hp
  exact at3_nn ok i
theorem ends3_way {t : Th} (ok : Ok3 t) : ∀ (ns : List Int) (a b c : Int), a ≤ b → b ≤ c → ends3 t a b c ns = max (c + sumB ((ns.map (at3 t)).map bc)) (max (b + way ((ns.map (at3 t)).map bc)) (a + way3 (ns.map (at3 t))))
  | [], a, b, c, h1, h2 => by
    show c = max (c + 0) (max (b + 0) (a + 0))
    omega
  | i :: r, a, b, c, h1, h2 => by
    have hp := at3_nn ok i
    show ends3 t (a + (at3 t i).1) (max (a + (at3 t i).1) b + (at3 t i).2.1) (max (max (a + (at3 t i).1) b + (at3 t i).2.1) c + (at3 t i).2.2) r = _
    rw [ends3_way ok r _ _ _ (by omega) (by omega), List.map_cons, List.map_cons, sumB_cons]
    show _ = max (c + ((at3 t i).2.2 + sumB ((r.map (at3 t)).map bc))) (max (b + ((at3 t i).2.1 + max ((at3 t i).2.2 + sumB ((r.map (at3 t)).map bc)) (way ((r.map (at3 t)).map bc))))
      (a + ((at3 t i).1 + max ((at3 t i).2.1 + max ((at3 t i).2.2 + sumB ((r.map (at3 t)).map bc)) (way ((r.map (at3 t)).map bc))) (way3 (r.map (at3 t))))))
    omega
theorem way3_ge : ∀ {L : List P3}, nonN3 L → sumB (L.map bc) ≤ way3 L ∧ way (L.map bc) ≤ way3 L
  | [], _ => ⟨Int.le_refl _, Int.le_refl _⟩
  | p :: r, h => by
    have hp := h.hd
    rw [List.map_cons, sumB_cons]
    refine ⟨?_, ?_⟩
    · show p.2.2 + sumB (r.map bc) ≤ p.1 + max (p.2.1 + max (p.2.2 + sumB (r.map bc)) (way (r.map bc))) (way3 r)
      omega
    · show p.2.1 + max (p.2.2 + sumB (r.map bc)) (way (r.map bc)) ≤ p.1 + max (p.2.1 + max (p.2.2 + sumB (r.map bc)) (way (r.map bc))) (way3 r)
      omega
theorem end3_way {t : Th} (ok : Ok3 t) (ns : List Int) : ends3 t 0 0 0 ns = way3 (ns.map (at3 t)) := by
  rw [ends3_way ok ns 0 0 0 (Int.le_refl _) (Int.le_refl _)]
  have := way3_ge (nonN3_at ok ns)
  omega
def swT (t : Th) : Th := t.map sw3
theorem swT_ok {t : Th} (ok : Ok3 t) : Ok3 (swT t) := by
  refine ⟨by unfold swT; rw [List.length_map]; exact ok.1, by unfold swT; rw [List.length_map]; exact ok.2.1, fun p hp => ?_⟩
  obtain ⟨q, hq, rfl⟩ := List.mem_map.mp hp
  exact ⟨(ok.2.2 q hq).2.2, (ok.2.2 q hq).2.1, (ok.2.2 q hq).1⟩
theorem swT_len (t : Th) : (swT t).length = t.length := by unfold swT; rw [List.length_map]
theorem at_swT (t : Th) (i : Int) : at3 (swT t) i = sw3 (at3 t i) := by
  unfold at3 swT
  rw [List.getD_eq_getElem?_getD, List.getD_eq_getElem?_getD, List.getElem?_map]
  cases t[i.toNat]? <;> rfl
theorem map_swT (t : Th) (ns : List Int) : ns.reverse.map (at3 (swT t)) = rsw3 (ns.map (at3 t)) := by
  unfold rsw3
  rw [← List.map_reverse, List.map_map]
  apply List.map_congr_left
  intro i _
  exact at_swT t i
theorem end3_sw {t : Th} (ok : Ok3 t) (ns : List Int) : ends3 (swT t) 0 0 0 ns.reverse = ends3 t 0 0 0 ns := by
  rw [end3_way (swT_ok ok), end3_way ok, map_swT, way3_rsw (nonN3_at ok ns)]
theorem light_sw (t : Th) : isLight (swT t) = isLight t := by
  unfold isLight swT
  rw [List.map_map, List.map_map, List.map_map]
  show (decide (maxI (t.map fun p => p.2.1) ≤ minI (t.map fun p => p.2.2)) || decide (maxI (t.map fun p => p.2.1) ≤ minI (t.map fun p => p.1))) = _
  rw [Bool.or_comm]

/-! ### the law's own ends -/
def rows2 (t : Tw) : List (List Int) := t.map fun p => [p.1, p.2]
theorem rows2_en (t : Tw) : rowsE (rows2 t) = en2 t := by
  unfold rowsE rows2 en2
  rw [List.map_map]
  rfl
theorem row2_at {t : Tw} {i : Int} (h : 0 ≤ i ∧ i < t.length) : rowAt (rows2 t) i = [(at2 t i).1, (at2 t i).2] := by
  unfold rowAt rows2 at2
  rw [List.getD_eq_getElem?_getD, List.getD_eq_getElem?_getD, List.getElem?_map, List.getElem?_eq_getElem (by omega)]
  rfl
theorem flow2 {t : Tw} (ok : Ok2 t) : ∀ (ns : List Int) (b s : Int), 0 ≤ b → (∀ i ∈ ns, 0 ≤ i ∧ i < t.length) → flow (rows2 t) [b, s] ns = [(ends2 t b s ns).1, (ends2 t b s ns).2]
  | [], _, _, _, _ => rfl
  | i :: r, b, s, h, hi => by
    have hp := at2_nn ok i
    show flow (rows2 t) (fl 0 [b, s] (rowAt (rows2 t) i)) r = _
    rw [row2_at (hi i (List.mem_cons_self ..))]
    show flow (rows2 t) [max 0 b + (at2 t i).1, max (max 0 b + (at2 t i).1) s + (at2 t i).2] r = _
    rw [show max 0 b = b by omega]
    exact flow2 ok r _ _ (by omega) fun j hj => hi j (List.mem_cons_of_mem _ hj)
theorem lawEnd2 {t : Tw} (ok : Ok2 t) {ns : List Int} (hi : ∀ i ∈ ns, 0 ≤ i ∧ i < t.length) : lawEnd (rows2 t) ns = end2 t ns := by
  have h1 := ok.1
  unfold lawEnd
  rw [row2_at (t := t) (i := 0) ⟨Int.le_refl _, by omega⟩]
  show (flow (rows2 t) [0, 0] ns).getLast?.getD 0 = _
  rw [flow2 ok ns 0 0 (Int.le_refl _) hi]
  rfl
def rows3 (t : Th) : List (List Int) := t.map fun p => [p.1, p.2.1, p.2.2]
theorem rows3_en (t : Th) : rowsE (rows3 t) = en3 t := by
  unfold rowsE rows3 en3
  rw [List.map_map]
  rfl
theorem row3_at {t : Th} {i : Int} (h : 0 ≤ i ∧ i < t.length) : rowAt (rows3 t) i = [(at3 t i).1, (at3 t i).2.1, (at3 t i).2.2] := by
  unfold rowAt rows3 at3
  rw [List.getD_eq_getElem?_getD, List.getD_eq_getElem?_getD, List.getElem?_map, List.getElem?_eq_getElem (by omega)]
  rfl
theorem flow3 {t : Th} (ok : Ok3 t) : ∀ (ns : List Int) (a b c : Int), 0 ≤ a → (∀ i ∈ ns, 0 ≤ i ∧ i < t.length) → ∃ x y, flow (rows3 t) [a, b, c] ns = [x, y, ends3 t a b c ns]
  | [], a, b, _, _, _ => ⟨a, b, rfl⟩
  | i :: r, a, b, c, h, hi => by
    have hp := at3_nn ok i
    show ∃ x y, flow (rows3 t) (fl 0 [a, b, c] (rowAt (rows3 t) i)) r = _
    rw [row3_at (hi i (List.mem_cons_self ..))]
    show ∃ x y, flow (rows3 t) [max 0 a + (at3 t i).1, max (max 0 a + (at3 t i).1) b + (at3 t i).2.1, max (max (max 0 a + (at3 t i).1) b + (at3 t i).2.1) c + (at3 t i).2.2] r = _
    rw [show max 0 a = a by omega]
    exact flow3 ok r _ _ _ (by omega) fun j hj => hi j (List.mem_cons_of_mem _ hj)
theorem lawEnd3 {t : Th} (ok : Ok3 t) {ns : List Int} (hi : ∀ i ∈ ns, 0 ≤ i ∧ i < t.length) : lawEnd (rows3 t) ns = ends3 t 0 0 0 ns := by
  have h1 := ok.1
  unfold lawEnd
  rw [row3_at (t := t) (i := 0) ⟨Int.le_refl _, by omega⟩]
  show (flow (rows3 t) [0, 0, 0] ns).getLast?.getD 0 = _
  obtain ⟨x, y, e⟩ := flow3 ok ns 0 0 0 (Int.le_refl _) hi
  rw [e]
  rfl
end Gk01

set_option maxRecDepth 100000
set_option maxHeartbeats 4000000
namespace Gk01
open PySem PySem.Spec PyProof.Rows L2 Z3

/-! ### sums over the dishes -/
theorem sum_perm {xs ys : List Int} (h : xs.Perm ys) : xs.sum = ys.sum := by
  induction h with
  | nil => rfl
  | cons x _ ih => rw [List.sum_cons, List.sum_cons, ih]
  | swap x y l => rw [List.sum_cons, List.sum_cons, List.sum_cons, List.sum_cons]; omega
  | trans _ _ h1 h2 => exact h1.trans h2
/-- what a dish puts to a paper of the first side -/
def part (t : Tw) (lot : List Int) (i : Int) : Int := if i ∈ lot then (at2 t i).2 else min (at2 t i).1 (at2 t i).2
theorem enum_range (t : Tw) : enumT t = (rangeI t.length).map fun i => (i, at2 t i) := by
  unfold enumT rangeI
  rw [List.map_map]
  apply List.ext_getElem?
  intro k
  rw [List.getElem?_mapIdx, List.getElem?_map]
  by_cases h : k < t.length
  · rw [List.getElem?_range h, List.getElem?_eq_getElem h]
    show some ((k : Int), t[k]) = some ((k : Int), at2 t (k : Int))
    unfold at2
    rw [Int.toNat_natCast, List.getD_eq_getElem?_getD, List.getElem?_eq_getElem h]
    rfl
  · rw [List.getElem?_eq_none (by omega), List.getElem?_eq_none (by rw [List.length_range]; omega)]
    rfl
theorem nodup_range (n : Nat) : (rangeI n).Nodup := by
  unfold rangeI
  rw [List.nodup_iff_pairwise_ne, List.pairwise_map]
  exact List.pairwise_lt_range.imp fun h => by omega
theorem sub_filter : ∀ {l ns : List Int}, l.Sublist ns → ns.Nodup → ns.filter (fun i => decide (i ∈ l)) = l
  | l, [], s, _ => by rw [List.sublist_nil.mp s]; rfl
  | l, n :: ns, s, nd => by
    obtain ⟨nn, nd⟩ := List.nodup_cons.mp nd
    cases s with
    | cons _ s =>
      rw [List.filter_cons, if_neg (by
        rw [decide_eq_false (fun z => nn (s.subset z))]
        exact Bool.false_ne_true)]
      exact sub_filter s nd
    | @cons_cons l2 _ _ s =>
      rw [List.filter_cons, if_pos (by simp)]
      have : ns.filter (fun i => decide (i ∈ n :: l2)) = ns.filter fun i => decide (i ∈ l2) := by
        apply List.filter_congr
        intro i hi
        have : i ≠ n := fun z => nn (z ▸ hi)
        simp [this]
      rw [this, sub_filter s nd]
theorem sum_split (f g : Int → Int) (P : Int → Prop) [DecidablePred P] : ∀ ns : List Int, (ns.map fun i => if P i then f i else g i).sum = ((ns.filter fun i => decide (P i)).map f).sum + (ns.filterMap fun i => if P i then none else some (g i)).sum
  | [] => rfl
  | n :: ns => by
    have ih := sum_split f g P ns
    rw [List.map_cons, List.sum_cons, ih, List.filter_cons]
    by_cases h : P n
    · rw [List.filterMap_cons_none (f := fun i => if P i then none else some (g i)) (if_pos h), if_pos h, if_pos (decide_eq_true h), List.map_cons, List.sum_cons]
      omega
    · rw [List.filterMap_cons_some (f := fun i => if P i then none else some (g i)) (if_neg h), if_neg h, if_neg (by rw [decide_eq_false h]; exact Bool.false_ne_true), List.sum_cons]
      omega
theorem rest_range (t : Tw) (lot : List Int) : restL t lot = (rangeI t.length).filterMap fun i => if i ∈ lot then none else some (min (at2 t i).1 (at2 t i).2) := by
  unfold restL
  rw [enum_range, List.filterMap_map]
  rfl
theorem worth_part (t : Tw) {lot : List Int} (h : lot.Sublist (rangeI t.length)) : worth true t lot = minI (lot.map fun i => (at2 t i).1) + ((rangeI t.length).map (part t lot)).sum := by
  unfold worth part
  rw [sum_split (fun i => (at2 t i).2) (fun i => min (at2 t i).1 (at2 t i).2) (fun i => i ∈ lot), sub_filter h (nodup_range _), rest_range]
  show minI (lot.map fun i => (at2 t i).1) + (lot.map fun i => (at2 t i).2).sum + _ = _
  omega
theorem worth_sw (f : Bool) (t : Tw) (lot : List Int) : worth f (sw t) lot = worth (!f) t lot := by
  unfold worth
  rw [rest_range, rest_range, sw_len]
  have e1 : (fun i => sel f (at2 (sw t) i)) = fun i => sel (!f) (at2 t i) := by
    funext i
    rw [at_sw]
    cases f <;> rfl
  have e2 : (fun i => sel (!f) (at2 (sw t) i)) = fun i => sel (!!f) (at2 t i) := by
    funext i
    rw [at_sw]
    cases f <;> rfl
  have e3 : (fun i => if i ∈ lot then none else some (min (at2 (sw t) i).1 (at2 (sw t) i).2)) = fun i => if i ∈ lot then none else some (min (at2 t i).1 (at2 t i).2) := by
    funext i
    rw [at_sw]
    show (if i ∈ lot then none else some (min (at2 t i).2 (at2 t i).1)) = _
    rw [Int.min_comm]
  rw [e1, e2, e3]
theorem foldl_min : ∀ (ns : List Int) (n : Int), ns.foldl min n ≤ n ∧ (∀ i ∈ ns, ns.foldl min n ≤ i) ∧ (ns.foldl min n = n ∨ ns.foldl min n ∈ ns)
  | [], n => ⟨Int.le_refl _, fun i hi => (List.not_mem_nil hi).elim, .inl rfl⟩
  | m :: ns, n => by
    obtain ⟨h1, h2, h3⟩ := foldl_min ns (min n m)
    refine ⟨by show ns.foldl min (min n m) ≤ n; omega, fun i hi => ?_, ?_⟩
    · show ns.foldl min (min n m) ≤ i
      rcases List.mem_cons.mp hi with rfl | hi
      · omega
      · exact h2 i hi
    · show ns.foldl min (min n m) = n ∨ ns.foldl min (min n m) ∈ m :: ns
      rcases h3 with h3 | h3
      · rw [h3]
        by_cases h : n ≤ m
        · exact .inl (by omega)
        · exact .inr (by rw [show min n m = m by omega]; exact List.mem_cons_self ..)
      · exact .inr (List.mem_cons_of_mem _ h3)
theorem minI_le {ns : List Int} {i : Int} (h : i ∈ ns) : minI ns ≤ i := by
  cases ns with
  | nil => cases h
  | cons n ns =>
    obtain ⟨h1, h2, _⟩ := foldl_min ns n
    rcases List.mem_cons.mp h with rfl | h
    · exact h1
    · exact h2 i h
theorem minI_mem {ns : List Int} (h : ns ≠ []) : minI ns ∈ ns := by
  cases ns with
  | nil => exact absurd rfl h
  | cons n ns =>
    obtain ⟨_, _, h3⟩ := foldl_min ns n
    rcases h3 with h3 | h3
    · show ns.foldl min n ∈ n :: ns
      rw [h3]
      exact List.mem_cons_self ..
    · exact List.mem_cons_of_mem _ h3

/-! ### no paper is above an order -/
theorem part_le (t : Tw) (lot : List Int) (ns : List Int) : (ns.map (part t lot)).sum ≤ sumB (ns.map (at2 t)) := by
  induction ns with
  | nil => exact Int.le_refl _
  | cons i r ih =>
    rw [List.map_cons, List.sum_cons, List.map_cons, sumB_cons]
    have : part t lot i ≤ (at2 t i).2 := by
      unfold part
      split
      · exact Int.le_refl _
      · exact Int.min_le_right _ _
    omega
theorem way_paper {t : Tw} {lot : List Int} {m : Int} (hm : ∀ i ∈ lot, m ≤ (at2 t i).1) : ∀ ns : List Int, (∃ i ∈ ns, i ∈ lot) → m + (ns.map (part t lot)).sum ≤ way (ns.map (at2 t))
  | [], h => by
    obtain ⟨i, hi, _⟩ := h
    cases hi
  | i :: r, h => by
    rw [List.map_cons, List.sum_cons, List.map_cons]
    show _ ≤ (at2 t i).1 + max ((at2 t i).2 + sumB (r.map (at2 t))) (way (r.map (at2 t)))
    have hp := part_le t lot r
    by_cases hi : i ∈ lot
    · have := hm i hi
      rw [show part t lot i = (at2 t i).2 from if_pos hi]
      omega
    · have ih := way_paper hm r (by
        obtain ⟨j, hj, hl⟩ := h
        rcases List.mem_cons.mp hj with rfl | hj
        · exact absurd hl hi
        · exact ⟨j, hj, hl⟩)
      rw [show part t lot i = min (at2 t i).1 (at2 t i).2 from if_neg hi]
      omega
theorem paper_le {t : Tw} (ok : Ok2 t) {lot ns : List Int} (o : Ord t.length ns) (hne : lot ≠ []) (hs : lot.Sublist (rangeI t.length)) : ∀ f : Bool, worth f t lot ≤ end2 t ns := by
  have one : ∀ {t : Tw}, Ok2 t → ∀ {ns : List Int}, Ord t.length ns → lot.Sublist (rangeI t.length) → worth true t lot ≤ end2 t ns := fun {t} ok {ns} o hs => by
    rw [worth_part t hs, end2_way ok, ← sum_perm (List.Perm.map (part t lot) o)]
    obtain ⟨j, r, e⟩ := List.exists_cons_of_ne_nil hne
    refine way_paper (fun i hi => minI_le (List.mem_map.mpr ⟨i, hi, rfl⟩)) ns ⟨j, (List.Perm.mem_iff o).mpr (hs.subset (by rw [e]; exact List.mem_cons_self ..)), by rw [e]; exact List.mem_cons_self ..⟩
  intro f
  cases f with
  | true => exact one ok o hs
  | false =>
    have := one (t := sw t) (sw_ok ok) (ns := ns.reverse) (by rw [sw_len]; exact Ord.rev o) (by rw [sw_len]; exact hs)
    rw [worth_sw, end2_sw ok] at this
    exact this

/-! ### the rule's order -/
def g1 (t : Tw) (i : Int) : Bool := decide ((at2 t i).1 ≤ (at2 t i).2)
theorem fm_filter {α β : Type} (p : α → Bool) (g : α → β) (f : α → Option β) (h : ∀ a, f a = if p a = true then some (g a) else none) : ∀ l : List α, l.filterMap f = (l.filter p).map g
  | [] => rfl
  | a :: l => by
    rw [List.filter_cons]
    by_cases hp : p a = true
    · rw [List.filterMap_cons_some (f := f) (by rw [h, if_pos hp]), if_pos hp, List.map_cons, fm_filter p g f h l]
    · rw [List.filterMap_cons_none (f := f) (by rw [h, if_neg hp]), if_neg hp, fm_filter p g f h l]
theorem ahead_range (t : Tw) : aheadL t = ((rangeI t.length).filter (g1 t)).map fun i => ((at2 t i).1, i) := by
  unfold aheadL
  rw [enum_range, List.filterMap_map]
  refine fm_filter (g1 t) _ _ (fun i => ?_) _
  show (if (at2 t i).1 ≤ (at2 t i).2 then some ((at2 t i).1, i) else none) = if g1 t i = true then some ((at2 t i).1, i) else none
  by_cases h : (at2 t i).1 ≤ (at2 t i).2
  · rw [if_pos h, if_pos (show g1 t i = true from decide_eq_true h)]
  · rw [if_neg h, if_neg (show ¬ g1 t i = true by unfold g1; rw [decide_eq_false h]; exact Bool.false_ne_true)]
theorem behind_range (t : Tw) : behindL t = ((rangeI t.length).filter fun i => !g1 t i).map fun i => (0 - (at2 t i).2, i) := by
  unfold behindL
  rw [enum_range, List.filterMap_map]
  refine fm_filter (fun i => !g1 t i) _ _ (fun i => ?_) _
  show (if (at2 t i).2 < (at2 t i).1 then some (0 - (at2 t i).2, i) else none) = if (!g1 t i) = true then some (0 - (at2 t i).2, i) else none
  by_cases h : (at2 t i).2 < (at2 t i).1
  · rw [if_pos h, if_pos (show (!g1 t i) = true by unfold g1; rw [decide_eq_false (by omega)]; rfl)]
  · rw [if_neg h, if_neg (show ¬ (!g1 t i) = true by unfold g1; rw [decide_eq_true (by omega)]; exact Bool.false_ne_true)]
theorem rule_ord (t : Tw) : Ord t.length (rule t) := by
  unfold rule
  have p1 : (sortP (aheadL t) ++ sortP (behindL t)).Perm (aheadL t ++ behindL t) := (sortP_perm _).append (sortP_perm _)
  refine (p1.map (·.2)).trans ?_
  rw [List.map_append, ahead_range, behind_range, List.map_map, List.map_map]
  have e1 : ((fun p : Int × Int => p.2) ∘ fun i => ((at2 t i).1, i)) = id := rfl
  have e2 : ((fun p : Int × Int => p.2) ∘ fun i => (0 - (at2 t i).2, i)) = id := rfl
  rw [e1, e2, List.map_id, List.map_id]
  exact List.filter_append_perm (g1 t) (rangeI t.length)
/-- i may stand ahead of j -/
def Jn (t : Tw) (i j : Int) : Prop := (g1 t j = true → g1 t i = true ∧ (at2 t i).1 ≤ (at2 t j).1) ∧ (g1 t i = false → g1 t j = false ∧ (at2 t j).2 ≤ (at2 t i).2)
theorem sortP_pair (ps : List (Int × Int)) : (sortP ps).Pairwise fun a b => a.1 ≤ b.1 := by
  have := List.pairwise_mergeSort (le := fun a b : Int × Int => decide (a.1 < b.1 ∨ (a.1 = b.1 ∧ a.2 ≤ b.2))) (fun a b c h1 h2 => by
    have := of_decide_eq_true h1
    have := of_decide_eq_true h2
    exact decide_eq_true (by omega)) (fun a b => by
    by_cases h : a.1 < b.1 ∨ (a.1 = b.1 ∧ a.2 ≤ b.2)
    · rw [decide_eq_true h, Bool.true_or]
    · rw [decide_eq_true (show b.1 < a.1 ∨ (b.1 = a.1 ∧ b.2 ≤ a.2) by omega), Bool.or_true]) ps
  exact this.imp fun h => by
    have := of_decide_eq_true h
    omega
theorem rule_jn (t : Tw) : (rule t).Pairwise (Jn t) := by
  unfold rule
  have inA : ∀ p ∈ sortP (aheadL t), p.1 = (at2 t p.2).1 ∧ g1 t p.2 = true := fun p hp => by
    have := (List.Perm.mem_iff (sortP_perm _)).mp hp
    rw [ahead_range] at this
    obtain ⟨i, hi, rfl⟩ := List.mem_map.mp this
    exact ⟨rfl, (List.mem_filter.mp hi).2⟩
  have inB : ∀ p ∈ sortP (behindL t), p.1 = 0 - (at2 t p.2).2 ∧ g1 t p.2 = false := fun p hp => by
    have := (List.Perm.mem_iff (sortP_perm _)).mp hp
    rw [behind_range] at this
    obtain ⟨i, hi, rfl⟩ := List.mem_map.mp this
    have := (List.mem_filter.mp hi).2
    exact ⟨rfl, by simpa using this⟩
  rw [List.pairwise_map, List.pairwise_append]
  refine ⟨?_, ?_, fun a ha b hb => ?_⟩
  · refine List.Pairwise.imp_of_mem (fun {a b} ha hb h => ?_) (sortP_pair (aheadL t))
    obtain ⟨a1, a2⟩ := inA a ha
    obtain ⟨b1, b2⟩ := inA b hb
    refine ⟨fun _ => ⟨a2, by omega⟩, fun z => ?_⟩
    rw [a2] at z
    cases z
  · refine List.Pairwise.imp_of_mem (fun {a b} ha hb h => ?_) (sortP_pair (behindL t))
    obtain ⟨a1, a2⟩ := inB a ha
    obtain ⟨b1, b2⟩ := inB b hb
    refine ⟨fun z => ?_, fun _ => ⟨b2, by omega⟩⟩
    rw [b2] at z
    cases z
  · obtain ⟨a1, a2⟩ := inA a ha
    obtain ⟨b1, b2⟩ := inB b hb
    refine ⟨fun z => ?_, fun z => ?_⟩
    · rw [b2] at z
      cases z
    · rw [a2] at z
      cases z

/-! ### a paper as high as the rule's end -/
theorem way_at {t : Tw} (ok : Ok2 t) : ∀ ns : List Int, ns ≠ [] → ∃ n1 i n2, ns = n1 ++ i :: n2 ∧ way (ns.map (at2 t)) ≤ sumA (n1.map (at2 t)) + (at2 t i).1 + (at2 t i).2 + sumB (n2.map (at2 t))
  | [], h => absurd rfl h
  | i :: r, _ => by
    have hp := at2_nn ok i
    by_cases hr : r = []
    · subst hr
      refine ⟨[], i, [], rfl, ?_⟩
      show (at2 t i).1 + max ((at2 t i).2 + 0) 0 ≤ 0 + (at2 t i).1 + (at2 t i).2 + 0
      omega
    · obtain ⟨n1, j, n2, e, h⟩ := way_at ok r hr
      by_cases hc : way (r.map (at2 t)) ≤ (at2 t i).2 + sumB (r.map (at2 t))
      · refine ⟨[], i, r, rfl, ?_⟩
        show (at2 t i).1 + max ((at2 t i).2 + sumB (r.map (at2 t))) (way (r.map (at2 t))) ≤ 0 + (at2 t i).1 + (at2 t i).2 + sumB (r.map (at2 t))
        omega
      · refine ⟨i :: n1, j, n2, by rw [e]; rfl, ?_⟩
        rw [List.map_cons, List.map_cons, sumA_cons]
        show (at2 t i).1 + max ((at2 t i).2 + sumB (r.map (at2 t))) (way (r.map (at2 t))) ≤ _
        omega
theorem sum_le_map {f g : Int → Int} : ∀ {ns : List Int}, (∀ i ∈ ns, f i ≤ g i) → (ns.map f).sum ≤ (ns.map g).sum
  | [], _ => Int.le_refl _
  | i :: r, h => by
    rw [List.map_cons, List.map_cons, List.sum_cons, List.sum_cons]
    have := h i (List.mem_cons_self ..)
    have := sum_le_map (ns := r) (f := f) (g := g) fun j hj => h j (List.mem_cons_of_mem _ hj)
    omega
theorem sumA_map (t : Tw) (ns : List Int) : sumA (ns.map (at2 t)) = (ns.map fun i => (at2 t i).1).sum := by
  unfold sumA
  rw [List.map_map]
  rfl
theorem sumB_map (t : Tw) (ns : List Int) : sumB (ns.map (at2 t)) = (ns.map fun i => (at2 t i).2).sum := by
  unfold sumB
  rw [List.map_map]
  rfl
theorem sub_of (n : Nat) (S : List Int) : ((rangeI n).filter fun i => decide (i ∈ S)).Sublist (rangeI n) := List.filter_sublist
theorem paper_at {t : Tw} (ok : Ok2 t) : ∃ (f : Bool) (lot : List Int), lot ≠ [] ∧ lot.Sublist (rangeI t.length) ∧ end2 t (rule t) ≤ worth f t lot := by
  have ro := rule_ord t
  have hne : rule t ≠ [] := Ord.ne ok ro
  obtain ⟨n1, i, n2, e, h⟩ := way_at ok (rule t) hne
  have jn := rule_jn t
  rw [e] at jn
  obtain ⟨j1, j2, j3⟩ := List.pairwise_append.mp jn
  obtain ⟨j4, j5⟩ := List.pairwise_cons.mp j2
  have j6 : ∀ a ∈ n1, Jn t a i := fun a ha => j3 a ha i (List.mem_cons_self ..)
  have nd : (n1 ++ i :: n2).Nodup := by
    rw [← e]
    exact (List.Perm.nodup_iff ro).mpr (nodup_range _)
  obtain ⟨_, nd2, nd3⟩ := List.pairwise_append.mp (List.nodup_iff_pairwise_ne.mp nd)
  have mem : ∀ a, a ∈ n1 ++ i :: n2 → a ∈ rangeI t.length := fun a ha => (List.Perm.mem_iff ro).mp (by rw [e]; exact ha)
  rw [end2_way ok]
  -- the parts, led back to the rule's order
  have lead : ∀ (f : Bool) (S : List Int), i ∈ S → (∀ a ∈ S, a ∈ n1 ++ i :: n2) → (∀ a ∈ S, sel f (at2 t i) ≤ sel f (at2 t a)) →
      (sumA (n1.map (at2 t)) + (at2 t i).1 + (at2 t i).2 + sumB (n2.map (at2 t)) ≤ sel f (at2 t i) + ((n1 ++ i :: n2).map fun a => if a ∈ S then sel (!f) (at2 t a) else min (at2 t a).1 (at2 t a).2).sum) →
      ∃ (f : Bool) (lot : List Int), lot ≠ [] ∧ lot.Sublist (rangeI t.length) ∧ way ((rule t).map (at2 t)) ≤ worth f t lot := fun f S hi hS hm hsum => by
    have inLot : ∀ a, a ∈ (rangeI t.length).filter (fun a => decide (a ∈ S)) ↔ a ∈ S := fun a => by
      rw [List.mem_filter]
      exact ⟨fun z => of_decide_eq_true z.2, fun z => ⟨mem a (hS a z), decide_eq_true z⟩⟩
    have lne : (rangeI t.length).filter (fun a => decide (a ∈ S)) ≠ [] := fun z => by
      have := (inLot i).mpr hi
      rw [z] at this
      cases this
    refine ⟨f, (rangeI t.length).filter fun a => decide (a ∈ S), lne, sub_of _ _, ?_⟩
    have hmin : sel f (at2 t i) ≤ minI (((rangeI t.length).filter fun a => decide (a ∈ S)).map fun a => sel f (at2 t a)) := by
      obtain ⟨a, ha, ea⟩ := List.mem_map.mp (minI_mem (ns := ((rangeI t.length).filter fun a => decide (a ∈ S)).map fun a => sel f (at2 t a)) (by simpa using lne))
      rw [← ea]
      exact hm a ((inLot a).mp ha)
    have hw : worth f t ((rangeI t.length).filter fun a => decide (a ∈ S)) = minI (((rangeI t.length).filter fun a => decide (a ∈ S)).map fun a => sel f (at2 t a)) + ((rangeI t.length).map fun a => if a ∈ S then sel (!f) (at2 t a) else min (at2 t a).1 (at2 t a).2).sum := by
      unfold worth
      rw [sum_split (fun a => sel (!f) (at2 t a)) (fun a => min (at2 t a).1 (at2 t a).2) (fun a => a ∈ S), rest_range]
      have e3 : (fun a => if a ∈ (rangeI t.length).filter (fun a => decide (a ∈ S)) then none else some (min (at2 t a).1 (at2 t a).2)) = fun a => if a ∈ S then none else some (min (at2 t a).1 (at2 t a).2) := by
        funext a
        by_cases ha : a ∈ S
        · rw [if_pos ha, if_pos ((inLot a).mpr ha)]
        · rw [if_neg ha, if_neg (fun z => ha ((inLot a).mp z))]
      rw [e3]
      omega
    rw [hw, ← sum_perm (List.Perm.map _ ro), e]
    rw [e] at h
    omega
  by_cases hg : g1 t i = true
  · -- in the first part: the lot is of those from i on that are of the first part
    refine lead true ((i :: n2).filter (g1 t)) (List.mem_filter.mpr ⟨List.mem_cons_self .., hg⟩) (fun a ha => List.mem_append_right _ (List.mem_filter.mp ha).1) (fun a ha => ?_) ?_
    · obtain ⟨h1, h2⟩ := List.mem_filter.mp ha
      rcases List.mem_cons.mp h1 with rfl | h1
      · exact Int.le_refl _
      · exact ((j4 a h1).1 h2).2
    · rw [List.map_append, List.map_cons, List.sum_append, List.sum_cons, sumA_map, sumB_map]
      rw [if_pos (List.mem_filter.mpr ⟨List.mem_cons_self .., hg⟩)]
      have s1 : (n1.map fun a => (at2 t a).1).sum ≤ (n1.map fun a => if a ∈ (i :: n2).filter (g1 t) then sel (!true) (at2 t a) else min (at2 t a).1 (at2 t a).2).sum := sum_le_map fun a ha => by
        rw [if_neg (fun z => nd3 a ha a (List.mem_filter.mp z).1 rfl)]
        have := of_decide_eq_true ((j6 a ha).1 hg).1
        omega
      have s2 : (n2.map fun a => (at2 t a).2).sum ≤ (n2.map fun a => if a ∈ (i :: n2).filter (g1 t) then sel (!true) (at2 t a) else min (at2 t a).1 (at2 t a).2).sum := sum_le_map fun a ha => by
        by_cases hga : g1 t a = true
        · rw [if_pos (List.mem_filter.mpr ⟨List.mem_cons_of_mem _ ha, hga⟩)]
          exact Int.le_refl _
        · rw [if_neg (fun z => hga (List.mem_filter.mp z).2)]
          have : ¬ (at2 t a).1 ≤ (at2 t a).2 := fun z => hga (decide_eq_true z)
          omega
      show _ ≤ (at2 t i).1 + (_ + ((at2 t i).2 + _))
      omega
  · have hg' : g1 t i = false := by
      cases z : g1 t i with
      | true => exact absurd z hg
      | false => rfl
    refine lead false ((n1 ++ [i]).filter fun a => !g1 t a) (List.mem_filter.mpr ⟨List.mem_append_right _ (List.mem_cons_self ..), by rw [hg']; rfl⟩) (fun a ha => ?_) (fun a ha => ?_) ?_
    · rcases List.mem_append.mp (List.mem_filter.mp ha).1 with h1 | h1
      · exact List.mem_append_left _ h1
      · rw [List.mem_singleton.mp h1]
        exact List.mem_append_right _ (List.mem_cons_self ..)
    · obtain ⟨h1, h2⟩ := List.mem_filter.mp ha
      rcases List.mem_append.mp h1 with h1 | h1
      · exact ((j6 a h1).2 (by simpa using h2)).2
      · rw [List.mem_singleton.mp h1]
        exact Int.le_refl _
    · rw [List.map_append, List.map_cons, List.sum_append, List.sum_cons, sumA_map, sumB_map]
      rw [if_pos (List.mem_filter.mpr ⟨List.mem_append_right _ (List.mem_cons_self ..), by rw [hg']; rfl⟩)]
      have s1 : (n1.map fun a => (at2 t a).1).sum ≤ (n1.map fun a => if a ∈ (n1 ++ [i]).filter (fun a => !g1 t a) then sel (!false) (at2 t a) else min (at2 t a).1 (at2 t a).2).sum := sum_le_map fun a ha => by
        cases hga : g1 t a with
        | true =>
          rw [if_neg (fun z => by
            have := (List.mem_filter.mp z).2
            rw [hga] at this
            cases this)]
          have := of_decide_eq_true hga
          omega
        | false =>
          rw [if_pos (List.mem_filter.mpr ⟨List.mem_append_left _ ha, by rw [hga]; rfl⟩)]
          exact Int.le_refl _
      have s2 : (n2.map fun a => (at2 t a).2).sum ≤ (n2.map fun a => if a ∈ (n1 ++ [i]).filter (fun a => !g1 t a) then sel (!false) (at2 t a) else min (at2 t a).1 (at2 t a).2).sum := sum_le_map fun a ha => by
        have ng : ¬ (at2 t a).1 ≤ (at2 t a).2 := of_decide_eq_false ((j4 a ha).2 hg').1
        have out : a ∉ (n1 ++ [i]).filter (fun a => !g1 t a) := fun z => by
          rcases List.mem_append.mp (List.mem_filter.mp z).1 with z | z
          · exact nd3 a z a (List.mem_cons_of_mem _ ha) rfl
          · rw [List.mem_singleton.mp z] at ha
            exact (List.pairwise_cons.mp nd2).1 i ha rfl
        rw [if_neg out]
        omega
      show _ ≤ (at2 t i).2 + (_ + ((at2 t i).1 + _))
      omega
theorem rule_least {t : Tw} (ok : Ok2 t) {ns : List Int} (o : Ord t.length ns) : end2 t (rule t) ≤ end2 t ns := by
  obtain ⟨f, lot, h1, h2, h3⟩ := paper_at ok
  exact Int.le_trans h3 (paper_le ok o h1 h2 f)
theorem rule_sw {t : Tw} (ok : Ok2 t) : end2 (sw t) (rule (sw t)) = end2 t (rule t) := by
  have r1 := rule_ord t
  have r2 := rule_ord (sw t)
  have h1 := rule_least (sw_ok ok) (ns := (rule t).reverse) (by rw [sw_len]; exact Ord.rev r1)
  rw [end2_sw ok] at h1
  have h2 := rule_least ok (ns := (rule (sw t)).reverse) (by rw [sw_len] at r2; exact Ord.rev r2)
  have h3 := end2_sw (sw_ok ok) (rule (sw t))
  rw [sw_sw] at h3
  omega

/-! ### all orders, turned about -/
theorem ordF_iff (m : Nat) : ∀ (k : Nat) (o : List Int), o ∈ ordF m k ↔ o.length = k ∧ o.Nodup ∧ ∀ i ∈ o, 0 ≤ i ∧ i < m
  | 0, o => by
    constructor
    · intro h
      rcases List.mem_cons.mp h with rfl | h
      · exact ⟨rfl, List.nodup_nil, fun i hi => (List.not_mem_nil hi).elim⟩
      · cases h
    · rintro ⟨h, _, _⟩
      rw [List.eq_nil_of_length_eq_zero h]
      exact List.mem_cons_self ..
  | k + 1, o => by
    constructor
    · intro h
      refine ⟨ordF_row m (k + 1) o h, ?_, ordF_in m (k + 1) o h⟩
      obtain ⟨q, hq, hr⟩ := List.mem_flatMap.mp h
      obtain ⟨x, hx, rfl⟩ := List.mem_map.mp hr
      have nd := ((ordF_iff m k q).mp hq).2.1
      have nx : x ∉ q := of_decide_eq_true (List.mem_filter.mp hx).2
      rw [List.nodup_append]
      exact ⟨nd, by simp, fun a ha b hb => by
        rw [List.mem_singleton.mp hb]
        intro z
        exact nx (z ▸ ha)⟩
    · rintro ⟨h1, h2, h3⟩
      have hne : o ≠ [] := fun z => by rw [z] at h1; cases h1
      have e := List.dropLast_concat_getLast hne
      rw [← e] at h2 h3 ⊢
      obtain ⟨n1, _, n3⟩ := List.nodup_append.mp h2
      refine List.mem_flatMap.mpr ⟨o.dropLast, (ordF_iff m k _).mpr ⟨by rw [List.length_dropLast]; omega, n1, fun i hi => h3 i (List.mem_append_left _ hi)⟩, List.mem_map.mpr ⟨o.getLast hne, List.mem_filter.mpr ⟨mem_rangeI.mpr (h3 _ (List.mem_append_right _ (List.mem_singleton.mpr rfl))), decide_eq_true fun z => n3 _ z _ (List.mem_singleton.mpr rfl) rfl⟩, rfl⟩⟩
theorem nodup_flat {α β : Type} {f : α → List β} : ∀ {l : List α}, l.Nodup → (∀ a ∈ l, (f a).Nodup) → (∀ a ∈ l, ∀ b ∈ l, ∀ x, x ∈ f a → x ∈ f b → a = b) → (l.flatMap f).Nodup
  | [], _, _, _ => List.nodup_nil
  | a :: l, nd, h1, h2 => by
    obtain ⟨na, nd⟩ := List.nodup_cons.mp nd
    rw [List.flatMap_cons, List.nodup_append]
    refine ⟨h1 a (List.mem_cons_self ..), nodup_flat nd (fun b hb => h1 b (List.mem_cons_of_mem _ hb)) fun b hb c hc x => h2 b (List.mem_cons_of_mem _ hb) c (List.mem_cons_of_mem _ hc) x, fun x hx y hy z => ?_⟩
    subst z
    obtain ⟨b, hb, hxb⟩ := List.mem_flatMap.mp hy
    have := h2 a (List.mem_cons_self ..) b (List.mem_cons_of_mem _ hb) x hx hxb
    subst this
    exact na hb
theorem nodup_map {α β : Type} {f : α → β} : ∀ {l : List α}, l.Nodup → (∀ a ∈ l, ∀ b ∈ l, f a = f b → a = b) → (l.map f).Nodup
  | [], _, _ => List.nodup_nil
  | a :: l, nd, h => by
    obtain ⟨na, nd⟩ := List.nodup_cons.mp nd
    rw [List.map_cons, List.nodup_cons]
    refine ⟨fun z => ?_, nodup_map nd fun b hb c hc => h b (List.mem_cons_of_mem _ hb) c (List.mem_cons_of_mem _ hc)⟩
    obtain ⟨b, hb, e⟩ := List.mem_map.mp z
    have := h b (List.mem_cons_of_mem _ hb) a (List.mem_cons_self ..) e
    subst this
    exact na hb
theorem ordF_nodup (m : Nat) : ∀ k, (ordF m k).Nodup
  | 0 => by
    show ([[]] : List (List Int)).Nodup
    simp
  | k + 1 => by
    refine nodup_flat (ordF_nodup m k) (fun q _ => ?_) fun q _ r _ x hx hy => ?_
    · refine nodup_map ((nodup_range m).filter _) fun a _ b _ e => ?_
      exact (List.cons.inj (List.append_cancel_left e)).1
    · obtain ⟨a, _, e1⟩ := List.mem_map.mp hx
      obtain ⟨b, _, e2⟩ := List.mem_map.mp hy
      rw [← e2] at e1
      exact (List.append_inj' e1 rfl).1
theorem ord_mem {n : Nat} {o : List Int} (h : Ord n o) : o ∈ ords n := (ordF_iff n n o).mpr ⟨Ord.len h, (List.Perm.nodup_iff h).mpr (nodup_range n), Ord.mem h⟩
theorem pigeon : ∀ {xs ys : List Int}, xs.Nodup → (∀ x ∈ xs, x ∈ ys) → ys.length ≤ xs.length → xs.Perm ys
  | [], ys, _, _, h => by
    rw [List.eq_nil_of_length_eq_zero (Nat.le_zero.mp h)]
  | x :: xs, ys, nd, hs, h => by
    obtain ⟨nx, nd⟩ := List.nodup_cons.mp nd
    have hx := hs x (List.mem_cons_self ..)
    have p := List.perm_cons_erase hx
    refine List.Perm.trans (List.Perm.cons x (pigeon nd (fun y hy => (List.mem_erase_of_ne (fun z => nx (by rw [← z]; exact hy))).mpr (hs y (List.mem_cons_of_mem _ hy))) ?_)) p.symm
    rw [List.length_erase_of_mem hx]
    rw [List.length_cons] at h
    omega
theorem mem_ord {n : Nat} {o : List Int} (h : o ∈ ords n) : Ord n o := by
  obtain ⟨h1, h2, h3⟩ := (ordF_iff n n o).mp h
  exact pigeon h2 (fun i hi => mem_rangeI.mpr (h3 i hi)) (by rw [rangeI_len, h1]; exact Nat.le_refl _)
theorem ords_rev (n : Nat) : ((ords n).map List.reverse).Perm (ords n) := by
  refine (List.perm_ext_iff_of_nodup (nodup_map (ordF_nodup n n) fun a _ b _ e => ?_) (ordF_nodup n n)).mpr fun o => ?_
  · exact List.reverse_inj.mp e
  · constructor
    · intro h
      obtain ⟨q, hq, rfl⟩ := List.mem_map.mp h
      exact ord_mem (Ord.rev (mem_ord hq))
    · intro h
      exact List.mem_map.mpr ⟨o.reverse, ord_mem (Ord.rev (mem_ord h)), List.reverse_reverse o⟩
theorem count_sw {t : Tw} (ok : Ok2 t) (v : Int) : ((ords t.length).filter fun o => decide (end2 (sw t) o = v)).length = ((ords t.length).filter fun o => decide (end2 t o = v)).length := by
  have p := (ords_rev t.length).filter fun o => decide (end2 (sw t) o = v)
  rw [← List.Perm.length_eq p, List.filter_map, List.length_map]
  have : ((fun o => decide (end2 (sw t) o = v)) ∘ List.reverse) = fun o => decide (end2 t o = v) := by
    funext o
    show decide (end2 (sw t) o.reverse = v) = _
    rw [end2_sw ok]
  rw [this]
end Gk01

set_option maxRecDepth 100000
set_option maxHeartbeats 4000000
namespace Gk01
open PySem PySem.Spec PyProof.Rows L2 Z3

theorem neF {a b : Int} (h : a = b) : (!PyData.eqv (.int a) (.int b)) = false := by rw [eq_ints', decide_eq_true h]; rfl
theorem ok_ii {a b : Int} : (PyData.int a).plain = true ∧ (PyData.int b).plain = true ∧ min (PyData.int a).depth (PyData.int b).depth ≤ 64 := ⟨rfl, rfl, Nat.zero_le _⟩
theorem way_up : ∀ {L : List P2} {m : Int}, (∀ p ∈ L, 0 ≤ p.1 ∧ p.1 ≤ m ∧ 0 ≤ p.2 ∧ p.2 ≤ m) → sumB L ≤ L.length * m ∧ way L ≤ L.length * (2 * m)
  | [], m, _ => ⟨by show (0 : Int) ≤ (0 : Nat) * m; simp, by show (0 : Int) ≤ (0 : Nat) * (2 * m); simp⟩
  | p :: r, m, h => by
    obtain ⟨h1, h2⟩ := way_up (L := r) (m := m) fun q hq => h q (List.mem_cons_of_mem _ hq)
    have hp := h p (List.mem_cons_self ..)
    have e1 : (((p :: r).length : Nat) : Int) * m = r.length * m + m := by
      rw [List.length_cons, Int.natCast_add, Int.add_mul]
      simp
    have e2 : (((p :: r).length : Nat) : Int) * (2 * m) = r.length * (2 * m) + 2 * m := by
      rw [List.length_cons, Int.natCast_add, Int.add_mul]
      simp
    have e3 : (r.length : Int) * (2 * m) = 2 * (r.length * m) := by rw [← Int.mul_assoc, Int.mul_comm (r.length : Int) 2, Int.mul_assoc]
    have e4 : 0 ≤ (r.length : Int) * m := Int.mul_nonneg (by omega) (by omega)
    rw [sumB_cons, e1, e2]
    refine ⟨by omega, ?_⟩
    show p.1 + max (p.2 + sumB r) (way r) ≤ _
    omega
theorem end2_up {t : Tw} (ok : Ok2 t) {ns : List Int} (o : Ord t.length ns) : 1 ≤ end2 t ns ∧ end2 t ns ≤ 840 := by
  have hl := Ord.len o
  have h1 := ok.1
  have h7 := ok.2.1
  rw [end2_way ok]
  have inn : ∀ i ∈ ns, (1 ≤ (at2 t i).1 ∧ (at2 t i).1 ≤ 60) ∧ 1 ≤ (at2 t i).2 ∧ (at2 t i).2 ≤ 60 := fun i hi => by
    have := Ord.mem o i hi
    refine ok.2.2 _ ?_
    unfold at2
    rw [List.getD_eq_getElem?_getD, List.getElem?_eq_getElem (by omega)]
    exact List.getElem_mem _
  constructor
  · obtain ⟨i, r, e⟩ := List.exists_cons_of_ne_nil (Ord.ne ok o)
    have := inn i (by rw [e]; exact List.mem_cons_self ..)
    rw [e, List.map_cons]
    have hn := sumB_nn (nonN_at ok r)
    show 1 ≤ (at2 t i).1 + max ((at2 t i).2 + sumB (r.map (at2 t))) (way (r.map (at2 t)))
    omega
  · have := (way_up (L := ns.map (at2 t)) (m := 60) fun p hp => by
      obtain ⟨i, hi, rfl⟩ := List.mem_map.mp hp
      have := inn i hi
      omega).2
    rw [List.length_map, hl] at this
    omega
def sp_law_are_threes_right : Sd := fun ds Q => ds = [] ∧ Q (.bool true)

section
variable {h : Addr} {Q : D → Prop} {w : Int} {t : Tw} {o lot : List Int} {s6 s7 s8 s9 s10 s11 a b c d e : SV}
abbrev stR (h : Addr) (w : Int) (t : Tw) (o : List Int) (s6 s7 s8 s9 s10 s11 : SV) : SS := [.hand h, .p (.int w), .p (en2 t), .p (en2 (sw t)), .p (tuI o), .p (tuI o.reverse), s6, s7, s8, s9, s10, s11, .any, .any, .any, .any, .any]
theorem r_tl1 (q : Q (.bool true)) : tl1_law_is_right sp_law_are_threes_right (hends h Q) (stR h w t o s6 s7 s8 s9 s10 s11) := ⟨⟨h, rfl⟩, rfl, rfl, rfl, q⟩
theorem r_tl2 (ok : Ok2 t) (q : Q (.bool true)) : tl2_law_is_right sp_law_are_threes_right sp_least_at_once (hends h Q) (stR h w t o s6 s7 s8 s9 s10 s11) := by
  refine ⟨decide (((t.map pr).length : Int) < 7), rfl, ?_⟩
  by_cases h7 : ((t.map pr).length : Int) < 7
  · refine ifT (decide_eq_true h7) ⟨rfl, t, rfl, ok, fun o1 h1 m1 => ⟨_, at0 _ _, rfl, sw t, rfl, sw_ok ok, fun o2 h2 m2 => ⟨_, at0 _ _, ok_ii, _, rfl, ifF (neF ?_) (r_tl1 q)⟩⟩⟩
    rw [sw_len] at h2 m2
    have a1 := m2 o1.reverse (ord_mem (Ord.rev (mem_ord h1)))
    rw [barr_sw ok] at a1
    have a2 := m1 o2.reverse (ord_mem (Ord.rev (mem_ord h2)))
    have a3 := barr_sw (sw_ok ok) o2
    rw [sw_sw] at a3
    omega
  · exact ifF (decide_eq_false h7) (r_tl1 q)
theorem r_tl3 (ok : Ok2 t) (q : Q (.bool true)) : tl3_law_is_right sp_best_two_orders sp_law_are_threes_right sp_least_at_once (hends h Q) (stR h w t o s6 s7 s8 s9 s10 s11) := by
  refine ⟨decide (((t.map pr).length : Int) < 7), rfl, ?_⟩
  by_cases h7 : ((t.map pr).length : Int) < 7
  · refine ifT (decide_eq_true h7) ⟨rfl, t, rfl, ok, rule_ord t, rfl, sw t, rfl, sw_ok ok, rule_ord (sw t), ok_ii, _, rfl, ifF (neF ?_) (r_tl2 ok q)⟩
    rw [sw_len, rule_sw ok, count_sw ok]
  · exact ifF (decide_eq_false h7) (r_tl2 ok q)
theorem r_tl4 (ok : Ok2 t) (q : Q (.bool true)) : tl4_law_is_right sp_best_two_orders sp_law_are_threes_right sp_least_at_once sp_twos_told (hends h Q) (stR h w t o s6 s7 s8 (.p (.int (end2 t (rule t)))) s10 s11) := by
  have up := end2_up ok (rule_ord t)
  have e := rule_sw ok
  have sk := sw_ok ok
  refine ⟨rfl, sw t, _, rfl, sk, by omega, by omega, rule_ord (sw t), ord_mem (rule_ord (sw t)), fun z => absurd z (by omega), fun _ r => ⟨_, at0 _ _, ⟨rfl, rfl, Nat.zero_le _⟩, _, rfl, ifF (by decide) ?_⟩⟩
  refine ⟨rfl, sw t, _, rfl, sk, by omega, by omega, rule_ord (sw t), ord_mem (rule_ord (sw t)), fun _ => ⟨?_, fun r => ⟨_, at0 _ _, ⟨rfl, rfl, Nat.zero_le _⟩, _, rfl, ifF (by decide) (r_tl3 ok q)⟩⟩, fun z => absurd z (by omega)⟩
  obtain ⟨f, lot, l1, l2, l3⟩ := paper_at sk
  exact ⟨f, lot, l1, l2, by omega⟩
theorem r_tl5 (ok : Ok2 t) (od : Ord t.length o) (hne : lot ≠ []) (hs : lot.Sublist (rangeI t.length)) (q : Q (.bool true)) :
    tl5_law_is_right sp_best_two_orders sp_law_are_threes_right sp_least_at_once sp_twos_told (hends h Q) (stR h w t o s6 s7 (.p (.int (worth true t lot))) (.p (.int (end2 t (rule t)))) (.p (.int (end2 t o))) s11) := by
  have h1 := rule_least ok od
  have h2 := paper_le ok (rule_ord t) hne hs true
  exact ⟨_, rfl, ifF (decide_eq_false (by omega)) ⟨_, rfl, ifF (decide_eq_false (by omega)) (r_tl4 ok q)⟩⟩
theorem r_tl6 (ok : Ok2 t) (od : Ord t.length o) (hne : lot ≠ []) (hs : lot.Sublist (rangeI t.length)) (q : Q (.bool true)) :
    tl6_law_is_right sp_best_two_orders sp_law_are_threes_right sp_law_end sp_least_at_once sp_least_end sp_rule_of_twos sp_twos_told (hends h Q) (stR h w t o s6 s7 (.p (.int (worth true t lot))) (.p (.int (end2 t (rule t)))) (.p (.int (end2 t o))) s11) := by
  have sk := sw_ok ok
  have h1 := sk.1
  refine ⟨rfl, sw t, rfl, sk, rule_ord (sw t), ok_ii, _, rfl, ifF (neF (rule_sw ok)) ?_⟩
  refine ⟨rfl, t, rfl, ok, rfl, rows2 (sw t), 2, (rule t).reverse, ?_, ?_, by omega, by omega, ?_, ?_, ok_ii, _, rfl, ifF (neF ?_) (r_tl5 ok od hne hs q)⟩
  · rw [rows2_en]
    show [en2 (sw t), PyData.tuple ((rule t).map .int).reverse] = [en2 (sw t), PyData.tuple ((rule t).reverse.map .int)]
    rw [List.map_reverse]
  · intro z
    unfold rows2 at z
    rw [List.map_eq_nil_iff] at z
    rw [z] at h1
    simp at h1
  · intro r hr
    obtain ⟨p, _, rfl⟩ := List.mem_map.mp hr
    rfl
  · intro i hi
    have := Ord.mem (rule_ord t) i (List.mem_reverse.mp hi)
    unfold rows2
    rw [List.length_map, sw_len]
    exact this
  · rw [lawEnd2 sk (fun i hi => by rw [sw_len]; exact Ord.mem (rule_ord t) i (List.mem_reverse.mp hi)), end2_sw ok]
theorem r_tl7 (ok : Ok2 t) (od : Ord t.length o) (hne : lot ≠ []) (hs : lot.Sublist (rangeI t.length)) (q : Q (.bool true)) :
    tl7_law_is_right sp_best_two_orders sp_law_are_threes_right sp_law_end sp_least_at_once sp_least_end sp_rule_of_twos sp_twos_told (hends h Q) (stR h w t o s6 s7 (.p (.int (worth true t lot))) s9 (.p (.int (end2 t o))) s11) :=
  ⟨rfl, t, rfl, ok, rule_ord t, r_tl6 ok od hne hs q⟩
theorem lot_ok (hs : lot.Sublist (rangeI t.length)) (ok : Ok2 t) : lot.length ≤ 1000 ∧ (∀ i ∈ lot, 0 ≤ i ∧ i < t.length) ∧ lot.Pairwise (· < ·) := by
  have h7 := ok.2.1
  refine ⟨?_, fun i hi => mem_rangeI.mp (hs.subset hi), ?_⟩
  · have := hs.length_le
    rw [rangeI_len] at this
    omega
  · refine List.Pairwise.sublist hs ?_
    unfold rangeI
    rw [List.pairwise_map]
    exact List.pairwise_lt_range.imp fun h => by omega
theorem r_tl8 (ok : Ok2 t) (od : Ord t.length o) (hne : lot ≠ []) (hs : lot.Sublist (rangeI t.length)) (q : Q (.bool true)) :
    tl8_law_is_right sp_best_two_orders sp_law_are_threes_right sp_law_end sp_least_at_once sp_least_end sp_paper_worth sp_rule_of_twos sp_twos_told (hends h Q) (stR h w t o (.p (tuI lot)) s7 (.p (.int (worth true t lot))) s9 (.p (.int (end2 t o))) s11) := by
  obtain ⟨l1, l2, l3⟩ := lot_ok hs ok
  have sk := sw_ok ok
  refine ⟨rfl, t, "last", lot, rfl, .inr rfl, ok, hne, l1, l2, l3, rfl, sw t, "first", lot, rfl, .inl rfl, sk, hne, l1, by rw [sw_len]; exact l2, l3, ok_ii, _, rfl, ifF (neF ?_) (r_tl7 ok od hne hs q)⟩
  rw [worth_sw]
  rfl
theorem r_tl9 (ok : Ok2 t) (od : Ord t.length o) (hne : lot ≠ []) (hs : lot.Sublist (rangeI t.length)) (q : Q (.bool true)) :
    tl9_law_is_right sp_best_two_orders sp_law_are_threes_right sp_law_end sp_least_at_once sp_least_end sp_paper_worth sp_rule_of_twos sp_twos_told (hends h Q) (stR h w t o (.p (tuI lot)) s7 (.p (.int (worth true t lot))) s9 (.p (.int (end2 t o))) s11) := by
  obtain ⟨l1, l2, l3⟩ := lot_ok hs ok
  have sk := sw_ok ok
  refine ⟨rfl, t, "first", lot, rfl, .inl rfl, ok, hne, l1, l2, l3, ok_ii, _, rfl, ifF (neF rfl) ⟨rfl, sw t, "last", lot, rfl, .inr rfl, sk, hne, l1, by rw [sw_len]; exact l2, l3, ok_ii, _, rfl, ifF (neF ?_) (r_tl8 ok od hne hs q)⟩⟩
  rw [worth_sw]
  rfl
theorem r_tl10 (ok : Ok2 t) (od : Ord t.length o) (hne : lot ≠ []) (hs : lot.Sublist (rangeI t.length)) (q : Q (.bool true)) :
    tl10_law_is_right sp_best_two_orders sp_law_are_threes_right sp_law_end sp_least_at_once sp_least_end sp_paper_worth sp_rule_of_twos sp_twos_told (hends h Q) (stR h w t o (.p (tuI lot)) (.p (.int (restL t lot).sum)) s8 s9 (.p (.int (end2 t o))) s11) := by
  have hz : sizeLine = 16777216 := sizeLine_eq
  obtain ⟨l1, l2, l3⟩ := lot_ok hs ok
  have lz : 0 + (lot.map PyData.int).length ≤ sizeLine := by
    rw [List.length_map]
    omega
  refine ⟨nh rfl, lot.map .int, rfl, lcK_run _ (step_at (t := t) (f := true) (lot := lot) (fun _ => rfl) (fun _ => rfl) (fun _ _ q => q) l2) lz ?_⟩
  rw [List.nil_append, lot_map]
  obtain ⟨n0, ns0, e0⟩ : ∃ n0 ns0, (lot.map fun i => sel true (at2 t i)) = n0 :: ns0 := List.exists_cons_of_ne_nil (by simpa using hne)
  rw [e0]
  refine ⟨ord_ints (n0 :: ns0), ?_⟩
  rw [show PySem.W.minD (PyData.int n0) (List.map PyData.int ns0) = .int (minI (n0 :: ns0)) from PySem.W.minD_ints n0 ns0, ← e0]
  refine ⟨nh rfl, lot.map .int, rfl, lcK_run _ (step_at (t := t) (f := false) (lot := lot) (fun _ => rfl) (fun _ => rfl) (fun _ _ q => q) l2) lz ?_⟩
  rw [List.nil_append, lot_map]
  refine ⟨_, allInts_ints _, ?_⟩
  exact r_tl9 ok od hne hs q
theorem r_tl11 (ok : Ok2 t) (od : Ord t.length o) (hne : lot ≠ []) (hs : lot.Sublist (rangeI t.length)) (q : Q (.bool true)) :
    tl11_law_is_right sp_best_two_orders sp_law_are_threes_right sp_law_end sp_least_at_once sp_least_end sp_paper_worth sp_rule_of_twos sp_twos_told (hends h Q) (stR h w t o (.p (tuI lot)) s7 s8 s9 (.p (.int (end2 t o))) s11) := by
  have hz : sizeLine = 16777216 := sizeLine_eq
  have h7 := ok.2.1
  refine ⟨nh rfl, t.map pr, rfl, lcK_run (fRest lot) (step_rest (lot := lot) (fun _ _ => rfl) (fun _ _ => rfl) (fun _ _ => rfl)) ?_ ?_⟩
  · rw [enum_len]
    show 0 + t.length ≤ sizeLine
    omega
  · rw [List.nil_append, rest_eq]
    refine ⟨_, allInts_ints _, ?_⟩
    exact r_tl10 ok od hne hs q
theorem r_tl12 (ok : Ok2 t) (od : Ord t.length o) (hs : lot.Sublist (rangeI t.length)) (q : Q (.bool true)) :
    tl12_law_is_right sp_best_two_orders sp_law_are_threes_right sp_law_end sp_least_at_once sp_least_end sp_paper_worth sp_rule_of_twos sp_twos_told (hends h Q) (stR h w t o (.p (tuI lot)) s7 s8 s9 (.p (.int (end2 t o))) s11) := by
  have hz : sizeLine = 16777216 := sizeLine_eq
  have h1 := ok.1
  refine ⟨by show 0 ≤ sizeLine; omega, ⟨plain_ints lot, rfl, ?_⟩, _, rfl, ?_⟩
  · refine Nat.le_trans (Nat.min_le_left _ _) ?_
    show PyData.depthAll (lot.map .int) + 1 ≤ 64
    rw [depth_ints]
    omega
  · cases lot with
    | nil =>
      refine ifF rfl ⟨trivial, by show 1 ≤ sizeLine; omega, ?_⟩
      refine r_tl11 (lot := [0]) ok od (by simp) ?_ q
      unfold rangeI
      obtain ⟨n, e⟩ : ∃ n, t.length = n + 1 := ⟨t.length - 1, by omega⟩
      rw [e, List.range_succ_eq_map]
      exact List.Sublist.cons_cons _ (List.nil_sublist _)
    | cons i l => exact ifT rfl (r_tl11 ok od (by simp) hs q)
/-- a turn that takes its item or leaves it -/
theorem lcK_sub {G : GT} {T : ET} {A : E} {s0 : SS} : ∀ {ds acc : List D} {Q : List D → Prop}, (∀ d ∈ ds, ∀ (acc : List D) (k : List D → Prop), acc.length < sizeLine → k acc → k (acc ++ [d]) → G d s0 fun s => T s fun b => if b = true then A s fun x => x.fz ∧ acc.length < sizeLine ∧ k (acc ++ [x.get]) else k acc) →
    acc.length + ds.length ≤ sizeLine → (∀ out, out.Sublist ds → Q (acc ++ out)) → lcK G T A s0 ds acc Q
  | [], acc, Q, _, _, q => by
    have := q [] (List.Sublist.refl _)
    rw [List.append_nil] at this
    exact this
  | d :: ds, acc, Q, h, hz, q => by
    rw [List.length_cons] at hz
    refine h d (List.mem_cons_self ..) acc (fun a => lcK G T A s0 ds a Q) (by omega) (lcK_sub (fun e m => h e (List.mem_cons_of_mem _ m)) (by omega) fun out ho => q out (List.Sublist.cons _ ho)) (lcK_sub (fun e m => h e (List.mem_cons_of_mem _ m)) ?_ fun out ho => ?_)
    · rw [List.length_append]
      show acc.length + 1 + ds.length ≤ _
      omega
    · rw [List.append_assoc]
      exact q (d :: out) (List.Sublist.cons_cons _ ho)
theorem sub_ints : ∀ {ns : List Int} {out : List D}, out.Sublist (ns.map PyData.int) → ∃ l : List Int, out = l.map .int ∧ l.Sublist ns := fun {ns out} h => by
  obtain ⟨l, hl, e⟩ := List.sublist_map_iff.mp h
  exact ⟨l, e, hl⟩
theorem r_tl13 (ok : Ok2 t) (od : Ord t.length o) (q : Q (.bool true)) :
    tl13_law_is_right sp_best_two_orders sp_law_are_threes_right sp_law_draw sp_law_end sp_least_at_once sp_least_end sp_paper_worth sp_rule_of_twos sp_twos_told (hends h Q) (stR h w t o s6 s7 s8 s9 (.p (.int (end2 t o))) s11) := by
  have hz : sizeLine = 16777216 := sizeLine_eq
  have h7 := ok.2.1
  refine ⟨nh rfl, ((t.map pr).length : Int), rfl, by omega, by rw [List.length_map]; omega, lcK_sub (fun d hd acc k hz' q1 q2 => ?_) ?_ fun out ho => ?_⟩
  · refine ⟨⟨h, rfl⟩, rfl, 2, rfl, by omega, by omega, fun r r0 r1 => ⟨ok_ii, _, rfl, ?_⟩⟩
    rw [show PyData.eqv (Val.p (.int r)).get (Val.p (.int 0)).get = decide (r = 0) from eq_ints' _ _]
    by_cases hr : r = 0
    · exact ifT (decide_eq_true hr) ⟨trivial, hz', q2⟩
    · exact ifF (decide_eq_false hr) q1
  · rw [rangeD_len]
    show 0 + (((t.map pr).length : Int)).toNat ≤ sizeLine
    rw [List.length_map]
    omega
  · rw [Int.toNat_natCast, rangeD_eq, List.length_map] at ho
    obtain ⟨l, e, hl⟩ := sub_ints ho
    rw [List.nil_append, e]
    exact r_tl12 ok od hl q
theorem r_tl14 (ok : Ok2 t) (od : Ord t.length o) (q : Q (.bool true)) :
    tl14_law_is_right sp_best_two_orders sp_end_without_place sp_law_are_threes_right sp_law_draw sp_law_end sp_least_at_once sp_least_end sp_paper_worth sp_rule_of_twos sp_twos_told (hends h Q) (stR h w t o s6 s7 s8 s9 (.p (.int (end2 t o))) (.p (.int (once t 0 0 o)))) := by
  have sk := sw_ok ok
  refine ⟨rfl, t, o, rfl, ok, od, ok_ii, _, rfl, ifF (neF (once_barr t o 0 0).symm) ⟨rfl, sw t, o.reverse, rfl, sk, by rw [sw_len]; exact Ord.rev od, ok_ii, _, rfl, ifF (neF ?_) (r_tl13 ok od q)⟩⟩
  rw [barr_sw ok, once_barr]
theorem once_sw (ok : Ok2 t) : once (sw t) 0 0 o.reverse = once t 0 0 o := by rw [once_barr, once_barr, barr_sw ok]
theorem r_tl15 (ok : Ok2 t) (od : Ord t.length o) (q : Q (.bool true)) :
    tl15_law_is_right sp_best_two_orders sp_end_at_once sp_end_without_place sp_law_are_threes_right sp_law_at_once sp_law_draw sp_law_end sp_least_at_once sp_least_end sp_paper_worth sp_rule_of_twos sp_twos_told (hends h Q) (stR h w t o s6 s7 s8 s9 (.p (.int (end2 t o))) (.p (.int (once t 0 0 o)))) := by
  have hz : sizeLine = 16777216 := sizeLine_eq
  have sk := sw_ok ok
  have os : Ord (sw t).length o.reverse := by rw [sw_len]; exact Ord.rev od
  refine ⟨rfl, t, o, rfl, ok, od, trivial, rfl, sw t, o.reverse, rfl, sk, os, trivial, rfl, sw t, o.reverse, rfl, Ord.mem os, trivial, by show 3 ≤ sizeLine; omega, trivial, by show 1 ≤ sizeLine; omega, by decide, by decide, by show 1 * 3 ≤ sizeLine; omega, ⟨rfl, rfl, ?_⟩, _, rfl, ifF ?_ (r_tl14 ok od q)⟩
  · exact Nat.le_trans (Nat.min_le_left _ _) (by show PyData.depthAll ([once t 0 0 o, once (sw t) 0 0 o.reverse, once (sw t) 0 0 o.reverse].map PyData.int) + 1 ≤ 64; rw [depth_ints]; omega)
  · rw [once_sw ok]
    show (!PyData.eqvAll ([once t 0 0 o, once t 0 0 o, once t 0 0 o].map .int) ([once t 0 0 o, once t 0 0 o, once t 0 0 o].map .int)) = false
    rw [eqv_ints, decide_eq_true rfl]
    rfl
theorem r_tl16 (ok : Ok2 t) (od : Ord t.length o) (q : Q (.bool true)) :
    tl16_law_is_right sp_best_two_orders sp_end_at_once sp_end_by sp_end_without_place sp_law_are_threes_right sp_law_at_once sp_law_draw sp_law_end sp_least_at_once sp_least_end sp_paper_worth sp_rule_of_twos sp_twos_told (hends h Q) (stR h w t o s6 s7 s8 s9 (.p (.int (end2 t o))) (.p (.int (once t 0 0 o)))) := by
  have sk := sw_ok ok
  have h1 := sk.1
  have os : Ord (sw t).length o.reverse := by rw [sw_len]; exact Ord.rev od
  refine ⟨rfl, t, o, rfl, ok, od, ok_ii, _, rfl, ifF (neF rfl) ⟨rfl, sw t, o.reverse, rfl, sk, os, ok_ii, _, rfl, ifF (neF (end2_sw ok o)) ⟨rfl, rows2 (sw t), 2, o.reverse, ?_, ?_, by omega, by omega, ?_, ?_, ok_ii, _, rfl, ifF (neF ?_) (r_tl15 ok od q)⟩⟩⟩
  · rw [rows2_en]
    rfl
  · intro z
    unfold rows2 at z
    rw [List.map_eq_nil_iff] at z
    rw [z] at h1
    simp at h1
  · intro r hr
    obtain ⟨p, _, rfl⟩ := List.mem_map.mp hr
    rfl
  · unfold rows2
    rw [List.length_map]
    exact Ord.mem os
  · rw [lawEnd2 sk (Ord.mem os), end2_sw ok]
theorem r_tl17 (ok : Ok2 t) (od : Ord t.length o) (q : Q (.bool true)) :
    tl17_law_is_right sp_best_two_orders sp_end_at_once sp_end_by sp_end_without_place sp_law_are_threes_right sp_law_at_once sp_law_draw sp_law_end sp_least_at_once sp_least_end sp_paper_worth sp_rule_of_twos sp_twos_told (hends h Q) (stR h w t o s6 s7 s8 s9 s10 s11) := by
  have h1 := ok.1
  refine ⟨rfl, rows2 t, 2, o, ?_, ?_, by omega, by omega, ?_, ?_, trivial, rfl, t, o, rfl, Ord.mem od, trivial, rfl, ?_⟩
  · rw [rows2_en]
    rfl
  · intro z
    unfold rows2 at z
    rw [List.map_eq_nil_iff] at z
    rw [z] at h1
    simp at h1
  · intro r hr
    obtain ⟨p, _, rfl⟩ := List.mem_map.mp hr
    rfl
  · unfold rows2
    rw [List.length_map]
    exact Ord.mem od
  · rw [lawEnd2 ok (Ord.mem od)]
    exact r_tl16 ok od q
end
end Gk01

set_option maxRecDepth 100000
set_option maxHeartbeats 4000000
namespace Gk01
open PySem PySem.Spec PyProof.Rows L2 Z3

def fSw : D → Option D
  | .tuple [a, b] => some (.tuple [b, a])
  | _ => none
theorem fSw_eq (t : Tw) : (t.map pr).filterMap fSw = (sw t).map pr := by
  unfold sw
  rw [List.filterMap_map, List.map_map]
  exact fm_some _ _
section
variable {h : Addr} {Q : D → Prop} {w : Int} {t : Tw} {o : List Int}
theorem r_tl18 (ok : Ok2 t) (od : Ord t.length o) (q : Q (.bool true)) :
    tl18_law_is_right sp_best_two_orders sp_end_at_once sp_end_by sp_end_without_place sp_law_are_threes_right sp_law_at_once sp_law_draw sp_law_end sp_least_at_once sp_least_end sp_paper_worth sp_rule_of_twos sp_twos_told (hends h Q)
      [.hand h, .p (.int w), .p (en2 t), .p (en2 (sw t)), .p (tuI o), .any, .any, .any, .any, .any, .any, .any, .any, .any, .any, .any, .any] := by
  show tl17_law_is_right sp_best_two_orders sp_end_at_once sp_end_by sp_end_without_place sp_law_are_threes_right sp_law_at_once sp_law_draw sp_law_end sp_least_at_once sp_least_end sp_paper_worth sp_rule_of_twos sp_twos_told (hends h Q)
      [.hand h, .p (.int w), .p (en2 t), .p (en2 (sw t)), .p (tuI o), .p (.tuple (o.map .int).reverse), .any, .any, .any, .any, .any, .any, .any, .any, .any, .any, .any]
  rw [← List.map_reverse]
  exact r_tl17 ok od q
theorem r_tl19 (ok : Ok2 t) (q : Q (.bool true)) :
    tl19_law_is_right sp_best_two_orders sp_end_at_once sp_end_by sp_end_without_place sp_law_are_threes_right sp_law_at_once sp_law_draw sp_law_end sp_law_mixed sp_least_at_once sp_least_end sp_paper_worth sp_rule_of_twos sp_twos_told (hends h Q)
      [.hand h, .p (.int w), .p (en2 t), .p (en2 (sw t)), .any, .any, .any, .any, .any, .any, .any, .any, .any, .any, .any, .any, .any] := by
  have h7 := ok.2.1
  refine ⟨⟨h, rfl⟩, ((t.map pr).length : Int), rfl, by omega, by rw [List.length_map]; omega, rfl, rangeI t.length, ?_, by rw [rangeI_len]; omega, fun ms hp => ?_⟩
  · show [PyData.list (rangeD 0 (((t.map pr).length : Int)).toNat)] = _
    rw [rangeD_eq, Int.toNat_natCast, List.length_map]
  · exact r_tl18 ok hp q
theorem r_tl20 (ok : Ok2 t) (q : Q (.bool true)) :
    tl20_law_is_right sp_best_two_orders sp_end_at_once sp_end_by sp_end_without_place sp_law_are_threes_right sp_law_at_once sp_law_draw sp_law_end sp_law_mixed sp_least_at_once sp_least_end sp_paper_worth sp_rule_of_twos sp_twos_told (hends h Q)
      [.hand h, .p (.int w), .p (en2 t), .any, .any, .any, .any, .any, .any, .any, .any, .any, .any, .any, .any, .any, .any] := by
  have hz : sizeLine = 16777216 := sizeLine_eq
  have h7 := ok.2.1
  refine ⟨nh rfl, t.map pr, rfl, lcK_run fSw (fun d hd acc k hz' q' => ?_) ?_ ?_⟩
  · obtain ⟨p, _, rfl⟩ := List.mem_map.mp hd
    exact ⟨_, rfl, rfl, _, _, rfl, _, _, rfl, rfl, trivial, trivial, by show 2 ≤ sizeLine; omega, trivial, hz', q'⟩
  · show 0 + (t.map pr).length ≤ sizeLine
    rw [List.length_map]
    omega
  · rw [List.nil_append, fSw_eq]
    exact r_tl19 ok q
/-- rows that were drawn -/
theorem each_pr : ∀ {ds out : List D}, Each (fun _ y => ∃ a b : Int, y = pr (a, b) ∧ (1 ≤ a ∧ a ≤ 60) ∧ 1 ≤ b ∧ b ≤ 60) ds out → ∃ t : Tw, out = t.map pr ∧ t.length = ds.length ∧ ∀ p ∈ t, (1 ≤ p.1 ∧ p.1 ≤ 60) ∧ 1 ≤ p.2 ∧ p.2 ≤ 60
  | _, _, .nil => ⟨[], rfl, rfl, fun p hp => (List.not_mem_nil hp).elim⟩
  | _, _, .cons hd r => by
    obtain ⟨a, b, rfl, h1, h2⟩ := hd
    obtain ⟨t, e, l, ht⟩ := each_pr r
    refine ⟨(a, b) :: t, by rw [e]; rfl, by rw [List.length_cons, List.length_cons, l], fun p hp => ?_⟩
    rcases List.mem_cons.mp hp with rfl | hp
    · exact ⟨h1, h2⟩
    · exact ht p hp
theorem r_tl21 (w0 : 0 < w) (w1 : w ≤ 60) (q : Q (.bool true)) :
    tl21_law_is_right sp_best_two_orders sp_end_at_once sp_end_by sp_end_without_place sp_law_are_threes_right sp_law_at_once sp_law_draw sp_law_end sp_law_mixed sp_least_at_once sp_least_end sp_paper_worth sp_rule_of_twos sp_twos_told (hends h Q)
      [.hand h, .p (.int w), .any, .any, .any, .any, .any, .any, .any, .any, .any, .any, .any, .any, .any, .any, .any] := by
  have hz : sizeLine = 16777216 := sizeLine_eq
  refine ⟨nh rfl, ⟨h, rfl⟩, rfl, 7, rfl, by omega, by omega, fun r r0 r1 => ⟨1 + r, rfl, by omega, by omega, lcK_each (fun _ y => ∃ a b : Int, y = pr (a, b) ∧ (1 ≤ a ∧ a ≤ 60) ∧ 1 ≤ b ∧ b ≤ 60) (fun d hd acc k hz' q' => ?_) ?_ fun out ho => ?_⟩⟩
  · exact ⟨⟨h, rfl⟩, rfl, w, rfl, w0, by omega, fun a a0 a1 => ⟨trivial, ⟨h, rfl⟩, rfl, w, rfl, w0, by omega, fun b b0 b1 => ⟨trivial, by show 2 ≤ sizeLine; omega, trivial, hz', q' _ ⟨1 + a, 1 + b, rfl, by omega, by omega⟩⟩⟩⟩
  · rw [rangeD_len]
    show 0 + (1 + r).toNat ≤ sizeLine
    omega
  · obtain ⟨t, e, l, ht⟩ := each_pr ho
    rw [rangeD_len] at l
    rw [List.nil_append, e]
    exact r_tl20 ⟨by omega, by omega, ht⟩ q
end
def sp_law_is_right : Sd := fun ds Q => ds = [] ∧ Q (.bool true)
theorem p_law_is_right (h : Addr) (ds : List D) (Q : D → Prop) (hh : sp_law_is_right ds Q) :
    rd_law_is_right sp_law_any sp_least_end sp_law_are_threes_right sp_law_mixed sp_law_end sp_law_at_once sp_paper_worth sp_end_by sp_end_at_once sp_end_without_place sp_best_two_orders sp_twos_told sp_least_at_once sp_law_draw sp_rule_of_twos (hends h Q) (startH h n_law_is_right ds) := by
  have hz : sizeLine = 16777216 := sizeLine_eq
  obtain ⟨rfl, q⟩ := hh
  refine ⟨⟨h, rfl⟩, trivial, trivial, trivial, by show 3 ≤ sizeLine; omega, rfl, [.int 3, .int 10, .int 60], rfl, by simp, by simp, fun x hx => ?_⟩
  rcases List.mem_cons.mp hx with rfl | hx
  · exact r_tl21 (by omega) (by omega) q
  · rcases List.mem_cons.mp hx with rfl | hx
    · exact r_tl21 (by omega) (by omega) q
    · rcases List.mem_cons.mp hx with rfl | hx
      · exact r_tl21 (by omega) (by omega) q
      · cases hx

/-! ### three stations -/
def fSw3 : D → Option D
  | .tuple ds => some (.tuple ds.reverse)
  | _ => none
theorem fSw3_eq (t : Th) : (t.map p3).filterMap fSw3 = (swT t).map p3 := by
  unfold swT
  rw [List.filterMap_map, List.map_map]
  exact fm_some _ _
section
variable {h : Addr} {Q : D → Prop} {w : Int} {t : Th} {o : List Int} {s5 s6 s7 : SV}
abbrev stT (h : Addr) (w : Int) (t : Th) (o : List Int) (s5 s6 s7 : SV) : SS := [.hand h, .p (.int w), .p (en3 t), .p (en3 (swT t)), .p (tuI o), s5, s6, s7, .any, .any, .any]
theorem rows3_ok (ok : Ok3 t) : rows3 t ≠ [] ∧ (∀ r ∈ rows3 t, r.length = 3) ∧ (rows3 t).length = t.length := by
  have h1 := ok.1
  refine ⟨fun z => ?_, fun r hr => ?_, ?_⟩
  · unfold rows3 at z
    rw [List.map_eq_nil_iff] at z
    rw [z] at h1
    simp at h1
  · obtain ⟨p, _, rfl⟩ := List.mem_map.mp hr
    rfl
  · unfold rows3
    rw [List.length_map]
theorem t_tl1 (ok : Ok3 t) {b : List Int} (hb : b ∈ ords t.length) (hm : ∀ p ∈ ords t.length, ends3 t 0 0 0 b ≤ ends3 t 0 0 0 p) (q : Q (.bool true)) :
    tl1_law_are_threes_right sp_law_end sp_least_of_threes (hends h Q) (stT h w t o s5 (.p (.int (ends3 t 0 0 0 b))) (.p (tuI b))) := by
  have sk := swT_ok ok
  have ob := mem_ord hb
  have obs : Ord (swT t).length b.reverse := by rw [swT_len]; exact Ord.rev ob
  obtain ⟨r1, r2, r3⟩ := rows3_ok sk
  refine ⟨rfl, swT t, rfl, sk, fun c hc mc => ⟨_, at0 _ _, ok_ii, _, rfl, ifT ?_ ⟨rfl, rows3 (swT t), 3, b.reverse, ?_, r1, by omega, by omega, r2, by rw [r3]; exact Ord.mem obs, ok_ii, rfl, ?_⟩⟩⟩
  · show PyData.eqv (.int (ends3 (swT t) 0 0 0 c)) (.int (ends3 t 0 0 0 b)) = true
    rw [eq_ints']
    refine decide_eq_true ?_
    rw [swT_len] at hc mc
    have a1 := mc b.reverse (ord_mem (Ord.rev ob))
    rw [end3_sw ok] at a1
    have a2 := hm c.reverse (ord_mem (Ord.rev (mem_ord hc)))
    have a3 := end3_sw ok c.reverse
    rw [List.reverse_reverse] at a3
    omega
  · rw [rows3_en]
    show [en3 (swT t), PyData.tuple (b.map .int).reverse] = [en3 (swT t), PyData.tuple (b.reverse.map .int)]
    rw [List.map_reverse]
  · show Q (.bool (PyData.eqv (.int (lawEnd (rows3 (swT t)) b.reverse)) (.int (ends3 t 0 0 0 b))))
    rw [eq_ints', lawEnd3 sk (Ord.mem obs), end3_sw ok, decide_eq_true rfl]
    exact q
theorem t_tl2 (ok : Ok3 t) (q : Q (.bool true)) : tl2_law_are_threes_right sp_law_end sp_least_of_threes (hends h Q) (stT h w t o s5 s6 s7) :=
  ⟨rfl, t, rfl, ok, fun b hb hm => ⟨trivial, _, rfl, rfl, _, _, rfl, _, _, rfl, rfl, t_tl1 ok hb hm q⟩⟩
theorem t_tl3 (ok : Ok3 t) (q : Q (.bool true)) : tl3_law_are_threes_right sp_is_middle_light sp_law_end sp_least_of_threes (hends h Q) (stT h w t o s5 s6 s7) := by
  have sk := swT_ok ok
  refine ⟨rfl, t, rfl, ok, rfl, swT t, rfl, sk, ⟨rfl, rfl, Nat.zero_le _⟩, _, rfl, ifF ?_ (t_tl2 ok q)⟩
  rw [light_sw]
  cases isLight t <;> decide
theorem t_tl4 (ok : Ok3 t) (od : Ord t.length o) (q : Q (.bool true)) : tl4_law_are_threes_right sp_end_of_threes sp_is_middle_light sp_law_end sp_least_of_threes (hends h Q) (stT h w t o (.p (.int (ends3 t 0 0 0 o))) s6 s7) := by
  have sk := swT_ok ok
  have os : Ord (swT t).length o.reverse := by rw [swT_len]; exact Ord.rev od
  refine ⟨rfl, t, o, rfl, ok, od, ok_ii, _, rfl, ifF (neF rfl) ⟨rfl, swT t, o.reverse, ?_, sk, os, ok_ii, _, rfl, ifF (neF (end3_sw ok o)) (t_tl3 ok q)⟩⟩
  show [en3 (swT t), PyData.tuple (o.map .int).reverse] = [en3 (swT t), PyData.tuple (o.reverse.map .int)]
  rw [List.map_reverse]
theorem t_tl5 (ok : Ok3 t) (od : Ord t.length o) (q : Q (.bool true)) : tl5_law_are_threes_right sp_end_of_threes sp_is_middle_light sp_law_end sp_least_of_threes (hends h Q) (stT h w t o s5 s6 s7) := by
  obtain ⟨r1, r2, r3⟩ := rows3_ok ok
  refine ⟨rfl, rows3 t, 3, o, by rw [rows3_en]; rfl, r1, by omega, by omega, r2, by rw [r3]; exact Ord.mem od, ?_⟩
  rw [lawEnd3 ok (Ord.mem od)]
  exact t_tl4 ok od q
theorem t_tl6 (ok : Ok3 t) (q : Q (.bool true)) : tl6_law_are_threes_right sp_end_of_threes sp_is_middle_light sp_law_end sp_law_mixed sp_least_of_threes (hends h Q) [.hand h, .p (.int w), .p (en3 t), .p (en3 (swT t)), .any, .any, .any, .any, .any, .any, .any] := by
  have h7 := ok.2.1
  refine ⟨⟨h, rfl⟩, ((t.map p3).length : Int), rfl, by omega, by rw [List.length_map]; omega, rfl, rangeI t.length, ?_, by rw [rangeI_len]; omega, fun ms hp => t_tl5 ok hp q⟩
  show [PyData.list (rangeD 0 (((t.map p3).length : Int)).toNat)] = _
  rw [rangeD_eq, Int.toNat_natCast, List.length_map]
theorem t_tl7 (ok : Ok3 t) (q : Q (.bool true)) : tl7_law_are_threes_right sp_end_of_threes sp_is_middle_light sp_law_end sp_law_mixed sp_least_of_threes (hends h Q) [.hand h, .p (.int w), .p (en3 t), .any, .any, .any, .any, .any, .any, .any, .any] := by
  have hz : sizeLine = 16777216 := sizeLine_eq
  have h7 := ok.2.1
  refine ⟨nh rfl, t.map p3, rfl, lcK_run fSw3 (fun d hd acc k hz' q' => ?_) ?_ ?_⟩
  · obtain ⟨p, _, rfl⟩ := List.mem_map.mp hd
    exact ⟨trivial, hz', q'⟩
  · show 0 + (t.map p3).length ≤ sizeLine
    rw [List.length_map]
    omega
  · rw [List.nil_append, fSw3_eq]
    exact t_tl6 ok q
theorem each_p3 : ∀ {ds out : List D}, Each (fun _ y => ∃ p : Int × Int × Int, y = p3 p ∧ (1 ≤ p.1 ∧ p.1 ≤ 60) ∧ (1 ≤ p.2.1 ∧ p.2.1 ≤ 60) ∧ 1 ≤ p.2.2 ∧ p.2.2 ≤ 60) ds out → ∃ t : Th, out = t.map p3 ∧ t.length = ds.length ∧ ∀ p ∈ t, (1 ≤ p.1 ∧ p.1 ≤ 60) ∧ (1 ≤ p.2.1 ∧ p.2.1 ≤ 60) ∧ 1 ≤ p.2.2 ∧ p.2.2 ≤ 60
  | _, _, .nil => ⟨[], rfl, rfl, fun p hp => (List.not_mem_nil hp).elim⟩
  | _, _, .cons hd r => by
    obtain ⟨a, rfl, h1⟩ := hd
    obtain ⟨t, e, l, ht⟩ := each_p3 r
    refine ⟨a :: t, by rw [e]; rfl, by rw [List.length_cons, List.length_cons, l], fun p hp => ?_⟩
    rcases List.mem_cons.mp hp with rfl | hp
    · exact h1
    · exact ht p hp
theorem each_three {R : D → D → Prop} {a b c : D} {out : List D} (h : Each R [a, b, c] out) : ∃ x y z, out = [x, y, z] ∧ R a x ∧ R b y ∧ R c z := by
  cases h with
  | cons h1 r =>
    cases r with
    | cons h2 r =>
      cases r with
      | cons h3 r =>
        cases r
        exact ⟨_, _, _, rfl, h1, h2, h3⟩
theorem t_tl8 (w0 : 0 < w) (w1 : w ≤ 60) (q : Q (.bool true)) : tl8_law_are_threes_right sp_end_of_threes sp_is_middle_light sp_law_draw sp_law_end sp_law_mixed sp_least_of_threes (hends h Q) [.hand h, .p (.int w), .any, .any, .any, .any, .any, .any, .any, .any, .any] := by
  have hz : sizeLine = 16777216 := sizeLine_eq
  refine ⟨nh rfl, ⟨h, rfl⟩, rfl, 5, rfl, by omega, by omega, fun r r0 r1 => ⟨1 + r, rfl, by omega, by omega, lcK_each (fun _ y => ∃ p : Int × Int × Int, y = p3 p ∧ (1 ≤ p.1 ∧ p.1 ≤ 60) ∧ (1 ≤ p.2.1 ∧ p.2.1 ≤ 60) ∧ 1 ≤ p.2.2 ∧ p.2.2 ≤ 60) (fun d hd acc k hz' q' => ?_) ?_ fun out ho => ?_⟩⟩
  · refine ⟨nh rfl, 3, rfl, by omega, by omega, lcK_each (fun _ y => ∃ a : Int, y = .int a ∧ 1 ≤ a ∧ a ≤ 60) (fun d hd acc k hz' q' => ?_) ?_ fun out ho => ?_⟩
    · exact ⟨⟨h, rfl⟩, rfl, w, rfl, w0, by omega, fun a a0 a1 => ⟨trivial, hz', q' _ ⟨1 + a, rfl, by omega, by omega⟩⟩⟩
    · rw [rangeD_len]
      show 0 + 3 ≤ sizeLine
      omega
    · obtain ⟨x, y, z, rfl, ⟨a, rfl, ha⟩, ⟨b, rfl, hb⟩, c, rfl, hc⟩ := each_three (a := .int 0) (b := .int 1) (c := .int 2) ho
      exact ⟨trivial, hz', q' _ ⟨(a, b, c), rfl, ha, hb, hc⟩⟩
  · rw [rangeD_len]
    show 0 + (1 + r).toNat ≤ sizeLine
    omega
  · obtain ⟨t, e, l, ht⟩ := each_p3 ho
    rw [rangeD_len] at l
    rw [List.nil_append, e]
    exact t_tl7 ⟨by omega, by omega, ht⟩ q
end
theorem p_law_are_threes_right (h : Addr) (ds : List D) (Q : D → Prop) (hh : sp_law_are_threes_right ds Q) :
    rd_law_are_threes_right sp_law_any sp_law_end sp_least_of_threes sp_law_mixed sp_end_of_threes sp_is_middle_light sp_law_draw (hends h Q) (startH h n_law_are_threes_right ds) := by
  have hz : sizeLine = 16777216 := sizeLine_eq
  obtain ⟨rfl, q⟩ := hh
  refine ⟨⟨h, rfl⟩, trivial, trivial, trivial, by show 3 ≤ sizeLine; omega, rfl, [.int 3, .int 20, .int 60], rfl, by simp, by simp, fun x hx => ?_⟩
  rcases List.mem_cons.mp hx with rfl | hx
  · exact t_tl8 (by omega) (by omega) q
  · rcases List.mem_cons.mp hx with rfl | hx
    · exact t_tl8 (by omega) (by omega) q
    · rcases List.mem_cons.mp hx with rfl | hx
      · exact t_tl8 (by omega) (by omega) q
      · cases hx
end Gk01

set_option maxRecDepth 100000
set_option maxHeartbeats 4000000
namespace Gk01
open PySem PySem.Spec PyProof.Rows L2 Z3

/-! ### the law -/
def tEx : Tw := [(1, 5), (3, 2)]
theorem tEx_ok : Ok2 tEx := by
  refine ⟨by decide, by decide, fun p hp => ?_⟩
  rcases List.mem_cons.mp hp with rfl | hp
  · exact ⟨⟨by decide, by decide⟩, by decide, by decide⟩
  · rcases List.mem_cons.mp hp with rfl | hp
    · exact ⟨⟨by decide, by decide⟩, by decide, by decide⟩
    · cases hp
theorem oEx : Ord tEx.length [0, 1] := List.Perm.refl _
theorem all_ones : ∀ {ds out : List D}, Each (fun _ y => y = .bool true) ds out → ∃ bs, allBools out = some bs ∧ bs.all id = true
  | _, _, .nil => ⟨[], rfl, rfl⟩
  | _, _, .cons hd r => by
    subst hd
    obtain ⟨bs, e, a⟩ := all_ones r
    refine ⟨true :: bs, ?_, a⟩
    show (allBools _).map (true :: ·) = _
    rw [e]
    rfl
theorem p_law (ns : List Int) (hn : ns.length ≤ 63) : rd_law sp_end_by sp_end_at_once sp_law_is_right (fun ns => ns.length ≤ 63) { nx := fun _ => False, rt := fun d _ => d = .bool true } (.p (.list (ns.map .int)) :: List.replicate (n_law.length - 1) .any) := by
  have hz : sizeLine = 16777216 := sizeLine_eq
  have two : 2 ≤ sizeLine := by omega
  have nh0 : ∀ (l : Nat) (h : Addr), ([.p (.list (ns.map .int)), .any, .any] : SS)[l]? ≠ some (.hand h) := fun l h z => by
    match l, z with
    | 0, z => cases z
    | 1, z => cases z
    | 2, z => cases z
    | l + 3, z => cases z
  refine ⟨ns, by decide, by show 1 < 3; omega, nh0, rfl, hn, fun h => ?_⟩
  refine ⟨trivial, trivial, two, trivial, trivial, trivial, two, trivial, two, trivial, trivial, two, rfl, tEx, [0, 1], rfl, tEx_ok, oEx, ok_ii, _, rfl, ifF (neF (by decide)) ?_⟩
  refine ⟨trivial, trivial, two, trivial, trivial, trivial, two, trivial, two, trivial, trivial, two, rfl, tEx, [0, 1], rfl, tEx_ok, oEx, ok_ii, _, rfl, ifF (neF (by decide)) ?_⟩
  refine ⟨nh rfl, 4, rfl, by omega, by omega, lcK_each (fun _ y => y = .bool true) (fun d hd acc k hz' q' => ?_) ?_ fun out ho => ?_⟩
  · exact ⟨⟨h, rfl⟩, rfl, rfl, trivial, hz', q' _ rfl⟩
  · rw [rangeD_len]
    show 0 + 4 ≤ sizeLine
    omega
  · obtain ⟨bs, e1, e2⟩ := all_ones ho
    rw [List.nil_append]
    refine ⟨bs, e1, ?_⟩
    show PyData.bool (bs.all id) = .bool true
    rw [e2]
end Gk01

set_option maxRecDepth 100000
set_option maxHeartbeats 0
namespace Gk01
open PySem PySem.Spec PyProof.Rows L2 Z3
section
variable {Pg : Program} {w : World} {K : PySem.W.Frag} {mg : PySem.Str → Option Value} {base : Heap}
theorem cal_is_integer (e : Nm K mg) : CalD Pg w K mg base 1 "is_integer" 1 sp_is_integer :=
  cal_D e.f_is_integer sc_is_integer rfl bi_is_integer (fun f => w_is_integer e  f) fun ds Q _ h => p_is_integer ds Q h
theorem cal_is_within (e : Nm K mg) : CalD Pg w K mg base 2 "is_within" 3 sp_is_within :=
  cal_D e.f_is_within sc_is_within rfl bi_is_within (fun f => w_is_within e (cal_is_integer e) f) fun ds Q _ h => p_is_within ds Q h
theorem cal_is_sized (e : Nm K mg) : CalD Pg w K mg base 1 "is_sized" 3 sp_is_sized :=
  cal_D e.f_is_sized sc_is_sized rfl bi_is_sized (fun f => w_is_sized e  f) fun ds Q _ h => p_is_sized ds Q h
theorem cal_are_rising (e : Nm K mg) : CalD Pg w K mg base 1 "are_rising" 1 sp_are_rising :=
  cal_D e.f_are_rising sc_are_rising rfl bi_are_rising (fun f => w_are_rising e  f) fun ds Q _ h => p_are_rising ds Q h
theorem cal_is_lot (e : Nm K mg) : CalD Pg w K mg base 3 "is_lot" 2 sp_is_lot :=
  cal_D e.f_is_lot sc_is_lot rfl bi_is_lot (fun f => w_is_lot e (cal_are_rising e) (cal_is_within e) f) fun ds Q _ h => p_is_lot ds Q h
theorem cal_is_order (e : Nm K mg) : CalD Pg w K mg base 2 "is_order" 2 sp_is_order :=
  cal_D e.f_is_order sc_is_order rfl bi_is_order (fun f => w_is_order e (cal_is_sized e) (cal_is_integer e) f) fun ds Q _ h => p_is_order ds Q h
theorem cal_all_lots (e : Nm K mg) : CalD Pg w K mg base 1 "all_lots" 1 sp_all_lots :=
  cal_D e.f_all_lots sc_all_lots rfl bi_all_lots (fun f => w_all_lots e  f) fun ds Q _ h => p_all_lots ds Q h
theorem cal_all_orders (e : Nm K mg) : CalD Pg w K mg base 1 "all_orders" 1 sp_all_orders :=
  cal_D e.f_all_orders sc_all_orders rfl bi_all_orders (fun f => w_all_orders e  f) fun ds Q _ h => p_all_orders ds Q h
theorem cal_are_minutes (e : Nm K mg) : CalD Pg w K mg base 3 "are_minutes" 2 sp_are_minutes :=
  cal_D e.f_are_minutes sc_are_minutes rfl bi_are_minutes (fun f => w_are_minutes e (cal_is_sized e) (cal_is_within e) f) fun ds Q _ h => p_are_minutes ds Q h
theorem cal_are_twos (e : Nm K mg) : CalD Pg w K mg base 4 "are_twos" 1 sp_are_twos :=
  cal_D e.f_are_twos sc_are_twos rfl bi_are_twos (fun f => w_are_twos e (cal_is_sized e) (cal_are_minutes e) f) fun ds Q _ h => p_are_twos ds Q h
theorem cal_check_twos (e : Nm K mg) : CalD Pg w K mg base 5 "check_twos" 1 sp_check_twos :=
  cal_D e.f_check_twos sc_check_twos rfl bi_check_twos (fun f => w_check_twos e (cal_are_twos e) f) fun ds Q _ h => p_check_twos ds Q h
theorem cal_check_two_order (e : Nm K mg) : CalD Pg w K mg base 6 "check_two_order" 2 sp_check_two_order :=
  cal_D e.f_check_two_order sc_check_two_order rfl bi_check_two_order (fun f => w_check_two_order e (cal_check_twos e) (cal_is_order e) f) fun ds Q _ h => p_check_two_order ds Q h
theorem cal_raw_ends (e : Nm K mg) : CalD Pg w K mg base 1 "raw_ends" 2 sp_raw_ends :=
  cal_D e.f_raw_ends sc_raw_ends rfl bi_raw_ends (fun f => w_raw_ends e  f) fun ds Q _ h => p_raw_ends ds Q h
theorem cal_raw_end (e : Nm K mg) : CalD Pg w K mg base 2 "raw_end" 2 sp_raw_end :=
  cal_D e.f_raw_end sc_raw_end rfl bi_raw_end (fun f => w_raw_end e (cal_raw_ends e) f) fun ds Q _ h => p_raw_end ds Q h
theorem cal_end_by (e : Nm K mg) : CalD Pg w K mg base 7 "end_by" 2 sp_end_by :=
  cal_D e.f_end_by sc_end_by rfl bi_end_by (fun f => w_end_by e (cal_check_two_order e) (cal_raw_end e) f) fun ds Q _ h => p_end_by ds Q h
theorem cal_check_side (e : Nm K mg) : CalD Pg w K mg base 1 "check_side" 1 sp_check_side :=
  cal_D e.f_check_side sc_check_side rfl bi_check_side (fun f => w_check_side e  f) fun ds Q _ h => p_check_side ds Q h
theorem cal_raw_paper_worth (e : Nm K mg) : CalD Pg w K mg base 1 "raw_paper_worth" 3 sp_raw_paper_worth :=
  cal_D e.f_raw_paper_worth sc_raw_paper_worth rfl bi_raw_paper_worth (fun f => w_raw_paper_worth e  f) fun ds Q _ h => p_raw_paper_worth ds Q h
theorem cal_paper_worth (e : Nm K mg) : CalD Pg w K mg base 6 "paper_worth" 3 sp_paper_worth :=
  cal_D e.f_paper_worth sc_paper_worth rfl bi_paper_worth (fun f => w_paper_worth e (cal_check_twos e) (cal_check_side e) (cal_raw_paper_worth e) (cal_is_lot e) f) fun ds Q _ h => p_paper_worth ds Q h
theorem cal_papers_above (e : Nm K mg) : CalD Pg w K mg base 2 "papers_above" 2 sp_papers_above :=
  cal_D e.f_papers_above sc_papers_above rfl bi_papers_above (fun f => w_papers_above e (cal_all_lots e) (cal_raw_paper_worth e) f) fun ds Q _ h => p_papers_above ds Q h
theorem cal_check_two_minute (e : Nm K mg) : CalD Pg w K mg base 6 "check_two_minute" 2 sp_check_two_minute :=
  cal_D e.f_check_two_minute sc_check_two_minute rfl bi_check_two_minute (fun f => w_check_two_minute e (cal_check_twos e) (cal_is_within e) f) fun ds Q _ h => p_check_two_minute ds Q h
theorem cal_rule_order (e : Nm K mg) : CalD Pg w K mg base 1 "rule_order" 1 sp_rule_order :=
  cal_D e.f_rule_order sc_rule_order rfl bi_rule_order (fun f => w_rule_order e  f) fun ds Q _ h => p_rule_order ds Q h
theorem cal_twos_told (e : Nm K mg) : CalD Pg w K mg base 7 "twos_told" 2 sp_twos_told :=
  cal_D e.f_twos_told sc_twos_told rfl bi_twos_told (fun f => w_twos_told e (cal_check_two_minute e) (cal_raw_end e) (cal_rule_order e) (cal_papers_above e) (cal_all_orders e) f) fun ds Q _ h => p_twos_told ds Q h
theorem cal_rule_of_twos (e : Nm K mg) : CalD Pg w K mg base 6 "rule_of_twos" 1 sp_rule_of_twos :=
  cal_D e.f_rule_of_twos sc_rule_of_twos rfl bi_rule_of_twos (fun f => w_rule_of_twos e (cal_check_twos e) (cal_rule_order e) f) fun ds Q _ h => p_rule_of_twos ds Q h
theorem cal_least_end (e : Nm K mg) : CalD Pg w K mg base 6 "least_end" 1 sp_least_end :=
  cal_D e.f_least_end sc_least_end rfl bi_least_end (fun f => w_least_end e (cal_check_twos e) (cal_raw_end e) (cal_rule_order e) f) fun ds Q _ h => p_least_end ds Q h
theorem cal_best_two_orders (e : Nm K mg) : CalD Pg w K mg base 6 "best_two_orders" 1 sp_best_two_orders :=
  cal_D e.f_best_two_orders sc_best_two_orders rfl bi_best_two_orders (fun f => w_best_two_orders e (cal_check_twos e) (cal_raw_end e) (cal_rule_order e) (cal_all_orders e) f) fun ds Q _ h => p_best_two_orders ds Q h
theorem cal_raw_barring (e : Nm K mg) : CalD Pg w K mg base 1 "raw_barring" 2 sp_raw_barring :=
  cal_D e.f_raw_barring sc_raw_barring rfl bi_raw_barring (fun f => w_raw_barring e  f) fun ds Q _ h => p_raw_barring ds Q h
theorem cal_end_without_place (e : Nm K mg) : CalD Pg w K mg base 7 "end_without_place" 2 sp_end_without_place :=
  cal_D e.f_end_without_place sc_end_without_place rfl bi_end_without_place (fun f => w_end_without_place e (cal_check_two_order e) (cal_raw_barring e) f) fun ds Q _ h => p_end_without_place ds Q h
theorem cal_end_at_once (e : Nm K mg) : CalD Pg w K mg base 7 "end_at_once" 2 sp_end_at_once :=
  cal_D e.f_end_at_once sc_end_at_once rfl bi_end_at_once (fun f => w_end_at_once e (cal_check_two_order e) f) fun ds Q _ h => p_end_at_once ds Q h
theorem cal_least_at_once (e : Nm K mg) : CalD Pg w K mg base 6 "least_at_once" 1 sp_least_at_once :=
  cal_D e.f_least_at_once sc_least_at_once rfl bi_least_at_once (fun f => w_least_at_once e (cal_check_twos e) (cal_raw_barring e) (cal_all_orders e) f) fun ds Q _ h => p_least_at_once ds Q h
theorem cal_check_threes (e : Nm K mg) : CalD Pg w K mg base 4 "check_threes" 1 sp_check_threes :=
  cal_D e.f_check_threes sc_check_threes rfl bi_check_threes (fun f => w_check_threes e (cal_is_sized e) (cal_are_minutes e) f) fun ds Q _ h => p_check_threes ds Q h
theorem cal_raw_threes (e : Nm K mg) : CalD Pg w K mg base 1 "raw_threes" 2 sp_raw_threes :=
  cal_D e.f_raw_threes sc_raw_threes rfl bi_raw_threes (fun f => w_raw_threes e  f) fun ds Q _ h => p_raw_threes ds Q h
theorem cal_end_of_threes (e : Nm K mg) : CalD Pg w K mg base 5 "end_of_threes" 2 sp_end_of_threes :=
  cal_D e.f_end_of_threes sc_end_of_threes rfl bi_end_of_threes (fun f => w_end_of_threes e (cal_check_threes e) (cal_raw_threes e) (cal_is_order e) f) fun ds Q _ h => p_end_of_threes ds Q h
theorem cal_least_of_threes (e : Nm K mg) : CalD Pg w K mg base 5 "least_of_threes" 1 sp_least_of_threes :=
  cal_D e.f_least_of_threes sc_least_of_threes rfl bi_least_of_threes (fun f => w_least_of_threes e (cal_check_threes e) (cal_raw_threes e) (cal_all_orders e) f) fun ds Q _ h => p_least_of_threes ds Q h
theorem cal_is_middle_light (e : Nm K mg) : CalD Pg w K mg base 5 "is_middle_light" 1 sp_is_middle_light :=
  cal_D e.f_is_middle_light sc_is_middle_light rfl bi_is_middle_light (fun f => w_is_middle_light e (cal_check_threes e) f) fun ds Q _ h => p_is_middle_light ds Q h
theorem cal_law_hand (e : Nm K mg) : CalS Pg w K mg base 1 "_law_hand" (SpN K fun ns => ns.length ≤ 63) :=
  cal_N (st1 := st1_law_hand) (e := ev_law_hand) 1 e.f_law_hand sc_law_hand bi_law_hand rfl (fun f cdv A outer s H E hr => w_law_hand e f cdv A outer s H E hr) (fun f cdv A outer s H E hr => v_law_hand e f cdv A outer s H E hr) p_law_hand
theorem cal_law_draw (e : Nm K mg) : CalH Pg w K mg base 1 "_law_draw" 1 sp_law_draw :=
  cal_W e.f_law_draw sc_law_draw rfl bi_law_draw (fun f h cdv A outer s H E hr => w_law_draw e f h cdv A outer s H E hr) fun hs ds Q hc _ h => p_law_draw hs ds Q hc h
theorem cal_law_any (e : Nm K mg) : CalH Pg w K mg base 2 "_law_any" 1 sp_law_any :=
  cal_H e.f_law_any sc_law_any rfl bi_law_any (fun f => w_law_any e (cal_law_draw e) f) fun h ds Q _ hh => p_law_any h ds Q hh
theorem cal_law_mixed (e : Nm K mg) : CalH Pg w K mg base 2 "_law_mixed" 1 sp_law_mixed :=
  cal_H e.f_law_mixed sc_law_mixed rfl bi_law_mixed (fun f => w_law_mixed e (cal_law_draw e) f) fun h ds Q _ hh => p_law_mixed h ds Q hh
theorem cal_law_end (e : Nm K mg) : CalD Pg w K mg base 1 "_law_end" 2 sp_law_end :=
  cal_D e.f_law_end sc_law_end rfl bi_law_end (fun f => w_law_end e  f) fun ds Q _ h => p_law_end ds Q h
theorem cal_law_at_once (e : Nm K mg) : CalD Pg w K mg base 1 "_law_at_once" 2 sp_law_at_once :=
  cal_D e.f_law_at_once sc_law_at_once rfl bi_law_at_once (fun f => w_law_at_once e  f) fun ds Q _ h => p_law_at_once ds Q h
theorem cal_law_are_threes_right (e : Nm K mg) : CalH Pg w K mg base 6 "_law_are_threes_right" 0 sp_law_are_threes_right :=
  cal_H e.f_law_are_threes_right sc_law_are_threes_right rfl bi_law_are_threes_right (fun f => w_law_are_threes_right e (cal_law_any e) (cal_law_end e) (cal_least_of_threes e) (cal_law_mixed e) (cal_end_of_threes e) (cal_is_middle_light e) (cal_law_draw e) f) fun h ds Q _ hh => p_law_are_threes_right h ds Q hh
theorem cal_law_is_right (e : Nm K mg) : CalH Pg w K mg base 8 "_law_is_right" 0 sp_law_is_right :=
  cal_H e.f_law_is_right sc_law_is_right rfl bi_law_is_right (fun f => w_law_is_right e (cal_law_any e) (cal_least_end e) (cal_law_are_threes_right e) (cal_law_mixed e) (cal_law_end e) (cal_law_at_once e) (cal_paper_worth e) (cal_end_by e) (cal_end_at_once e) (cal_end_without_place e) (cal_best_two_orders e) (cal_twos_told e) (cal_least_at_once e) (cal_law_draw e) (cal_rule_of_twos e) f) fun h ds Q _ hh => p_law_is_right h ds Q hh
theorem ok_law {f : Addr} {fd : FuncData} (e : Nm K mg) (F : FunD K "law" "law" (defArgs s_law) (defBody s_law) (defScope s_law) [] [] f fd) : FnOk Pg w K mg base CX0 9 f fd ["script"] (SpL K) :=
  fn_L F sc_law (w_law e (cal_law_hand e) (cal_end_by e) (cal_end_at_once e) (cal_law_is_right e) f) p_law
end
def d_is_integer : He.DefD := ⟨("is_integer", none), "is_integer", "is_integer", defArgs s_is_integer, defBody s_is_integer, defScope s_is_integer, [], []⟩
def d_is_within : He.DefD := ⟨("is_within", none), "is_within", "is_within", defArgs s_is_within, defBody s_is_within, defScope s_is_within, [], []⟩
def d_is_sized : He.DefD := ⟨("is_sized", none), "is_sized", "is_sized", defArgs s_is_sized, defBody s_is_sized, defScope s_is_sized, [], []⟩
def d_are_rising : He.DefD := ⟨("are_rising", none), "are_rising", "are_rising", defArgs s_are_rising, defBody s_are_rising, defScope s_are_rising, [], []⟩
def d_is_lot : He.DefD := ⟨("is_lot", none), "is_lot", "is_lot", defArgs s_is_lot, defBody s_is_lot, defScope s_is_lot, [], []⟩
def d_is_order : He.DefD := ⟨("is_order", none), "is_order", "is_order", defArgs s_is_order, defBody s_is_order, defScope s_is_order, [], []⟩
def d_all_lots : He.DefD := ⟨("all_lots", none), "all_lots", "all_lots", defArgs s_all_lots, defBody s_all_lots, defScope s_all_lots, [], []⟩
def d_all_orders : He.DefD := ⟨("all_orders", none), "all_orders", "all_orders", defArgs s_all_orders, defBody s_all_orders, defScope s_all_orders, [], []⟩
def d_are_minutes : He.DefD := ⟨("are_minutes", none), "are_minutes", "are_minutes", defArgs s_are_minutes, defBody s_are_minutes, defScope s_are_minutes, [], []⟩
def d_are_twos : He.DefD := ⟨("are_twos", none), "are_twos", "are_twos", defArgs s_are_twos, defBody s_are_twos, defScope s_are_twos, [], []⟩
def d_check_twos : He.DefD := ⟨("check_twos", none), "check_twos", "check_twos", defArgs s_check_twos, defBody s_check_twos, defScope s_check_twos, [], []⟩
def d_check_two_order : He.DefD := ⟨("check_two_order", none), "check_two_order", "check_two_order", defArgs s_check_two_order, defBody s_check_two_order, defScope s_check_two_order, [], []⟩
def d_raw_ends : He.DefD := ⟨("raw_ends", none), "raw_ends", "raw_ends", defArgs s_raw_ends, defBody s_raw_ends, defScope s_raw_ends, [], []⟩
def d_raw_end : He.DefD := ⟨("raw_end", none), "raw_end", "raw_end", defArgs s_raw_end, defBody s_raw_end, defScope s_raw_end, [], []⟩
def d_end_by : He.DefD := ⟨("end_by", none), "end_by", "end_by", defArgs s_end_by, defBody s_end_by, defScope s_end_by, [], []⟩
def d_check_side : He.DefD := ⟨("check_side", none), "check_side", "check_side", defArgs s_check_side, defBody s_check_side, defScope s_check_side, [], []⟩
def d_raw_paper_worth : He.DefD := ⟨("raw_paper_worth", none), "raw_paper_worth", "raw_paper_worth", defArgs s_raw_paper_worth, defBody s_raw_paper_worth, defScope s_raw_paper_worth, [], []⟩
def d_paper_worth : He.DefD := ⟨("paper_worth", none), "paper_worth", "paper_worth", defArgs s_paper_worth, defBody s_paper_worth, defScope s_paper_worth, [], []⟩
def d_papers_above : He.DefD := ⟨("papers_above", none), "papers_above", "papers_above", defArgs s_papers_above, defBody s_papers_above, defScope s_papers_above, [], []⟩
def d_check_two_minute : He.DefD := ⟨("check_two_minute", none), "check_two_minute", "check_two_minute", defArgs s_check_two_minute, defBody s_check_two_minute, defScope s_check_two_minute, [], []⟩
def d_twos_told : He.DefD := ⟨("twos_told", none), "twos_told", "twos_told", defArgs s_twos_told, defBody s_twos_told, defScope s_twos_told, [], []⟩
def d_rule_order : He.DefD := ⟨("rule_order", none), "rule_order", "rule_order", defArgs s_rule_order, defBody s_rule_order, defScope s_rule_order, [], []⟩
def d_rule_of_twos : He.DefD := ⟨("rule_of_twos", none), "rule_of_twos", "rule_of_twos", defArgs s_rule_of_twos, defBody s_rule_of_twos, defScope s_rule_of_twos, [], []⟩
def d_least_end : He.DefD := ⟨("least_end", none), "least_end", "least_end", defArgs s_least_end, defBody s_least_end, defScope s_least_end, [], []⟩
def d_best_two_orders : He.DefD := ⟨("best_two_orders", none), "best_two_orders", "best_two_orders", defArgs s_best_two_orders, defBody s_best_two_orders, defScope s_best_two_orders, [], []⟩
def d_raw_barring : He.DefD := ⟨("raw_barring", none), "raw_barring", "raw_barring", defArgs s_raw_barring, defBody s_raw_barring, defScope s_raw_barring, [], []⟩
def d_end_without_place : He.DefD := ⟨("end_without_place", none), "end_without_place", "end_without_place", defArgs s_end_without_place, defBody s_end_without_place, defScope s_end_without_place, [], []⟩
def d_end_at_once : He.DefD := ⟨("end_at_once", none), "end_at_once", "end_at_once", defArgs s_end_at_once, defBody s_end_at_once, defScope s_end_at_once, [], []⟩
def d_least_at_once : He.DefD := ⟨("least_at_once", none), "least_at_once", "least_at_once", defArgs s_least_at_once, defBody s_least_at_once, defScope s_least_at_once, [], []⟩
def d_check_threes : He.DefD := ⟨("check_threes", none), "check_threes", "check_threes", defArgs s_check_threes, defBody s_check_threes, defScope s_check_threes, [], []⟩
def d_raw_threes : He.DefD := ⟨("raw_threes", none), "raw_threes", "raw_threes", defArgs s_raw_threes, defBody s_raw_threes, defScope s_raw_threes, [], []⟩
def d_end_of_threes : He.DefD := ⟨("end_of_threes", none), "end_of_threes", "end_of_threes", defArgs s_end_of_threes, defBody s_end_of_threes, defScope s_end_of_threes, [], []⟩
def d_least_of_threes : He.DefD := ⟨("least_of_threes", none), "least_of_threes", "least_of_threes", defArgs s_least_of_threes, defBody s_least_of_threes, defScope s_least_of_threes, [], []⟩
def d_is_middle_light : He.DefD := ⟨("is_middle_light", none), "is_middle_light", "is_middle_light", defArgs s_is_middle_light, defBody s_is_middle_light, defScope s_is_middle_light, [], []⟩
def d_law_hand : He.DefD := ⟨("_law_hand", none), "_law_hand", "_law_hand", defArgs s_law_hand, defBody s_law_hand, defScope s_law_hand, [], []⟩
def d_law_draw : He.DefD := ⟨("_law_draw", none), "_law_draw", "_law_draw", defArgs s_law_draw, defBody s_law_draw, defScope s_law_draw, [], []⟩
def d_law_any : He.DefD := ⟨("_law_any", none), "_law_any", "_law_any", defArgs s_law_any, defBody s_law_any, defScope s_law_any, [], []⟩
def d_law_mixed : He.DefD := ⟨("_law_mixed", none), "_law_mixed", "_law_mixed", defArgs s_law_mixed, defBody s_law_mixed, defScope s_law_mixed, [], []⟩
def d_law_end : He.DefD := ⟨("_law_end", none), "_law_end", "_law_end", defArgs s_law_end, defBody s_law_end, defScope s_law_end, [], []⟩
def d_law_at_once : He.DefD := ⟨("_law_at_once", none), "_law_at_once", "_law_at_once", defArgs s_law_at_once, defBody s_law_at_once, defScope s_law_at_once, [], []⟩
def d_law_is_right : He.DefD := ⟨("_law_is_right", none), "_law_is_right", "_law_is_right", defArgs s_law_is_right, defBody s_law_is_right, defScope s_law_is_right, [], []⟩
def d_law_are_threes_right : He.DefD := ⟨("_law_are_threes_right", none), "_law_are_threes_right", "_law_are_threes_right", defArgs s_law_are_threes_right, defBody s_law_are_threes_right, defScope s_law_are_threes_right, [], []⟩
def d_law : He.DefD := ⟨("law", none), "law", "law", defArgs s_law, defBody s_law, defScope s_law, [], []⟩
def fn : List He.DefD := [d_is_integer, d_is_within, d_is_sized, d_are_rising, d_is_lot, d_is_order, d_all_lots, d_all_orders, d_are_minutes, d_are_twos, d_check_twos, d_check_two_order, d_raw_ends, d_raw_end, d_end_by, d_check_side, d_raw_paper_worth, d_paper_worth, d_papers_above, d_check_two_minute, d_twos_told, d_rule_order, d_rule_of_twos, d_least_end, d_best_two_orders, d_raw_barring, d_end_without_place, d_end_at_once, d_least_at_once, d_check_threes, d_raw_threes, d_end_of_threes, d_least_of_threes, d_is_middle_light, d_law_hand, d_law_draw, d_law_any, d_law_mixed, d_law_end, d_law_at_once, d_law_is_right, d_law_are_threes_right, d_law]
def fa : List He.Fa := [.glo "is_integer", .glo "is_within", .glo "is_sized", .glo "are_rising", .glo "is_lot", .glo "is_order", .glo "all_lots", .glo "all_orders", .glo "are_minutes", .glo "are_twos", .glo "check_twos", .glo "check_two_order", .glo "raw_ends", .glo "raw_end", .glo "end_by", .glo "check_side", .glo "raw_paper_worth", .glo "paper_worth", .glo "papers_above", .glo "check_two_minute", .glo "twos_told", .glo "rule_order", .glo "rule_of_twos", .glo "least_end", .glo "best_two_orders", .glo "raw_barring", .glo "end_without_place", .glo "end_at_once", .glo "least_at_once", .glo "check_threes", .glo "raw_threes", .glo "end_of_threes", .glo "least_of_threes", .glo "is_middle_light", .glo "_law_hand", .glo "_law_draw", .glo "_law_any", .glo "_law_mixed", .glo "_law_end", .glo "_law_at_once", .glo "_law_is_right", .glo "_law_are_threes_right", .glo "law", .free "abs", .free "all", .free "bool", .free "enumerate", .free "int", .free "isinstance", .free "len", .free "list", .free "max", .free "min", .free "range", .free "repr", .free "sorted", .free "str", .free "sum", .free "tuple", .free "zip", .int "MOST_TWOS" (7), .int "MOST_STATION_MINUTES" (60), .int "MOST_BY" (2000), .int "MOST_THREES" (6), .str "FIRST_SIDE" "first", .str "LAST_SIDE" "last", .str "ORDER_TOLD" "order", .str "PAPER_BARS" "bar"]
def names : List PySem.Str := (["__name__", "is_integer", "is_within", "is_sized", "are_rising", "is_lot", "is_order", "all_lots", "all_orders", "KitchenError", "NoLot", "NoMinute", "NoOrder", "NoSide", "NoThrees", "NoTwos", "MOST_TWOS", "MOST_STATION_MINUTES", "MOST_BY", "MOST_THREES", "FIRST_SIDE", "LAST_SIDE", "ORDER_TOLD", "PAPER_BARS", "are_minutes", "are_twos", "check_twos", "check_two_order", "raw_ends", "raw_end"] : List PySem.Str) ++ (["end_by", "check_side", "raw_paper_worth", "paper_worth", "papers_above", "check_two_minute", "twos_told", "rule_order", "rule_of_twos", "least_end", "best_two_orders", "raw_barring", "end_without_place", "end_at_once", "least_at_once", "check_threes", "raw_threes", "end_of_threes", "least_of_threes", "is_middle_light", "_law_hand", "_law_draw", "_law_any", "_law_mixed", "_law_end", "_law_at_once", "_law_is_right", "_law_are_threes_right"] : List PySem.Str)
abbrev R : PySem.W.OpenRow := PySem.W.OpenLaw.row PySem.Challenge.rw_kitchenhall_k01_whole_two_stations_turne
abbrev hk : PySem.W.Hook := He.hookD 4 fa fn
def ob (s : PySem.W.SharedT) : He.AlD := He.obsDG 4 fa fn (HandSHeadRun.getT s)
theorem ob_eq (s : PySem.W.SharedT) : ob s = hk.obs s.abs := He.obsDG_eq (HandSHeadRun.getT_eq s)
theorem run (w : World) : HandSHeadRun.RunEq R (PySem.W.view R.prog [61]) hk ob 3000 names w := by
  intro os
  kernel_rfl
theorem nm {K : PySem.W.Frag} {h : Heap} {mg : PySem.Str → Option Value} (X : K.In h) (G : h.Ns mainGlobals mg) (c : He.SaysD fa fn K) : Nm K mg where
  b_abs := He.free_ok X G (c.fact 43 (f := .free "abs") rfl)
  b_all := He.free_ok X G (c.fact 44 (f := .free "all") rfl)
  b_bool := He.free_ok X G (c.fact 45 (f := .free "bool") rfl)
  b_enumerate := He.free_ok X G (c.fact 46 (f := .free "enumerate") rfl)
  b_int := He.free_ok X G (c.fact 47 (f := .free "int") rfl)
  b_isinstance := He.free_ok X G (c.fact 48 (f := .free "isinstance") rfl)
  b_len := He.free_ok X G (c.fact 49 (f := .free "len") rfl)
  b_list := He.free_ok X G (c.fact 50 (f := .free "list") rfl)
  b_max := He.free_ok X G (c.fact 51 (f := .free "max") rfl)
  b_min := He.free_ok X G (c.fact 52 (f := .free "min") rfl)
  b_range := He.free_ok X G (c.fact 53 (f := .free "range") rfl)
  b_repr := He.free_ok X G (c.fact 54 (f := .free "repr") rfl)
  b_sorted := He.free_ok X G (c.fact 55 (f := .free "sorted") rfl)
  b_str := He.free_ok X G (c.fact 56 (f := .free "str") rfl)
  b_sum := He.free_ok X G (c.fact 57 (f := .free "sum") rfl)
  b_tuple := He.free_ok X G (c.fact 58 (f := .free "tuple") rfl)
  b_zip := He.free_ok X G (c.fact 59 (f := .free "zip") rfl)
  c_MOST_TWOS := He.int_ok X G (c.fact 60 (f := .int "MOST_TWOS" (7)) rfl)
  c_MOST_STATION_MINUTES := He.int_ok X G (c.fact 61 (f := .int "MOST_STATION_MINUTES" (60)) rfl)
  c_MOST_BY := He.int_ok X G (c.fact 62 (f := .int "MOST_BY" (2000)) rfl)
  c_MOST_THREES := He.int_ok X G (c.fact 63 (f := .int "MOST_THREES" (6)) rfl)
  c_FIRST_SIDE := He.str_ok X G (c.fact 64 (f := .str "FIRST_SIDE" "first") rfl)
  c_LAST_SIDE := He.str_ok X G (c.fact 65 (f := .str "LAST_SIDE" "last") rfl)
  c_ORDER_TOLD := He.str_ok X G (c.fact 66 (f := .str "ORDER_TOLD" "order") rfl)
  c_PAPER_BARS := He.str_ok X G (c.fact 67 (f := .str "PAPER_BARS" "bar") rfl)
  f_is_integer := by
    obtain ⟨fd, F⟩ := c.def_ 0 (d := d_is_integer) rfl
    exact ⟨_, fd, F, He.glo_ok X G (c.fact 0 (f := .glo "is_integer") rfl)⟩
  f_is_within := by
    obtain ⟨fd, F⟩ := c.def_ 1 (d := d_is_within) rfl
    exact ⟨_, fd, F, He.glo_ok X G (c.fact 1 (f := .glo "is_within") rfl)⟩
  f_is_sized := by
    obtain ⟨fd, F⟩ := c.def_ 2 (d := d_is_sized) rfl
    exact ⟨_, fd, F, He.glo_ok X G (c.fact 2 (f := .glo "is_sized") rfl)⟩
  f_are_rising := by
    obtain ⟨fd, F⟩ := c.def_ 3 (d := d_are_rising) rfl
    exact ⟨_, fd, F, He.glo_ok X G (c.fact 3 (f := .glo "are_rising") rfl)⟩
  f_is_lot := by
    obtain ⟨fd, F⟩ := c.def_ 4 (d := d_is_lot) rfl
    exact ⟨_, fd, F, He.glo_ok X G (c.fact 4 (f := .glo "is_lot") rfl)⟩
  f_is_order := by
    obtain ⟨fd, F⟩ := c.def_ 5 (d := d_is_order) rfl
    exact ⟨_, fd, F, He.glo_ok X G (c.fact 5 (f := .glo "is_order") rfl)⟩
  f_all_lots := by
    obtain ⟨fd, F⟩ := c.def_ 6 (d := d_all_lots) rfl
    exact ⟨_, fd, F, He.glo_ok X G (c.fact 6 (f := .glo "all_lots") rfl)⟩
  f_all_orders := by
    obtain ⟨fd, F⟩ := c.def_ 7 (d := d_all_orders) rfl
    exact ⟨_, fd, F, He.glo_ok X G (c.fact 7 (f := .glo "all_orders") rfl)⟩
  f_are_minutes := by
    obtain ⟨fd, F⟩ := c.def_ 8 (d := d_are_minutes) rfl
    exact ⟨_, fd, F, He.glo_ok X G (c.fact 8 (f := .glo "are_minutes") rfl)⟩
  f_are_twos := by
    obtain ⟨fd, F⟩ := c.def_ 9 (d := d_are_twos) rfl
    exact ⟨_, fd, F, He.glo_ok X G (c.fact 9 (f := .glo "are_twos") rfl)⟩
  f_check_twos := by
    obtain ⟨fd, F⟩ := c.def_ 10 (d := d_check_twos) rfl
    exact ⟨_, fd, F, He.glo_ok X G (c.fact 10 (f := .glo "check_twos") rfl)⟩
  f_check_two_order := by
    obtain ⟨fd, F⟩ := c.def_ 11 (d := d_check_two_order) rfl
    exact ⟨_, fd, F, He.glo_ok X G (c.fact 11 (f := .glo "check_two_order") rfl)⟩
  f_raw_ends := by
    obtain ⟨fd, F⟩ := c.def_ 12 (d := d_raw_ends) rfl
    exact ⟨_, fd, F, He.glo_ok X G (c.fact 12 (f := .glo "raw_ends") rfl)⟩
  f_raw_end := by
    obtain ⟨fd, F⟩ := c.def_ 13 (d := d_raw_end) rfl
    exact ⟨_, fd, F, He.glo_ok X G (c.fact 13 (f := .glo "raw_end") rfl)⟩
  f_end_by := by
    obtain ⟨fd, F⟩ := c.def_ 14 (d := d_end_by) rfl
    exact ⟨_, fd, F, He.glo_ok X G (c.fact 14 (f := .glo "end_by") rfl)⟩
  f_check_side := by
    obtain ⟨fd, F⟩ := c.def_ 15 (d := d_check_side) rfl
    exact ⟨_, fd, F, He.glo_ok X G (c.fact 15 (f := .glo "check_side") rfl)⟩
  f_raw_paper_worth := by
    obtain ⟨fd, F⟩ := c.def_ 16 (d := d_raw_paper_worth) rfl
    exact ⟨_, fd, F, He.glo_ok X G (c.fact 16 (f := .glo "raw_paper_worth") rfl)⟩
  f_paper_worth := by
    obtain ⟨fd, F⟩ := c.def_ 17 (d := d_paper_worth) rfl
    exact ⟨_, fd, F, He.glo_ok X G (c.fact 17 (f := .glo "paper_worth") rfl)⟩
  f_papers_above := by
    obtain ⟨fd, F⟩ := c.def_ 18 (d := d_papers_above) rfl
    exact ⟨_, fd, F, He.glo_ok X G (c.fact 18 (f := .glo "papers_above") rfl)⟩
  f_check_two_minute := by
    obtain ⟨fd, F⟩ := c.def_ 19 (d := d_check_two_minute) rfl
    exact ⟨_, fd, F, He.glo_ok X G (c.fact 19 (f := .glo "check_two_minute") rfl)⟩
  f_twos_told := by
    obtain ⟨fd, F⟩ := c.def_ 20 (d := d_twos_told) rfl
    exact ⟨_, fd, F, He.glo_ok X G (c.fact 20 (f := .glo "twos_told") rfl)⟩
  f_rule_order := by
    obtain ⟨fd, F⟩ := c.def_ 21 (d := d_rule_order) rfl
    exact ⟨_, fd, F, He.glo_ok X G (c.fact 21 (f := .glo "rule_order") rfl)⟩
  f_rule_of_twos := by
    obtain ⟨fd, F⟩ := c.def_ 22 (d := d_rule_of_twos) rfl
    exact ⟨_, fd, F, He.glo_ok X G (c.fact 22 (f := .glo "rule_of_twos") rfl)⟩
  f_least_end := by
    obtain ⟨fd, F⟩ := c.def_ 23 (d := d_least_end) rfl
    exact ⟨_, fd, F, He.glo_ok X G (c.fact 23 (f := .glo "least_end") rfl)⟩
  f_best_two_orders := by
    obtain ⟨fd, F⟩ := c.def_ 24 (d := d_best_two_orders) rfl
    exact ⟨_, fd, F, He.glo_ok X G (c.fact 24 (f := .glo "best_two_orders") rfl)⟩
  f_raw_barring := by
    obtain ⟨fd, F⟩ := c.def_ 25 (d := d_raw_barring) rfl
    exact ⟨_, fd, F, He.glo_ok X G (c.fact 25 (f := .glo "raw_barring") rfl)⟩
  f_end_without_place := by
    obtain ⟨fd, F⟩ := c.def_ 26 (d := d_end_without_place) rfl
    exact ⟨_, fd, F, He.glo_ok X G (c.fact 26 (f := .glo "end_without_place") rfl)⟩
  f_end_at_once := by
    obtain ⟨fd, F⟩ := c.def_ 27 (d := d_end_at_once) rfl
    exact ⟨_, fd, F, He.glo_ok X G (c.fact 27 (f := .glo "end_at_once") rfl)⟩
  f_least_at_once := by
    obtain ⟨fd, F⟩ := c.def_ 28 (d := d_least_at_once) rfl
    exact ⟨_, fd, F, He.glo_ok X G (c.fact 28 (f := .glo "least_at_once") rfl)⟩
  f_check_threes := by
    obtain ⟨fd, F⟩ := c.def_ 29 (d := d_check_threes) rfl
    exact ⟨_, fd, F, He.glo_ok X G (c.fact 29 (f := .glo "check_threes") rfl)⟩
  f_raw_threes := by
    obtain ⟨fd, F⟩ := c.def_ 30 (d := d_raw_threes) rfl
    exact ⟨_, fd, F, He.glo_ok X G (c.fact 30 (f := .glo "raw_threes") rfl)⟩
  f_end_of_threes := by
    obtain ⟨fd, F⟩ := c.def_ 31 (d := d_end_of_threes) rfl
    exact ⟨_, fd, F, He.glo_ok X G (c.fact 31 (f := .glo "end_of_threes") rfl)⟩
  f_least_of_threes := by
    obtain ⟨fd, F⟩ := c.def_ 32 (d := d_least_of_threes) rfl
    exact ⟨_, fd, F, He.glo_ok X G (c.fact 32 (f := .glo "least_of_threes") rfl)⟩
  f_is_middle_light := by
    obtain ⟨fd, F⟩ := c.def_ 33 (d := d_is_middle_light) rfl
    exact ⟨_, fd, F, He.glo_ok X G (c.fact 33 (f := .glo "is_middle_light") rfl)⟩
  f_law_hand := by
    obtain ⟨fd, F⟩ := c.def_ 34 (d := d_law_hand) rfl
    exact ⟨_, fd, F, He.glo_ok X G (c.fact 34 (f := .glo "_law_hand") rfl)⟩
  f_law_draw := by
    obtain ⟨fd, F⟩ := c.def_ 35 (d := d_law_draw) rfl
    exact ⟨_, fd, F, He.glo_ok X G (c.fact 35 (f := .glo "_law_draw") rfl)⟩
  f_law_any := by
    obtain ⟨fd, F⟩ := c.def_ 36 (d := d_law_any) rfl
    exact ⟨_, fd, F, He.glo_ok X G (c.fact 36 (f := .glo "_law_any") rfl)⟩
  f_law_mixed := by
    obtain ⟨fd, F⟩ := c.def_ 37 (d := d_law_mixed) rfl
    exact ⟨_, fd, F, He.glo_ok X G (c.fact 37 (f := .glo "_law_mixed") rfl)⟩
  f_law_end := by
    obtain ⟨fd, F⟩ := c.def_ 38 (d := d_law_end) rfl
    exact ⟨_, fd, F, He.glo_ok X G (c.fact 38 (f := .glo "_law_end") rfl)⟩
  f_law_at_once := by
    obtain ⟨fd, F⟩ := c.def_ 39 (d := d_law_at_once) rfl
    exact ⟨_, fd, F, He.glo_ok X G (c.fact 39 (f := .glo "_law_at_once") rfl)⟩
  f_law_is_right := by
    obtain ⟨fd, F⟩ := c.def_ 40 (d := d_law_is_right) rfl
    exact ⟨_, fd, F, He.glo_ok X G (c.fact 40 (f := .glo "_law_is_right") rfl)⟩
  f_law_are_threes_right := by
    obtain ⟨fd, F⟩ := c.def_ 41 (d := d_law_are_threes_right) rfl
    exact ⟨_, fd, F, He.glo_ok X G (c.fact 41 (f := .glo "_law_are_threes_right") rfl)⟩
  f_law := by
    obtain ⟨fd, F⟩ := c.def_ 42 (d := d_law) rfl
    exact ⟨_, fd, F, He.glo_ok X G (c.fact 42 (f := .glo "law") rfl)⟩
theorem facts {P : Program} {w : World} {K : PySem.W.Frag} {h : Heap} {mg : PySem.Str → Option Value} {f : Addr} (X : K.In h) (G : h.Ns mainGlobals mg) (hfa : mg ("law" : PySem.Str) = some (.ref f)) (c : He.SaysD fa fn K) :
    ∃ fd : FuncData, (∀ (s : Shared) (v : Value), BindsTo s fd ⟨[v], []⟩ [("script", v)]) ∧ ∀ base : Heap, K.In base → base.Ns mainGlobals mg → FnOk P w K mg base CX0 9 f fd ["script"] (SpL K) := by
  obtain ⟨fd, F⟩ := c.def_ 42 (d := d_law) rfl
  have e := hfa.symm.trans (He.glo_ok X G (c.fact 42 (f := .glo "law") rfl))
  cases e
  have b := FunD.bindsA (ps := ["script"]) F bi_law
  exact ⟨fd, fun s v => b s [v] rfl, fun base _ _ => ok_law (nm X G c) F⟩
end Gk01
open PySem PySem.W PySem.Calls PyProof.Rows
theorem PySem.Challenge.cw_kitchenhall_k01_whole_two_stations_turne_holds : PySem.Challenge.rw_kitchenhall_k01_whole_two_stations_turne.Holds := by
  w_on; o_law
  refine HandSHeadRun.head_any (r := OpenLaw.row PySem.Challenge.rw_kitchenhall_k01_whole_two_stations_turne) (q := view (OpenLaw.row PySem.Challenge.rw_kitchenhall_k01_whole_two_stations_turne).prog [61]) (H := Gk01.hk) (ob := Gk01.ob) (M := 3000) (loose := Gk01.names) (d := HandSHeadRun.topDef (OpenLaw.row PySem.Challenge.rw_kitchenhall_k01_whole_two_stations_turne).prog 61) (kwd := []) Gk01.ob_eq
    (by kernel_rfl) (fun s => by kernel_rfl) Gk01.run (by kernel_rfl) (by kernel_rfl) (by kernel_rfl) (by rfl) (by first | assumption | decide +kernel) (by decide +kernel) ⟨rfl, rfl, rfl, rfl, rfl, by decide +kernel⟩ ?hw ?hc
  case hw => w_witness2
  case hc =>
    refine L2.walk_ofE (l := PySem.Challenge.rw_kitchenhall_k01_whole_two_stations_turne) (n := 63) (k := 9) (x := "script") (CX := L2.CX0) rfl (by decide) (by kernel_rfl) ⟨rfl, by decide, by decide⟩ ?F (fun _ _ _ _ z => z)
    intro w mg fa h Y G hmg0
    obtain ⟨K, KX, c⟩ := Y
    have hmg : mg ("law" : PySem.Str) = some (.ref fa) := by
      have e : (HandSHeadRun.topDef (OpenLaw.row PySem.Challenge.rw_kitchenhall_k01_whole_two_stations_turne).prog 61).name = ("law" : PySem.Str) := by kernel_rfl
      rw [← e]
      exact hmg0
    obtain ⟨fd, hb, hF⟩ := Gk01.facts (P := (PySem.Challenge.rw_kitchenhall_k01_whole_two_stations_turne).prog) (w := w) KX G hmg c
    exact ⟨K, fd, Z3.SpL K, KX, hb, fun H a ns hl _ hS => ⟨a, ns, rfl, hl, hS, fun _ => rfl⟩, hF⟩

